import PyProof.Rows.All
import Wide.All
import OpenK.AllK
import Wide.FinOn
import KE.GoesEnum
import HandS.ForMost
import HandS.Exc
import HandS.ExcOwn
import HandS.ExcInit
import HandS.ExcIs
import HandS.ExcField
import HandS.TryOnly
import HandS.WordsExc
import HandS.Wide
import HandS.Defaults
import HandS.ClsMeth
import HandS.IsInst
import HandS.Conv
import HandS.HeadHook4
import HandS.Head0
import HandS.Head1
import HandS.Head2
import HandS.HeadEnd
import HandS.More
import HandS.IterVal
import HandS.HeadHook3
import PySem.Challenge.RW_whomay_k92_deed_rows
import HandS.ExcCtx
import HandS.SuiteRaise
import HandS.RaiseFrom
import HandS.ExcInitHot
import HandS.Style
import HandS.Walk
import HandS.Codes
import HandS.OwnEq
import KE.KCallOwn
import HandS.HotCalls
import HandS.CallSlots
import HandS.MakeKw
import HandS.RaiseOp
import HandS.SortRule
import KE.KSortTupAny
import HandS.MakeKwOnly
import KE.KDictZip
import KE.KItemsList
import HandS.Iter
import HandS.ListItems
import HandS.DictTup
import HandS.Zip
import KE.GoesMore
import HandS.TupMul
import HandS.SetFor
import HandS.TupAny
import HandS.Deep
import HandS.Dict
import HandS.Text
import PyProof.StrLawsChain
set_option Elab.async false
set_option linter.all false
set_option maxRecDepth 100000
set_option maxHeartbeats 4000000
set_option synthInstance.maxSize 1000000
set_option synthInstance.maxHeartbeats 2000000
/-! what the head looks at: ahead of all else, so that the head may stand first -/
namespace RX
open PySem PySem.Spec PyProof.Rows L2
def oexB (K : PySem.W.Frag) (C : Addr) : Bool := (match K.lookup C with
  | some ⟨.type "type", _, .cls cd, sl⟩ => (match cd.mro, sl.toList with
    | .ref C' :: bm, [_, _, _, _, some (.builtin n), _] => C' == C && (n == "ValueError.__new__" && (!cd.hasDel && (cd.hasDict && PySem.HandSPX.refsVE bm)))
    | _, _ => false)
  | _ => false) && (decide (PySem.W.findIn K (.ref C) "__setattr__" = some (some (.builtin "object.__setattr__"))) && (decide (PySem.W.subIn K (.ref C) (.type "BaseException") = some true) &&
    (decide (PySem.W.typeIn K (.ref C) = some (.type "type")) && PySem.W.keepIn K (.ref C))))
def excB (K : PySem.W.Frag) (D : Addr) : Bool := decide (PySem.W.findIn K (.ref D) "__class__" = some (some (.builtin "object.__class__"))) && (decide (PySem.W.specialIn K (.builtin "object.__class__") "__get__" = some (some (.builtin "getset_descriptor.__get__"))) &&
  (decide (PySem.W.takesIn K (.builtin "object.__class__") = some true) && decide (PySem.W.mroIn K D (.type "object") = some true)))
def excAtB (K : PySem.W.Frag) (C f : Addr) : Bool := oexB K C && (xfB K C && (excB K C && (decide (PySem.W.findIn K (.ref C) "__init__" = some (some (.ref f))) && decide (PySem.W.typeIn K (.ref f) = some (.type "function")))))
/-- a class whose plain defs are called through it -/
def creadB (K : PySem.W.Frag) (C : Addr) : Bool := PySem.W.readsIn K C (.type "type") && decide (PySem.W.specialIn K (.ref C) "__getattribute__" = some (some (.builtin "type.__getattribute__")))
def cfunB (K : PySem.W.Frag) (C : Addr) (m : Str) (f : Addr) : Bool := match PySem.W.findCls K (.ref C) (.type "type") m with
  | some (.val (.ref a)) => decide (a = f)
  | _ => false
structure SaysY (fa : List He.Fa) (fn : List He.DefD) (ex : PySem.W.Frag → Bool) (K : PySem.W.Frag) : Prop where
  d : He.SaysD fa fn K
  more : ex K = true
abbrev AlY : Type := He.AlD × Bool
/-- what the names reach: each object once, those seen marked in a number's bits -/
def addY : List Addr → Nat → List Addr → (Nat → List Addr → List Addr) → List Addr
  | [], m, new, k => k m new
  | b :: r, m, new, k => match Nat.beq (Nat.land (Nat.shiftRight m b) 1) 0 with
    | true => addY r (Nat.lor m (Nat.shiftLeft 1 b)) (b :: new) k
    | false => addY r m new k
def refsL (g : Addr → Option Obj) : List Addr → Nat → List Addr → (Nat → List Addr → List Addr) → List Addr
  | [], m, new, k => k m new
  | a :: r, m, new, k => addY (match g a with | some o => He.refsD o | none => []) m new fun m new => refsL g r m new k
def bfsY (g : Addr → Option Obj) : Nat → Nat → List Addr → List Addr
  | 0, _, fr => fr
  | n + 1, m, fr => fr ++ refsL g fr m [] fun m new => bfsY g n m new
def frY (n : Nat) (g : Addr → Option Obj) : PySem.W.Frag := He.frG g (cStatics :: bfsY g n (Nat.lor (Nat.shiftLeft 1 cStatics) (Nat.shiftLeft 1 mainGlobals)) [mainGlobals])
def obsY (n : Nat) (fa : List He.Fa) (fn : List He.DefD) (ex : PySem.W.Frag → Bool) (g : Addr → Option Obj) : AlY := (He.obsD fa fn (frY n g), ex (frY n g))
def hookY (n : Nat) (fa : List He.Fa) (fn : List He.DefD) (ex : PySem.W.Frag → Bool) : PySem.W.Hook where
  α := AlY
  obs := fun s => obsY n fa fn ex s.heap.get?
  val := fun _ => (He.valD fn, true)
  says := fun _ h => ∃ K : PySem.W.Frag, K.In h ∧ SaysY fa fn ex K
  of := fun _ _ e => ⟨_, He.frG_in, congrArg (fun z : AlY => z.1) e, congrArg (fun z : AlY => z.2) e⟩
  keeps := fun _ _ _ ⟨K, hK, c⟩ k => ⟨K, PySem.W.Frag.In.keeps hK k, c⟩
theorem obsY_eq {n : Nat} {fa : List He.Fa} {fn : List He.DefD} {ex : PySem.W.Frag → Bool} {g : Addr → Option Obj} {s : Shared} (h : ∀ a, g a = s.heap.get? a) : obsY n fa fn ex g = (hookY n fa fn ex).obs s := by
  have e : g = s.heap.get? := funext h
  rw [e] <;> rfl
def entT (e : DictEntry) : Option Str × Value := (match e.key with | .str x _ => some x | _ => none, e.val)
def tabV (K : PySem.W.Frag) (a : Addr) (kvs : List (Str × Addr)) : Bool := match K.lookup a with
  | some ⟨_, _, .dict es _, _⟩ => decide (es.toList.map entT = kvs.map fun q => (some q.1, Value.ref q.2))
  | _ => false
abbrev AlW : Type := AlY × List (Option (List (Option (Str × Int))))
def obsW (n : Nat) (fa : List He.Fa) (fn : List He.DefD) (ex : PySem.W.Frag → Bool) (ts : List He.Tab) (g : Addr → Option Obj) : AlW := (obsY n fa fn ex g, ts.map fun t : He.Tab => He.dicW (frY n g) (t.1 (frY n g)))
structure SaysW (fa : List He.Fa) (fn : List He.DefD) (ex : PySem.W.Frag → Bool) (ts : List He.Tab) (w : World) (K : PySem.W.Frag) : Prop where
  y : SaysY fa fn ex K
  t : (ts.map fun t => He.dicW K (t.1 K)) = ts.map fun t : He.Tab => some (He.keysIn w.params t.2)
def hookW (n : Nat) (fa : List He.Fa) (fn : List He.DefD) (ex : PySem.W.Frag → Bool) (ts : List He.Tab) : PySem.W.Hook where
  α := AlW
  obs := fun s => obsW n fa fn ex ts s.heap.get?
  val := fun w => ((He.valD fn, true), ts.map fun t : He.Tab => some (He.keysIn w.params t.2))
  says := fun w h => ∃ K : PySem.W.Frag, K.In h ∧ SaysW fa fn ex ts w K
  of := fun w s e => ⟨frY n s.heap.get?, He.frG_in, ⟨congrArg (fun z : AlW => z.1.1) e, congrArg (fun z : AlW => z.1.2) e⟩, congrArg (fun z : AlY × List (Option (List (Option (Str × Int)))) => z.2) e⟩
  keeps := fun _ _ _ ⟨K, hK, c⟩ k => ⟨K, PySem.W.Frag.In.keeps hK k, c⟩
theorem obsW_eq {n : Nat} {fa : List He.Fa} {fn : List He.DefD} {ex : PySem.W.Frag → Bool} {ts : List He.Tab} {g : Addr → Option Obj} {s : Shared} (h : ∀ a, g a = s.heap.get? a) : obsW n fa fn ex ts g = (hookW n fa fn ex ts).obs s := by
  have e : g = s.heap.get? := funext h
  rw [e] <;> rfl
end RX

namespace Toy
open PySem PySem.Spec PyProof.Rows L2 RX
def top (i : Nat) : Stmt := PySem.Challenge.pw_whomay_k92_deed_rows.main.body.getD i (.Pass ⟨0, 0, 0, 0⟩)
abbrev s_BadRow_init : Stmt := inClass (top 8) 0
abbrev s_NoDeed_init : Stmt := inClass (top 6) 0
abbrev s_law_pot : Stmt := top 25
abbrev s_law_mixed : Stmt := top 26
abbrev s_law_take : Stmt := top 27
abbrev s_law_name_at : Stmt := top 28
abbrev s_law_large : Stmt := top 29
abbrev s_law_name : Stmt := top 30
abbrev s_parts_of : Stmt := top 21
abbrev s_read_deed : Stmt := top 23
abbrev s_deed_row : Stmt := top 22
abbrev s_law_row : Stmt := top 33
abbrev s_law_read : Stmt := top 36
abbrev s_law_refused_by_base : Stmt := top 38
abbrev s_law_written : Stmt := top 37
abbrev s_law_due : Stmt := top 35
abbrev s_law_deed : Stmt := top 32
abbrev s_law_spoiled : Stmt := top 34
abbrev s_law : Stmt := top 39
/-! the head -/
def hfa : List He.Fa := [.glo "BadRow", .glo "DEEDS", .glo "NoDeed", .glo "WhoError", .glo "deed_row", .glo "law", .glo "_law_deed", .glo "_law_due", .glo "_law_large", .glo "_law_mixed", .glo "_law_name", .glo "_law_name_at", .glo "_law_pot", .glo "_law_read", .glo "_law_refused_by_base", .glo "_law_row", .glo "_law_spoiled", .glo "_law_take", .glo "_law_written", .glo "parts_of", .glo "read_deed", .noat "BadRow" "row", .noat "NoDeed" "word", .exm "BadRow" "BadRow" true, .exm "BadRow" "WhoError" true, .exm "NoDeed" "NoDeed" true, .free "ValueError", .free "abs", .free "isinstance", .free "len", .free "list", .free "range", .free "str", .free "tuple"]
def hd_BadRow_init : He.DefD := ⟨("BadRow", some "__init__"), "__init__", "BadRow.__init__", defArgs s_BadRow_init, defBody s_BadRow_init, defScope s_BadRow_init, [], []⟩
def hd_NoDeed_init : He.DefD := ⟨("NoDeed", some "__init__"), "__init__", "NoDeed.__init__", defArgs s_NoDeed_init, defBody s_NoDeed_init, defScope s_NoDeed_init, [], []⟩
def hd_law_pot : He.DefD := ⟨("_law_pot", none), "_law_pot", "_law_pot", defArgs s_law_pot, defBody s_law_pot, defScope s_law_pot, [], []⟩
def hd_law_mixed : He.DefD := ⟨("_law_mixed", none), "_law_mixed", "_law_mixed", defArgs s_law_mixed, defBody s_law_mixed, defScope s_law_mixed, [], []⟩
def hd_law_take : He.DefD := ⟨("_law_take", none), "_law_take", "_law_take", defArgs s_law_take, defBody s_law_take, defScope s_law_take, [], []⟩
def hd_law_name_at : He.DefD := ⟨("_law_name_at", none), "_law_name_at", "_law_name_at", defArgs s_law_name_at, defBody s_law_name_at, defScope s_law_name_at, [], []⟩
def hd_law_large : He.DefD := ⟨("_law_large", none), "_law_large", "_law_large", defArgs s_law_large, defBody s_law_large, defScope s_law_large, [], []⟩
def hd_law_name : He.DefD := ⟨("_law_name", none), "_law_name", "_law_name", defArgs s_law_name, defBody s_law_name, defScope s_law_name, [], []⟩
def hd_parts_of : He.DefD := ⟨("parts_of", none), "parts_of", "parts_of", defArgs s_parts_of, defBody s_parts_of, defScope s_parts_of, [.int 0], []⟩
def hd_read_deed : He.DefD := ⟨("read_deed", none), "read_deed", "read_deed", defArgs s_read_deed, defBody s_read_deed, defScope s_read_deed, [], []⟩
def hd_deed_row : He.DefD := ⟨("deed_row", none), "deed_row", "deed_row", defArgs s_deed_row, defBody s_deed_row, defScope s_deed_row, [], []⟩
def hd_law_row : He.DefD := ⟨("_law_row", none), "_law_row", "_law_row", defArgs s_law_row, defBody s_law_row, defScope s_law_row, [], []⟩
def hd_law_read : He.DefD := ⟨("_law_read", none), "_law_read", "_law_read", defArgs s_law_read, defBody s_law_read, defScope s_law_read, [], []⟩
def hd_law_refused_by_base : He.DefD := ⟨("_law_refused_by_base", none), "_law_refused_by_base", "_law_refused_by_base", defArgs s_law_refused_by_base, defBody s_law_refused_by_base, defScope s_law_refused_by_base, [], []⟩
def hd_law_written : He.DefD := ⟨("_law_written", none), "_law_written", "_law_written", defArgs s_law_written, defBody s_law_written, defScope s_law_written, [], []⟩
def hd_law_due : He.DefD := ⟨("_law_due", none), "_law_due", "_law_due", defArgs s_law_due, defBody s_law_due, defScope s_law_due, [], []⟩
def hd_law_deed : He.DefD := ⟨("_law_deed", none), "_law_deed", "_law_deed", defArgs s_law_deed, defBody s_law_deed, defScope s_law_deed, [], []⟩
def hd_law_spoiled : He.DefD := ⟨("_law_spoiled", none), "_law_spoiled", "_law_spoiled", defArgs s_law_spoiled, defBody s_law_spoiled, defScope s_law_spoiled, [], []⟩
def hd_law : He.DefD := ⟨("law", none), "law", "law", defArgs s_law, defBody s_law, defScope s_law, [], []⟩
def hfn : List He.DefD := [hd_BadRow_init, hd_NoDeed_init, hd_law_pot, hd_law_mixed, hd_law_take, hd_law_name_at, hd_law_large, hd_law_name, hd_parts_of, hd_read_deed, hd_deed_row, hd_law_row, hd_law_read, hd_law_refused_by_base, hd_law_written, hd_law_due, hd_law_deed, hd_law_spoiled, hd_law]
def hexL (K : PySem.W.Frag) : List Bool := [decide (PySem.W.kitOne K (.ref (He.ga K "BadRow")) (.type "ValueError") = some true), tabV K (He.ga K "DEEDS") [("make", (He.ga K "play_make")), ("do", (He.ga K "play_do")), ("drop", (He.ga K "play_drop"))], excAtB K (He.ga K "BadRow") (He.ma K (He.ga K "BadRow") "__init__"), excAtB K (He.ga K "NoDeed") (He.ma K (He.ga K "NoDeed") "__init__")]
def hex (K : PySem.W.Frag) : Bool := (hexL K).all id
def htb : List He.Tab := [(fun K => He.ga K "DEEDS", ["make", "do", "drop"])]
def loose0 : List Str := ["__name__", "WhoError", "NoSort", "NoMaking", "Asleep", "NotHeld", "NoDeed", "Misfit", "BadRow", "fits", "placed", "filled", "making_of", "play_make", "play_do", "play_drop", "DEEDS", "parts_of", "deed_row", "read_deed", "_law_pot", "_law_mixed", "_law_take", "_law_name_at", "_law_large", "_law_name", "_law_names", "_law_deed", "_law_row", "_law_spoiled"]
def loose1 : List Str := ["_law_due", "_law_read", "_law_written", "_law_refused_by_base"]
abbrev loose : List Str := loose0 ++ loose1
abbrev hR : PySem.W.OpenRow := PySem.W.OpenLaw.row PySem.Challenge.rw_whomay_k92_deed_rows
abbrev hk : PySem.W.Hook := hookW 5 hfa hfn hex htb
def hob (s : PySem.W.SharedT) : AlW := obsW 5 hfa hfn hex htb (HandSHeadRun.getT s)
theorem hob_eq (s : PySem.W.SharedT) : hob s = hk.obs s.abs := obsW_eq (HandSHeadRun.getT_eq s)
theorem hrun_true (w : World) : HandSHeadRun.RunEq hR (PySem.W.view hR.prog [39]) hk hob 12000 loose (w.withFollow "special-get-raises" true) := by
  intro os
  kernel_rfl
theorem hrun_false (w : World) : HandSHeadRun.RunEq hR (PySem.W.view hR.prog [39]) hk hob 12000 loose (w.withFollow "special-get-raises" false) := by
  intro os
  kernel_rfl
theorem hrun (w : World) : HandSHeadRun.RunEq hR (PySem.W.view hR.prog [39]) hk hob 12000 loose w := by
  have h : HandSHeadRun.RunEq hR (PySem.W.view hR.prog [39]) hk hob 12000 loose (w.withFollow "special-get-raises" (w.params.followText "special-get-raises")) := by
    cases w.params.followText "special-get-raises"
    · exact hrun_false w
    · exact hrun_true w
  rwa [World.withFollow_self] at h
end Toy

/-! own rules over the layer -/
namespace RX
open PySem PySem.Spec PyProof.Rows L2

/-! lists joined, read in any place -/
section
variable {X : Cx}
def rCatS (K : PySem.W.Frag) : R2 := fun x y H Q => ∃ l b xs zs, x = .ref l ∧ y = .ref b ∧ SqL K H l xs ∧ SqL K H b zs ∧ xs.length + zs.length ≤ sizeLine ∧ ∀ p, H p = none → Q (.ref p) (upd H p (.lst (xs ++ zs)))
theorem op_catS : OpR X (binaryOp .Add) (rCatS X.K) := by
  intro pins s σ H x y v u Q I rx ry h
  obtain ⟨l, b, xs, zs, rfl, rfl, hH, hB, hz, q⟩ := h
  cases rx
  cases ry
  obtain ⟨its, r, ⟨⟨cls, dd, data, sl⟩, n, ho, hc, _, hd⟩, _⟩ := I.list hH
  obtain ⟨its2, r2, ⟨⟨cls2, dd2, data2, sl2⟩, n2, ho2, hc2, _, hd2⟩, _⟩ := I.list hB
  simp only at hc hd hc2 hd2
  subst hc hd hc2 hd2
  have l1 := r.length
  have l2 := r2.length
  have ea : its.toArray ++ its2.toArray = (its ++ its2).toArray := by simp
  refine concat_meets ⟨_, ho, rfl⟩ ⟨_, ho2, rfl⟩ noFill_list_add seq_list_add PySem.F.slot_list_add PySem.F.entry_list_add (PySem.F.args_list_add_2 _ _) (list_addW l b its.toArray its2.toArray n n2 dd dd2 sl sl2 (by rw [List.size_toArray, List.size_toArray]; omega)) ⟨ho, ho2, ?_⟩
  rw [ea]
  exact ⟨.ref _, _, I.lnew (t' := s.toks) (r.append r2) (by rw [List.length_append]; omega), rfl, q _ I.fresh⟩

/-! C.m(e, ..), C a class of the text, m a plain def of it: called with just these values -/
def tUMeth (C : Addr) (sp : Sp) (E : XK) (ta : TE) (t : TA) : TE := fun σ H Q => ta σ H fun x H1 => x = .ref C ∧ t σ H1 fun vs H2 => sp vs H2 Q E
theorem pe_umeth {CX : CXT} {k : Nat} {C f : Addr} {mc : Value} {fd : FuncData} {ps : List Str} {sp : Sp} {E : XK} {o e : Expr} {es : List Expr} {m : Str} {pos apos : Pos} {ta : TE} {t : TA} {pl : Sem Bool}
    (he : PE X o ta) (r : ClX.CRead X.K C mc) (c : PySem.W.findCls X.K (.ref C) mc m = some (.val (.ref f))) (hk : PySem.W.keepIn X.K (.ref f) = true)
    (F : FnOk X.prog X.w X.K X.mg X.base CX k f fd ps sp) (hr : Room k X.A) (hb : Binds X.K fd ps []) (hx : Passes CX X E) (ha : PA X (e :: es) t)
    (hst : starEach (e :: es) X.env = (false, eval e X.env) :: starEach es X.env := by rfl) (hpl : (backTo pos (starEach es X.env)).any (·.1) = false := by rfl)
    (ht : eval (.Call (.Attribute o m apos) (e :: es) [] pos) X.env = (do
      let ov ← eval o X.env
      standAt apos.atName
      let (f, first) ← holding [ov] (getMethod ov m pl)
      callWith pos f first (backTo pos (starEach (e :: es) X.env)) (backToKw pos (keywordEach [] X.env))) := by rfl) :
    PE X (.Call (.Attribute o m apos) (e :: es) [] pos) (tUMeth C sp E ta t) := by
  refine ⟨fun pins s σ H Q I h => ?_⟩
  refine PySem.W.methodCall_KW (pl := pl) (thn (he.run pins s σ H _ I h) fun u s1 ⟨x, H1, I1, rx, ex, q⟩ => ?_) ht
  subst ex
  obtain rfl : u = Value.ref C := rx
  refine PySem.W.method_cls I1.kIn r.ga (ClX.getcval_ok (v := .ref f) I1 r ⟨c, rfl⟩ fun s2 I2 => ?_)
  refine PySem.W.callWith_K (first := []) (h₀ := X.base) I.ok.mod.kin hk (thn (ha.run pos pins s2 σ H1 _ I2 q) fun us s3 ⟨vs, H2, I3, rv, q2⟩ => ⟨I3.kIn, ?_⟩) hst hpl
  exact run_fn (us := us) (vs := vs) (dvs := []) F hr hb .nil hx I3 rv (by rw [List.append_nil]; exact q2)

/-! enumerate over a tuple -/
def Itet (K : PySem.W.Frag) (a : Addr) : It :=
  ⟨fun i H => ∃ (xs : List V) (x : V), SqT K H a xs ∧ xs[i]? = some x, fun i H v H' => ∃ T x, v = .ref T ∧ H T = none ∧ H' = upd H T (.tup [.int (i : Nat), x]) ∧ ∀ xs, SqT K H a xs → xs[i]? = some x, fun i H => ∃ xs : List V, SqT K H a xs ∧ xs.length ≤ i⟩
theorem turn_enumT {P : Program} {w : World} {K : PySem.W.Frag} {elts : List Expr} {kk : Nat} {tpos : Pos} (a e it : Addr) :
    Turn P w K (.Tuple elts kk tpos) (Itet K a) [e, it] e (fun i h => (∃ old, IsEnum h e it ((i : Nat) : Int) old) ∧ h.IsTupleIter it a i ∧ e ≠ it) where
  mem := by simp
  obj := fun i h st b hb => by
    obtain ⟨⟨old, he⟩, ⟨o, ho, hc, hd⟩, _⟩ := st
    have e' : b = e ∨ b = it := by simpa using hb
    rcases e' with z | z
    · rw [z]; exact ⟨_, he, fun v q => nomatch q⟩
    · rw [z]; exact ⟨o, ho, fun v q => by rw [hd] at q; cases q⟩
  keep := fun i h h' st k => let ⟨⟨old, he⟩, hi, hne⟩ := st; ⟨⟨old, k e (by simp) _ he⟩, hi.at fun o q => k it (by simp) o q, hne⟩
  item := by
    intro X hP hw hK hc i pins s σ H E I hf st hg
    subst hP hw hK
    obtain ⟨⟨old, he⟩, hit, hne⟩ := st
    obtain ⟨xs, x, hq, hx⟩ := hg
    obtain ⟨its, rv, p, hz⟩ := I.tuple hq
    obtain ⟨u, hu, ru⟩ := rv.get hx
    have p' : s.heap.IsTuple a its.toArray := p
    have hel : e < s.heap.objs.size := Heap.lt_size he
    have hil : it < s.heap.objs.size := by obtain ⟨_, q, _⟩ := hit; exact Heap.lt_size q
    have hlen := rv.length
    have hai : a ≠ it := fun z => by
      obtain ⟨o1, e1, c1, _⟩ := p'
      obtain ⟨o2, e2, c2, _⟩ := hit
      rw [z, e2] at e1
      cases e1
      rw [c1] at c2
      exact absurd c2 (by decide)
    have hae : e ≠ a := fun z => by
      obtain ⟨o1, e1, c1, _⟩ := p'
      have e2 : s.heap.get? e = some _ := he
      rw [z, e1] at e2
      cases e2
      exact absurd c1 (show ¬ (Value.type "enumerate" = Value.type "tuple") by decide)
    have hlt : i < its.length := by
      rw [← hlen]
      exact (List.getElem?_eq_some_iff.mp hx).1
    have hh : X.A.in1.handled = none := I.ok.hd hc
    refine wpAny_pyNext_enum_itemD (Draws.tuple hh it a hai its.toArray) he ⟨hit, p'⟩ (by simpa using hlt) hne (by simp [hne, hae]) fun y h' tk hy ho ⟨hit', _⟩ hT hsz hk => ?_
    have ey : y = u := by
      have q : its[i]? = some y := by simpa using hy
      rw [hu] at q
      exact (Option.some.inj q).symm
    subst ey
    refine ⟨_, rfl, wpAny_letOwnedTupleGo_enum (s := { s with heap := h', toks := tk + 1 }) ho fun h'' he' sb => ?_⟩
    have hT2 : h''.get? s.heap.objs.size = some { cls := .type "tuple", data := .seq #[.int i tk, y] } := (sb.2 _ (Nat.ne_of_gt hel)).trans hT
    have new : ObjOk X.prog X.w (upd H s.heap.objs.size (.tup [.int (i : Nat), x])) h'' s.heap.objs.size (.tup [.int (i : Nat), x]) :=
      ⟨by show 2 ≤ sizeLine; decide, [.int i tk, y], .cons ⟨_, rfl⟩ (.cons ru .nil), ⟨_, hT2, rfl, _, rfl⟩⟩
    have I1 : Inv X pins σ (upd H s.heap.objs.size (.tup [.int (i : Nat), x])) { s with heap := h'', toks := tk + 1 } :=
      I.turnedNew (ch := [e, it]) (fun b ob hb q => (sb.2 b (fun z => hb (by simp [z]))).trans (hk b ob (fun z => hb (by simp [z])) (fun z => hb (by simp [z])) q)) hf (Nat.le_refl _) new
    refine ⟨.ref s.heap.objs.size, _, I1, rfl, ⟨_, x, rfl, I.hok.fresh (Nat.le_refl _), rfl, fun ys hy => by rw [I.tuple_inj hy hq]; exact hx⟩, ⟨⟨y, ?_⟩, hit'.at fun o q => (sb.2 it (Ne.symm hne)).trans q, hne⟩, fun b hb => ?_⟩
    · have e1 : ((i + 1 : Nat) : Int) = (i : Int) + 1 := by omega
      rw [e1]; exact he'
    · have hb' : b < s.heap.objs.size := by
        have e' : b = e ∨ b = it := by simpa using hb
        rcases e' with z | z
        · rw [z]; exact hel
        · rw [z]; exact hil
      rw [upd_ne (Nat.ne_of_lt hb')]
      exact (hf b hb).1
  done := by
    intro X hP hw hK hc i pins s σ H E I hf st hg
    subst hP hw hK
    obtain ⟨⟨old, he⟩, hit, hne⟩ := st
    obtain ⟨xs, hq, hx⟩ := hg
    obtain ⟨its, rv, p, hz⟩ := I.tuple hq
    have p' : s.heap.IsTuple a its.toArray := p
    obtain ⟨f0, f1, f2, f3, f4, f5⟩ := hf it (by simp)
    have hl := rv.length
    have hai : a ≠ it := fun z => by
      obtain ⟨o1, e1, c1, _⟩ := p'
      obtain ⟨o2, e2, c2, _⟩ := hit
      rw [z, e2] at e1
      cases e1
      rw [c1] at c2
      exact absurd c2 (by decide)
    have hT : s.TypeIs (.ref e) "enumerate" := ⟨_, he, rfl⟩
    unfold pyNext
    refine wpAny_bind (wpAny_attempt (wpAny_callSpecial?_slot (name := Str.ofString "__next__") hT F.slot_enumerate_next
      (wpAny_call_entry F.slot_enumerate_next hT F.entry_enumerate_next ?_ (F.args_enumerate_next_1 _))))
    show wpAny _ _ (field (.ref e) 2 >>= _) _ _ _
    refine wpAny_bind (wpAny_field he rfl (x := .ref it) rfl ?_)
    refine wpAny_bind (wpAny_nextOf_tuple_end (show X.A.in1.handled = none from I.ok.hd hc) hit p' (by simp; omega) fun h' x he' hx' => ?_)
    obtain ⟨o, ho, hc'⟩ := hx'
    refine wpAny_bind (wpAny_isInstance (T := "StopIteration") (b := true) ⟨o, ho, hc'⟩ isSubtype_stop ?_)
    exact wpAny_pure ⟨rfl, I.turned (t' := s.toks) (fun b o hb q => he' b o hb q) f0 f1 f3 f4 f5⟩
  self := fun A i s Q E st h => let ⟨⟨_, he⟩, _⟩ := st; wpAny_pyIter_enum he h

theorem meets_enumerate_newT {v : Value} {o : Obj} {H : Heap → Prop} (B : Begins v o H) :
    Meets (Builtin.«enumerate.__new__» ⟨[.type "enumerate", v], []⟩) (fun _ R s => H s.heap ∧
      R (.ok (.ret (.ref (s.heap.push o).objs.size))) { s with heap := (s.heap.push o).push { cls := .type "enumerate", data := .fields #[.none, .bool false, .ref s.heap.objs.size, rawInt 0, .none, .none] } }) :=
  .of_wp fun prog w A R s h => by
    obtain ⟨hp, g, d, tk, os⟩ := s; obtain ⟨h1, h⟩ := h
    have hsub := sub_enumerate
    have q1 : ∀ {A' : Around} {E : Value → Shared → Prop} {Q : Value → Shared → Prop}, Q (.ref hp.objs.size) ⟨hp.push o, g, d, tk, os⟩ → wpAny (model prog w) A' (pyIter v) Q E ⟨hp, g, d, tk, os⟩ :=
      fun q => B.iter prog w _ _ ⟨hp, g, d, tk, os⟩ _ h1 q
    wp_walk using q1
    refine wpAny_stack_any fun st => wpAny_pure ?_
    split
    · rename_i c _ _ _ _ _
      cases (c == Value.type "enumerate")
      · wp_walk using q1
        exact ⟨_, rfl, h⟩
      · wp_walk using q1
        exact ⟨_, rfl, h⟩
    · wp_walk using q1
      exact ⟨_, rfl, h⟩
theorem call_enumerate_tuple {prog : Program} {w : World} {A : Around} {E : Value → Shared → Prop} {s : Shared} {l : Addr} {items : Array Value} {Q : Value → Shared → Prop} (hL : s.heap.IsTuple l items)
    (h : ∀ h', IsEnum h' (s.heap.objs.size + 1) s.heap.objs.size 0 .none → h'.IsTupleIter s.heap.objs.size l 0 → h'.objs.size = s.heap.objs.size + 2 →
      (∀ b o, s.heap.get? b = some o → h'.get? b = some o) → Q (.ref (s.heap.objs.size + 1)) { s with heap := h' }) :
    wpAny (model prog w) A (call (.type "enumerate") [.ref l]) Q E s := by
  have B := begins_tuple l items
  refine callType_new F.called_enumerate (by decide) (F.typeCall_enumerate_1 _) (F.newCall_enumerate_1 _) (fun obj => F.args_object_init_2 obj _) F.entry_enumerate_new
    (meets_enumerate_newT B) ⟨hL, ?_⟩
  have hz : (s.heap.push { cls := .type "tuple_iterator", data := .fields #[.ref l, .int 0 0] }).objs.size = s.heap.objs.size + 1 := Heap.size_push ..
  show _ ∧ _
  rw [hz]
  have he : IsEnum ((s.heap.push { cls := .type "tuple_iterator", data := .fields #[.ref l, .int 0 0] }).push
      { cls := .type "enumerate", data := .fields #[.none, .bool false, .ref s.heap.objs.size, rawInt 0, .none, .none] }) (s.heap.objs.size + 1) s.heap.objs.size 0 .none := by
    have := Heap.get?_push_size (s.heap.push { cls := .type "tuple_iterator", data := .fields #[.ref l, .int 0 0] })
      (o := { cls := .type "enumerate", data := .fields #[.none, .bool false, .ref s.heap.objs.size, rawInt 0, .none, .none] }) rfl
    rw [hz] at this; exact this
  refine ⟨⟨_, he, rfl⟩, h _ he ⟨_, Heap.get?_push_of_some _ (Heap.get?_push_size _ rfl), rfl, rfl⟩ (by rw [Heap.size_push, hz]) fun b o x => Heap.get?_push_of_some _ (Heap.get?_push_of_some _ x)⟩
def iEnumT (K : PySem.W.Frag) (ta : TA) : TI := fun σ H R => ta σ H fun vs H1 => ∃ a xs, vs = [.ref a] ∧ SqT K H1 a xs ∧ R (Itet K a) H1
theorem pi_enumT {X : Cx} {e : Expr} {ta : TA} {p pos tpos : Pos} {elts : List Expr} {kk : Nat} (hg : Gl X "enumerate") (hm : X.mg "enumerate" = none) (ha : PA X [e] ta) (hs : starEach [e] X.env = [(false, eval e X.env)] := by rfl) :
    PI X (.Tuple elts kk tpos) (.Call (.Name "enumerate" p) [e] [] pos) (iEnumT X.K ta) := by
  refine ⟨fun pins s σ H R I h => ?_⟩
  refine Call_ (ld_blt I hg hm boot_enumerate (PyProof.Rows.callWith_type1 (thn (ha.run pos pins s σ H _ I h) fun us s1 ⟨vs, H1, I1, r1, q1⟩ => ?_) hs rfl))
  obtain ⟨a, xs, ex, hq, q⟩ := q1
  subst ex
  cases r1 with
  | cons r rr =>
    cases rr
    cases r
    obtain ⟨its, rv, p', hz⟩ := I1.tuple hq
    refine call_enumerate_tuple (show s1.heap.IsTuple a its.toArray from p') fun h' he hit hsz hk => wpAny_pyIter_enum he ?_
    have I2 : Inv X pins σ H1 { s1 with heap := h' } := I1.kept (t' := s1.toks) hk
    refine ⟨s1.heap.objs.size + 1, [s1.heap.objs.size + 1, s1.heap.objs.size], _, _, H1, rfl, I2, turn_enumT a (s1.heap.objs.size + 1) s1.heap.objs.size, ⟨⟨.none, he⟩, hit, Nat.succ_ne_self _⟩, fun b hb => ?_, q⟩
    have e' : b = s1.heap.objs.size + 1 ∨ b = s1.heap.objs.size := by simpa using hb
    have hle : s1.heap.objs.size ≤ b := by
      rcases e' with z | z
      · rw [z]; exact Nat.le_add_right _ _
      · rw [z]; exact Nat.le_refl _
    exact I1.fpOk hle (I1.hok.fresh hle)
end
end RX

namespace PySem.W
open PySem PySem.Spec PyProof.Rows
section
variable {prog : Program} {w : World} {A : Around} {E : Value → Shared → Prop} {s : Shared} {K : Frag} {x D : Addr} {ox : Obj} {od : Option Obj}
theorem findObj_dataX {C : Addr} {name : Str} {a g : Value} (hc : (clsIn K C).isSome = true) (ha : findIn K (.ref C) name = some (some a)) (hg : specialIn K a "__get__" = some (some g)) (ht : takesIn K a = some true) : findObj K C od name = some (.bind g a) := by
  obtain ⟨cd, hc⟩ := Option.isSome_iff_exists.mp hc
  unfold findObj
  rw [hc, Option.bind_some, ha, Option.bind_some]
  simp [hg, ht]
theorem kin_classX {Q : Option Value → Shared → Prop} (hga : findIn K (.ref D) "__getattribute__" = some (some (.builtin "BaseException.__getattribute__"))) (hgt : findIn K (.ref D) "__getattr__" = some none) (hsub : subIn K (.ref D) (.type "BaseException") = some true)
    (hdct : hasDictIn K D = true) (ha : findIn K (.ref D) "__class__" = some (some (.builtin "object.__class__")))
    (hn : specialIn K (.builtin "object.__class__") "__get__" = some (some (.builtin "getset_descriptor.__get__"))) (htk : takesIn K (.builtin "object.__class__") = some true) (hm : mroIn K D (.type "object") = some true)
    (X : K.In s.heap) (I : InstAt s.heap x ox D od) (h : Q (some (.ref D)) { s with toks := s.toks + 1 }) : wpAny (model prog w) A (getAttr? (.ref x) "__class__") Q E s := by
  have hf : findObj K D od "__class__" = some (.bind (.builtin "getset_descriptor.__get__") (.builtin "object.__class__")) := findObj_dataX (by obtain ⟨cd, hc, _⟩ := any_some hdct; rw [hc]; rfl) ha hn htk
  obtain ⟨hp, g, d, t, os⟩ := s
  have L0 := I.type (M := model prog w)
  have L1 := looks_findIn (M := model prog w) X hga
  have L2 := looks_findIn (M := model prog w) X hgt
  have L3 := looks_find (M := model prog w) X I hf
  have sub : Looks (model prog w) hp (isInstance (.ref x) (.type "BaseException")) true := L0.andThen (looks_subIn X hsub)
  have hx0 : (false && onTheHeap (Value.builtin "BaseException.__getattribute__")) = false := rfl
  have hx2 : (Value.builtin "BaseException.__getattribute__" == Value.builtin "object.__getattribute__") = false := by decide +kernel
  have hx1 : (onTheHeap (Value.ref D) && Value.builtin "BaseException.__getattribute__" == Value.builtin "object.__getattribute__") = false := by rw [hx2]; rfl
  unfold getAttr? getAttrBy? getAttrBy
  refine wpAny_bind (wpAny_mkText (wpAny_bind (wpAny_attempt (wpAny_holding (wpAny_bind (L0.at (wpAny_bind (L1.at ?_))))))))
  show wpAny _ _ (if (onTheHeap (Value.ref D) && Value.builtin "BaseException.__getattribute__" == Value.builtin "object.__getattribute__") = true then _ else _) _ _ _
  rw [hx1, if_neg Bool.false_ne_true]
  unfold getAttrByItsOwn hookBefore
  refine wpAny_bind ?_
  rw [if_pos (show onTheHeap (Value.ref D) = true from rfl)]
  refine L2.at ?_
  refine wpAny_bind (wpAny_attempt (wpAny_holding ?_))
  unfold callGetattribute
  rw [hx0, if_neg Bool.false_ne_true]
  unfold boundAndCalled
  rw [PySem.F.excAttr_ValueError.ga.bind (.ref x)]
  refine wpAny_bind (wpAny_pure ?_)
  show wpAny _ _ (call (.builtin "BaseException.__getattribute__") [.ref x, .str "__class__" t]) _ _ _
  refine wpAny_call (codeAny_call_builtin PySem.F.excAttr_ValueError.ga.plain PySem.F.entry_bexc_ga ?_)
  refine @check_slot (model prog w) _ _ ⟨hp, g, d, t + 1, os⟩ "BaseException.__getattribute__" "BaseException" "__getattribute__" (.ref x) [.str "__class__" t] [] _ (by decide +kernel) (by decide +kernel) sub (PySem.F.args_bexc_ga (.ref x) (.str "__class__" t)) ?_
  unfold Builtin.«object.__getattribute__»
  refine wpAny_bind (wpAny_of_eq (a := ((Value.ref x : Value), [Value.str "__class__" t])) (by first | rfl | (simp only [slotArgs]; rfl)) ?_)
  refine wpAny_bind (wpAny_pure (wpAny_bind (L0.at (wpAny_bind (L3.at ?_)))))
  show wpAny _ _ (holding [Value.builtin "object.__class__"] (call (.builtin "getset_descriptor.__get__") [.builtin "object.__class__", .ref x, .ref D]) >>= ret) _ _ _
  refine wpAny_bind (wpAny_holding (wpAny_call (class_get (s := ⟨hp, g, d, t + 1, os⟩) (ox := ox) (od := od) X I hm ?_)))
  refine wpAny_pure ?_
  show wpAny _ _ (handedOut (.ref D)) _ _ _
  rw [handedOut_of (v := .ref D) rfl]
  first
    | exact wpAny_pure (wpAny_pure h)
    | exact wpAny_pure h
    | exact wpAny_pure (wpAny_bind (wpAny_pure (wpAny_pure h)))
theorem kitx_excX (hga : findIn K (.ref D) "__getattribute__" = some (some (.builtin "BaseException.__getattribute__"))) (hgt : findIn K (.ref D) "__getattr__" = some none) (hsub : subIn K (.ref D) (.type "BaseException") = some true) (hdct : hasDictIn K D = true) (ha : findIn K (.ref D) "__class__" = some (some (.builtin "object.__class__")))
    (hn : specialIn K (.builtin "object.__class__") "__get__" = some (some (.builtin "getset_descriptor.__get__"))) (htk : takesIn K (.builtin "object.__class__") = some true) (hm : mroIn K D (.type "object") = some true) :
    KitX K (.ref x) (.ref D) (fun h => InstAt h x ox D od) where
  ty := fun _ _ _ I => I.type
  it := fun _ _ X _ => by
    obtain ⟨cdD, hcD, _⟩ := any_some hdct
    unfold clsIn at hcD
    split at hcD
    · rename_i c' d' cd' sl' ho
      intro A' Q' E' s' k q
      unfold isType loadHead
      exact wpAny_bind (wpAny_loadPart (k _ _ (X _ _ ho)) (wpAny_pure q))
    · cases hcD
  ne := fun h tp dd its n sl X htp => by
    obtain ⟨cdD, hcD, _⟩ := any_some hdct
    refine Bool.eq_false_iff.mpr fun q => ?_
    have e : D = tp := Value.ref.inj (beq_iff_eq.mp q)
    subst e
    unfold clsIn at hcD
    split at hcD
    · rename_i c' d' cd' sl' ho
      have z := (X _ _ ho).symm.trans htp
      cases z
    · cases hcD
  ca := fun X I k => kin_classX hga hgt hsub hdct ha hn htk hm X I k
end
end PySem.W
namespace RX
open PySem PySem.Spec PyProof.Rows L2
/-- isinstance(e, c), e the exception that the suite holds, which has a dict of its own -/
def rIsX (K : PySem.W.Frag) (D a : Addr) : List V → Hp → VK → Prop := fun xs H Q => ∃ (c : V) (cv : Value) (b : Bool) (dd : Addr) (fs : List (Str × V)), xs = [.ref a, c] ∧ (∀ u, RelV c u → u = cv) ∧ H dd = some (.xd fs) ∧ PySem.W.kitOne K (.ref D) cv = some b ∧ Q (.bl b) H
theorem call_isX {X : Cx} {a D dd : Addr} {oe : Obj} {pn : List (Addr × Obj)} (C : ExcC X.K D) (hz : Zc (.ref D) (some dd) oe) (hf : ∃ vs, oe.data = .fields vs) :
    CallR (X.suite a ((a, oe) :: pn)) (.builtin "isinstance") (fun xs H Q => ∃ (c : V) (cv : Value) (b : Bool) (fs : List (Str × V)), xs = [.ref a, c] ∧ (∀ u, RelV c u → u = cv) ∧ H dd = some (.xd fs) ∧ PySem.W.kitOne X.K (.ref D) cv = some b ∧ Q (.bl b) H) := by
  intro pins s σ H xs us Q I r h
  obtain ⟨c, cv, b, fs, rfl, hcv, hd, e, q⟩ := h
  cases r with
  | cons rx rr =>
    cases rr with
    | cons rt rr =>
      cases rr
      cases rx
      have ec := hcv _ rt
      subst ec
      obtain ⟨hget, _⟩ := I.pin (a, oe) (List.mem_append.mpr (.inl List.mem_cons_self))
      obtain ⟨vs, hv⟩ := hf
      have hx : ObjOk X.prog X.w H s.heap dd (.xd fs) := I.hok dd _ hd
      obtain ⟨mA, ⟨od, es, ep, ho, _⟩, _⟩ := hx
      have J : PySem.W.InstAt s.heap a oe D (some od) := ⟨hget, hz.1, by unfold PySem.W.notCls; rw [hv] <;> rfl, by rw [hz.2]; exact ho⟩
      exact PySem.W.kia_one (PySem.W.kitx_excX C.hg C.hk C.hs C.hd C.ha C.hn C.ht C.hm) I.kIn J e (fun z => nomatch z) fun tk => ⟨.bl b, H, I.kept (t' := tk) fun _ _ z => z, rfl, q⟩
end RX

/-! exceptions whose chain of contexts is known: none, or one link -/
namespace HK
open PySem PySem.Spec PyProof.Rows L2 HotX L2H
/-- the record's context: none, or a record that stands in B, its own being none -/
def Ctx (B : Heap) (H : Hp) (o : Obj) : Prop := ∀ vs : Array Value, o.data = .fields vs → vs[2]? = some .none ∨
  ∃ (x : Addr) (ox : Obj) (us : Array Value), vs[2]? = some (.ref x) ∧ B.get? x = some ox ∧ H x = none ∧ ox.data = .fields us ∧ us[2]? = some .none
def Zk (B : Heap) (H : Hp) (cls : Value) (d : Option Addr) (o : Obj) : Prop := Zc cls d o ∧ Ctx B H o
theorem Ctx.st {B : Heap} {H : Hp} : PXN.Steady1 (Ctx B H) := by
  rintro ⟨c, d, dt, sl⟩ v h
  cases dt with
  | fields f0 =>
    intro gs eg
    have e1 : f0.setIfInBounds 1 v = gs := Data.fields.inj eg
    have e2 : gs[2]? = f0[2]? := by rw [← e1]; exact Array.getElem?_setIfInBounds_ne (by decide)
    rw [e2]
    exact h f0 rfl
  | _ => intro gs eg; cases eg
theorem Zk.st {B : Heap} {H : Hp} {cls : Value} {d : Option Addr} : PXN.Steady1 (Zk B H cls d) := fun o v z => ⟨⟨PXN.steady_cls o v z.1.1, PXN.steady_dict o v z.1.2⟩, Ctx.st o v z.2⟩
/-- in the air -/
def Air (X : Cx) (W : L2.WX) (u : Value) (s' : Shared) : Prop :=
  ∃ (a : Addr) (B : Heap) (t : Shared) (pins : List (Addr × Obj)) (σ : L2.St) (H : Hp) (cls : Value) (d : Option Addr), u = .ref a ∧ Inv X pins σ H t ∧ (∀ b o, t.heap.get? b = some o → b ∉ frs X.stack → B.get? b = some o) ∧
    t.heap.UpToSlots s'.heap ∧ Sky B X.stack a (Zk B H cls d) X.env.locals s'.heap ∧ H a = none ∧ s'.os = t.os ∧ AllBare s'.gens ∧ W cls d σ H
def Takes (X : Cx) (W : L2.WX) : Prop := ∀ u s', Air X W u s' → X.xe u s'
def CX (P : Program) (w : World) (outer : List Env) (H : Hp) (s : Shared) (E : XK) (u : Value) (s' : Shared) : Prop :=
  ∃ (a : Addr) (B : Heap) (H2 : Hp) (cls : Value) (d : Option Addr), u = .ref a ∧ HandSPX.FlyingZ B outer a (Zk B H2 cls d) s'.heap ∧ HOk P w H2 B ∧ UB (frs outer) H H2 s.heap B s'.heap ∧ H2 a = none ∧ s'.os = s.os ∧ AllBare s'.gens ∧ E cls d H2
section
variable {X : Cx} {pins : List (Addr × Obj)} {σ : L2.St} {H : Hp} {t s s' : Shared} {B : Heap} {W : L2.WX} {E : XK}
theorem Air.of_call {u : Value} (I : Inv X pins σ H s) (hW : ∀ cls d J, E cls d J → W cls d σ J) (c : CX X.prog X.w X.stack H s E u s') : Air X W u s' := by
  obtain ⟨a, B, J, cls, d, eu, fly, hok, ub, na, os, ag, w⟩ := c
  have sb : B.StaysIn s'.heap := fly.1
  obtain ⟨G, gin, gout⟩ := restrict s'.heap fun b => (B.get? b).isSome || decide (b ∈ frs X.stack)
  have gB : ∀ b o, B.get? b = some o → G.get? b = some o := fun b o z => (gin b (by rw [z]; rfl)).trans (sb b o z)
  have gF : ∀ b, b ∈ frs X.stack → G.get? b = s'.heap.get? b := fun b z => gin b (by rw [decide_eq_true z, Bool.or_true])
  have sub : ∀ b o, G.get? b = some o → s'.heap.get? b = some o ∧ (b ∉ frs X.stack → B.get? b = some o) := fun b o z => by
    cases hp : ((B.get? b).isSome || decide (b ∈ frs X.stack)) with
    | false => rw [gout b hp] at z; cases z
    | true =>
      rw [gin b hp] at z
      refine ⟨z, fun nf => ?_⟩
      rw [decide_eq_false nf, Bool.or_false] at hp
      obtain ⟨o2, e2⟩ := Option.isSome_iff_exists.mp hp
      rw [e2, ← z, sb b o2 e2]
  have un : Un (frs X.stack) [] H J s.heap G := {
    keep := fun b o z n nf _ => gB b o (ub.keep b o z n nf)
    slot := fun b o z _ hf _ => let ⟨sl, y⟩ := ub.slot b o z hf; ⟨sl, (gF b hf).trans y⟩
    free := fun b o z n _ => ub.free b o z n
    there := fun b o z _ => by
      by_cases hf : b ∈ frs X.stack
      · obtain ⟨sl, y⟩ := ub.slot b o z hf
        exact ⟨_, (gF b hf).trans y⟩
      · obtain ⟨o2, y⟩ := ub.there b o z hf
        exact ⟨o2, gB b o2 y⟩
    tups := ub.tups
    frzs := ub.frzs
    tbls := ub.tbls }
  exact ⟨a, B, { s with heap := G, gens := s'.gens, drawn := s'.drawn, toks := s'.toks }, pins, σ, J, cls, d, eu, I.call (ch := []) un (hok.kept gB) ag fun _ z => (nomatch z), fun b o z => (sub b o z).2,
    Heap.UpToSlots.of_keeps fun b o z => (sub b o z).1, .inr (.inl fly), na, os, ag, hW _ _ _ w⟩
/-- a record that has just been made is in the air; its context stands ahead of it -/
theorem Air.new {a : Addr} {oe : Obj} {vs : Array Value} {cls : Value} {d : Option Addr} (I : Inv X pins σ H t) (k : ∀ b o, t.heap.get? b = some o → s'.heap.get? b = some o) (new : t.heap.get? a = none) (he : s'.heap.get? a = some oe) (hz : Zc cls d oe) (hd : oe.data = .fields vs)
    (h1 : vs[1]? = some .none) (h2 : vs[2]? = some .none ∨ ∃ (x : Addr) (ox : Obj) (us : Array Value), vs[2]? = some (.ref x) ∧ t.heap.get? x = some ox ∧ x ∉ frs X.stack ∧ H x = none ∧ ox.data = .fields us ∧ us[2]? = some .none)
    (na : H a = none) (os : s'.os = t.os) (ag : AllBare s'.gens) (w : W cls d σ H) : Air X W (.ref a) s' := by
  have hid : (PySem.W.hideAll t.heap (frs X.stack)).get? a = none := by
    cases z : (PySem.W.hideAll t.heap (frs X.stack)).get? a with
    | none => rfl
    | some o => exact absurd (PySem.W.of_hideAll _ z) (by rw [new]; exact fun y => nomatch y)
  refine ⟨a, PySem.W.hideAll t.heap (frs X.stack), t, pins, σ, H, cls, d, rfl, I, fun b o z nf => PySem.W.hideAll_get _ z nf, Heap.UpToSlots.of_keeps k, .inl ⟨fun b o z => k b o (PySem.W.of_hideAll _ z), hid, ?_, oe, vs, he, ⟨hz, fun us e => ?_⟩, hd, h1⟩, na, os, ag, w⟩
  · exact .of_keeps (fun b o z _ => ⟨o, k b o z, rfl⟩) (funFrames_none I.stack fun b z => PySem.W.hideAll_none _ z)
  · obtain rfl : vs = us := Data.fields.inj (hd.symm.trans e)
    exact h2.imp id fun ⟨x, ox, us, e1, e2, nf, nx, e3, e4⟩ => ⟨x, ox, us, e1, PySem.W.hideAll_get _ e2 nf, nx, e3, e4⟩
/-- it goes out of the def -/
theorem Air.leave {Ez : Value → Shared → Prop} {u : Value} (hs : X.stack = X.env :: X.outer) (hf : X.env.frame = some X.env.locals) (hex : X.ex = []) (hW : ∀ cls d σ H, W cls d σ H → E cls d H) (x : Air X W u s') :
    wpAny (model X.prog X.w) X.A (leaving X.env u) (fun _ s2 => CX X.prog X.w X.outer X.H_0 X.s_0 E u s2) Ez s' := by
  obtain ⟨a, B, t, pins, σ, H, cls, d, rfl, I, nb, up, sky, na, os, ag, w⟩ := x
  have fr : X.A.frames = some (X.env :: X.outer) := I.ok.frames.trans (congrArg some hs)
  have nex : ∀ b, b ∉ X.ex := fun b z => by rw [hex] at z; exact nomatch z
  have nst : ∀ b o, X.s_0.heap.get? b = some o → b ∉ X.fs → b ∉ frs X.stack := fun b o z nf m => by
    cases List.mem_cons.mp (I.stkSub b m) with
    | inl y => exact absurd (Nat.lt_of_lt_of_le (Heap.lt_size z) (Nat.le_trans I.ok.above (Nat.le_of_eq y.symm))) (Nat.lt_irrefl _)
    | inr y => exact nf y
  have done : ∀ h2, HandSPX.FlyingZ B X.outer a (Zk B H cls d) h2 → s'.heap.UpToSlots h2 → CX X.prog X.w X.outer X.H_0 X.s_0 E (.ref a) { s' with heap := h2 } := fun h2 fly up2 => by
    refine ⟨a, B, H, cls, d, rfl, fly, I.inGround nb, { keep := ?_, slot := ?_, free := ?_, there := ?_, tups := I.base.tups, frzs := I.base.frzs, tbls := I.base.tbls }, na, os.trans I.os, ag, hW _ _ _ _ w⟩
    · exact fun b o z n nf => nb b o (I.base.keep b o z n nf (nex b)) (nst b o z nf)
    · intro b o z hb
      obtain ⟨_, o2, z2, nd⟩ := I.ok.funs.mem hb
      obtain rfl : o = o2 := Option.some.inj (z.symm.trans z2)
      obtain ⟨s1, q1⟩ := I.base.slot b o z (I.ok.frf b hb) hb (nex b)
      obtain ⟨s2, q2⟩ := up b _ q1 nd
      obtain ⟨s3, q3⟩ := up2 b _ q2 nd
      exact ⟨s3, q3⟩
    · exact fun b o z n => I.base.free b o z n (nex b)
    · intro b o z nf
      obtain ⟨o2, q⟩ := I.base.there b o z (nex b)
      exact ⟨o2, nb b o2 q (nst b o z nf)⟩
  rw [hs] at sky
  rcases sky with ⟨q1, q2, q3, oe, vs, q4, q5, q6, q7⟩ | fly | held
  · exact PXN.leaving_firstZ Zk.st fr q3 hf q4 q1 q2 q6 q7 q5 done
  · exact PXN.leaves_onZ Zk.st fr hf fly done
  · exact HandSPX.leaves_heldZ hf held done
theorem takes_of {Ez : Value → Shared → Prop} (hs : X.stack = X.env :: X.outer) (hf : X.env.frame = some X.env.locals) (hex : X.ex = []) (hx : X.xe = fun e s1 => wpAny (model X.prog X.w) X.A (leaving X.env e) (fun _ s2 => CX X.prog X.w X.outer X.H_0 X.s_0 E e s2) Ez s1) :
    Takes X (fun cls d _ H => E cls d H) := fun u s1 x => hx ▸ Air.leave (W := fun cls d _ H => E cls d H) hs hf hex (fun _ _ _ _ y => y) x
theorem passes_call (tk : Takes X W) (hW : ∀ cls d σ H, E cls d H → W cls d σ H) : Passes (CX X.prog X.w) X E := fun _ σ _ _ u s2 I c => tk u s2 (.of_call I (fun cls d J y => hW cls d σ J y) c)
theorem passAt (tk : Takes X W) (σ : L2.St) : PassesAt (CX X.prog X.w) X σ (WE W σ) := fun _ _ _ u s2 I c => tk u s2 (.of_call I (fun _ _ _ y => y) c)
theorem passF : Passes (CX X.prog X.w) X fun _ _ _ => False := fun _ _ _ _ _ _ _ c => by
  obtain ⟨_, _, _, _, _, _, _, _, _, _, _, _, z⟩ := c
  exact z.elim
theorem Takes.imp {W' : L2.WX} (tk : Takes X W) (h : ∀ c d σ H, W' c d σ H → W c d σ H) : Takes X W' := fun u s1 ⟨a, B, t, pins, σ, H, cls, d, x1, x2, x3, x4, x5, x6, x7, x8, w⟩ => tk u s1 ⟨a, B, t, pins, σ, H, cls, d, x1, x2, x3, x4, x5, x6, x7, x8, h _ _ _ _ w⟩
end
/-- raise X(..), where nothing is handled -/
theorem ps_raise {X : Cx} {W : L2.WX} {e : Expr} {t : L2.St → Hp → XK → Prop} {pos : Pos} (calm : X.calm = true) (tk : Takes X W) (he : L2N.PMk X e t) : PS X (.Raise (some e) none pos) (fun _ σ H => t σ H fun cls d J => W cls d σ J) := by
  constructor
  intro pins s σ H D I h
  show wpAny (model X.prog X.w) X.A (do standAt pos; raiseStmt X.env (some (do let v ← eval e X.env; standAt pos; pure v)) none) _ _ s
  refine wpAny_bind (wpAny_standAt (raise_made (I.ok.hd calm) (wpAny_bind (wpAny_mono (he pins s σ H _ I h) (fun u s1 ⟨a, oe, vs, sI, J, cls, d, eu, IJ, k, new, ha, hz, hd, h1, na, os, ag, r, q⟩ => ?_) fun _ _ y => y))))
  subst eu
  refine wpAny_bind (wpAny_standAt (wpAny_pure ?_))
  have looks := r (model X.prog X.w) s1.heap (IJ.kIn.keeps k)
  exact ⟨a, oe, vs, cls, rfl, ha, hz.1, hd, h1, looks.1, looks.2, tk _ _ (.new IJ k new ha hz.zc hd h1 (.inl (hz.2.2 vs hd)) na os ag q)⟩
/-- raise X(..) from None, where one without context is handled -/
theorem ps_raiseN {X : Cx} {W : L2.WX} {e : Expr} {t : L2.St → Hp → XK → Prop} {j : Nat} {cpos pos : Pos} (hot : HotC X) (tk : Takes X W) (he : PMk5 X e t) :
    PS X (.Raise (some e) (some (.Constant .none j cpos)) pos) (fun _ σ H => t σ H fun cls d J => W cls d σ J) := by
  constructor
  intro pins s σ H D I h
  obtain ⟨⟨x, ox⟩, ⟨hh, vx, dx, cx⟩, hp⟩ := hot
  show wpAny (model X.prog X.w) X.A (do standAt pos; raiseStmt X.env (some (do let v ← eval e X.env; standAt pos; pure v)) (some (do let v ← eval (.Constant .none j cpos) X.env; standAt pos; pure v))) _ _ s
  refine wpAny_bind (wpAny_standAt (raise_made_hotN (x1 := x) (fun s2 Q2 y => wpAny_bind (Constant_none (wpAny_bind (wpAny_standAt (wpAny_pure y))))) (wpAny_bind (wpAny_mono (he pins s σ H _ I h)
    (fun u s1 ⟨⟨a, oe, vs, sI, J, cls, d, eu, IJ, k, new, ha, hz, hd, h1, na, os, ag, r, q⟩, six⟩ => ?_) fun _ _ y => y))))
  subst eu
  refine wpAny_bind (wpAny_standAt (wpAny_pure ?_))
  have P := IJ.pin (x, ox) (List.mem_append_left _ hp)
  have old : ∀ {b o}, sI.heap.get? b = some o → a ≠ b := fun {b o} z y => by rw [← y, new] at z; exact nomatch z
  have k4 : ∀ b o, sI.heap.get? b = some o → (noneFrom s1.heap a).get? b = some o := fun b o z => (noneFrom_other (old z)).trans (k b o z)
  have l1 := (r (model X.prog X.w) s1.heap (IJ.kIn.keeps k)).1
  have l2 := (r (model X.prog X.w) (noneFrom s1.heap a) (IJ.kIn.keeps k4)).2
  obtain ⟨a4, d4⟩ := noneFrom_at ha hd
  have s6 := six a oe vs rfl ha hd
  refine ⟨a, oe, vs, cls, rfl, ha, hz.1, hd, h1, s6, Ne.symm (old P.1), ⟨hh, ox, vx, k _ _ P.1, dx, cx⟩, l1, l2, tk _ _ ?_⟩
  refine Air.new (oe := ((oe.mapFields (·.setIfInBounds 3 .none)).mapFields (·.setIfInBounds 4 (.bool true))).mapFields (·.setIfInBounds 2 (.ref x))) IJ (fun b o z => ?_) new (Heap.get?_update_self _ a4 (Obj.isFreed_of_fields (Obj.data_mapFields d4 _))) ⟨?_, ?_⟩ (Obj.data_mapFields d4 _)
    (set_other (by decide) (set_other (by decide) (set_other (by decide) h1))) (.inr ⟨x, ox, vx, ?_, P.1, fun m => ?_, P.2.1, dx, cx⟩) na os ag q
  · exact (Heap.get?_update_other _ _ (old z)).trans (k4 b o z)
  · rw [Obj.cls_mapFields, Obj.cls_mapFields, Obj.cls_mapFields]; exact hz.1
  · rw [HandSPX.dict_mapFields, HandSPX.dict_mapFields, HandSPX.dict_mapFields]; exact hz.2.1
  · rw [Array.getElem?_setIfInBounds_self_of_lt]
    rw [set_size, set_size]; omega
  · exact (List.mem_cons.mp (IJ.stkSub x m)).elim P.2.2.1 P.2.2.2.1
/-- C(e, ..): a record of an own class is made, its dict filled by its own __init__ -/
theorem pmk {X : Cx} {Z : CXT} {x : Str} {e : Expr} {es : List Expr} {ta : TA} {p pos : Pos} {C q : Addr} {k : Nat} {fd : FuncData} {ps : List Str} {sp : Sp} (T : OexC X.K C) (iC : PySem.W.findIn X.K (.ref C) "__init__" = some (some (.ref q)))
    (tI : PySem.W.typeIn X.K (.ref q) = some (.type "function")) (G : FnOk X.prog X.w X.K X.mg X.base Z k q fd ps sp) (room : Room (k + 1) X.A) (bi : Binds X.K fd ps []) (pass : Passes Z X fun _ _ _ => False) (hg : Gl X x) (hm : X.mg x = some (.ref C)) (ha : PA X (e :: es) ta)
    (hdb : (x == ("__debug__" : Str)) = false := by decide) (he : starEach (e :: es) X.env = (false, eval e X.env) :: starEach es X.env := by rfl) (hpl : (backTo pos (starEach es X.env)).any (·.1) = false := by rfl) :
    PMk5 X (.Call (.Name x p) (e :: es) [] pos) (tMkO C sp [] ta) := fun pins s σ H Q I h => by
  obtain ⟨nm, qn, N, bs, bm, sn, sub, ab, col, dd, k0, k1, k2, k3, k5, hC, hbm⟩ := T.cls
  refine wpAny_Call_Name_kw (ld_glob I hg hm ?_ hdb)
  refine PySem.W.callWith_K (h₀ := X.base) I.ok.mod.kin T.kC (thn (ha.run pos pins s σ H _ I h) fun us s1 ⟨vs, H1, I1, rv, small, want⟩ => ⟨I1.kIn, ?_⟩) he hpl
  obtain ⟨h1, gens, dr, tk, os⟩ := s1
  generalize hn : h1.objs.size + 1 = n at *
  have le : h1.objs.size ≤ n := by rw [← hn]; exact Nat.le_succ _
  have wants := want n (I1.hok.fresh le)
  rw [List.append_nil] at wants
  generalize hh2 : (h1.push (PySem.W.kdv_tup us)).push (PySem.HandSPX.excO C h1.objs.size) = h2 at *
  have kept : ∀ b o, h1.get? b = some o → h2.get? b = some o := fun b o z => by rw [← hh2]; exact Heap.get?_push_of_some _ (Heap.get?_push_of_some _ z)
  have at_n : h2.get? n = some (PySem.HandSPX.excO C h1.objs.size) := by rw [← hh2, ← hn]; heap_get
  have J : Inv X pins σ (upd H1 n (exo n C none)) ⟨h2, gens, dr, tk, os⟩ := I1.laid (t' := tk) kept le (exo_ok at_n)
  have rv2 : Vals (V.ref n :: vs) (Value.ref n :: us) := .cons rfl rv
  have ll : (Value.ref n :: us).length = ps.length := rv2.length.symm.trans (G.len _ _ _ _ wants)
  have bt := bi ⟨h2, gens, dr, tk, os⟩ (Value.ref n :: us) J.kIn (by rw [List.append_nil]; exact ll)
  rw [List.append_nil] at bt
  have ul : us.length ≤ sizeLine := by
    have := Paired.length rv
    rw [sizeLine_eq]
    omega
  have run := G.run _ X.stack _ _ ⟨Value.ref n :: us, []⟩ _ _ _ (fun _ _ _ => False) (room.make C us []) (J.env0.make C us []) bt rv2 wants
  refine wpAny_call (PySem.HandSPX.call_own F.excBase_ValueError (fun Y => PySem.HandSPX.refsVE_contains Y bm hbm) (I1.kIn _ _ hC) (PySem.W.looks_findIn I1.kIn iC) (fun self => PySem.W.bind_fn I1.kIn self tI) ul ?_)
  rw [hn, List.nil_append, hh2]
  refine codeAny_mono run fun r s2 back => ?_
  match r, back with
  | .error er, back => exact pass pins σ _ _ er s2 J back
  | .ok (.ret u), ⟨v, H2, os2, bare2, un2, hok2, ru, ⟨ev, d, fs, ea, ed, dn, wq⟩⟩ =>
    subst ev
    obtain ⟨g1, gens2, dr2, tk2, os3⟩ := s2
    obtain ⟨t0, G, JG, kG, new, rec, na⟩ := mk_end0 (d2 := dr2) (t2 := tk2) I1 le kept un2 hok2 os2 bare2 ea ed dn
    refine ⟨ru, ⟨n, _, _, ⟨G, gens2, dr2, tk2, os3⟩, _, .ref C, some d, rfl, JG, kG, new, rec, ⟨rfl, rfl, ?_⟩, rfl, rfl, na, rfl, bare2, raises_own T.exC T.tyC, wq⟩, ?_⟩
    · intro gs e; cases e; rfl
    · intro b ob gs e z zd
      cases e
      obtain rfl := Option.some.inj (rec.symm.trans z)
      cases zd
      exact (by decide : (4 : Nat) < 6)
/-! ### try: body, except clauses with or without a name -/
/-- the handled record stands among the pins, its context too -/
def HotP (A : Around) (pn : List (Addr × Obj)) : Prop := ∃ (a : Addr) (oa : Obj) (va : Array Value), A.handled = some (.ref a) ∧ (a, oa) ∈ pn ∧ oa.data = .fields va ∧
  (va[2]? = some .none ∨ ∃ (x : Addr) (ox : Obj) (vx : Array Value), va[2]? = some (.ref x) ∧ (x, ox) ∈ pn ∧ ox.data = .fields vx ∧ vx[2]? = some .none)
structure Hd where
  c : Value
  i : Option Nat
  ts : Addr → Value → Option Addr → TS
def setI (σ : L2.St) (v : Option V) : Option Nat → L2.St
  | none => σ
  | some i => σ.set i v
def endI (D : Ends) : Option Nat → Ends
  | none => D
  | some i => { nx := fun σ' H' => D.nx (σ'.set i none) H', rt := D.rt, bk := fun σ' H' => D.bk (σ'.set i none) H', ct := fun σ' H' => D.ct (σ'.set i none) H' }
def wHs (K : PySem.W.Frag) (W : L2.WX) (D : Ends) : List Hd → L2.WX
  | [] => W
  | q :: r => fun cls d σ H => ∃ b, PySem.W.exmOne K cls q.c = some b ∧ (b = true → ∀ a, H a = none → q.ts a cls d (endI D q.i) (setI σ (some (.ref a)) q.i) H) ∧ (b = false → wHs K W D r cls d σ H)
def Su (X : Cx) (st : List Stmt) (ts : Addr → Value → Option Addr → TS) : Prop := ∀ (a : Addr) (oe : Obj) (cls : Value) (d : Option Addr) (pn : List (Addr × Obj)), Zc cls d oe → (∃ vs, oe.data = .fields vs) →
  HotP (X.A.mark (some (.ref a))) ((a, oe) :: pn) → PSs (X.suite a ((a, oe) :: pn)) st (ts a cls d)
inductive Hds (X : Cx) : List ExceptHandler → List Hd → Prop
  | nil : Hds X [] []
  | only {x : Str} {c : Value} {ts : Addr → Value → Option Addr → TS} {b : Stmt} {su : List Stmt} {p q : Pos} {hs : List ExceptHandler} {l : List Hd} (nx : Names X x c) (hu : Su X (b :: su) ts) (r : Hds X hs l) : Hds X (.ExceptHandler (some (.Name x p)) none (b :: su) q :: hs) (⟨c, none, ts⟩ :: l)
  | as {x n : Str} {i : Nat} {c : Value} {ts : Addr → Value → Option Addr → TS} {b : Stmt} {su : List Stmt} {p q : Pos} {hs : List ExceptHandler} {l : List Hd} (nx : Names X x c) (hi : X.N[i]? = some n) (hl : X.env.kindOf n = some .local) (hu : Su X (b :: su) ts) (r : Hds X hs l) :
      Hds X (.ExceptHandler (some (.Name x p)) (some n) (b :: su) q :: hs) (⟨c, some i, ts⟩ :: l)
section
variable {X : Cx} {pins ex : List (Addr × Obj)} {σ : L2.St} {H : Hp} {s : Shared}
theorem pins_sub {p2 : List (Addr × Obj)} (I : Inv X pins σ H s) (h : ∀ q ∈ p2, q ∈ X.pn ++ pins) : Inv X p2 σ H s :=
  ⟨I.ok, I.os, I.bare, I.base, I.loc, I.cell, I.free, I.freeC, fun q hq => I.pin q ((List.mem_append.mp hq).elim (List.mem_append_left _) (h q)), I.hok, I.len⟩
theorem pins_add (I : Inv X pins σ H s) (h : ∀ q ∈ ex, s.heap.get? q.1 = some q.2 ∧ H q.1 = none ∧ q.1 ≠ X.env.locals ∧ q.1 ∉ X.fs ∧ ∀ v, q.2.data ≠ .cell v) : Inv X (pins ++ ex) σ H s :=
  ⟨I.ok, I.os, I.bare, I.base, I.loc, I.cell, I.free, I.freeC, fun q hq => by
    rw [← List.append_assoc] at hq
    exact (List.mem_append.mp hq).elim (I.pin q) (h q), I.hok, I.len⟩
/-- a record is no frame -/
theorem rec_nofr {B h : Heap} {l : List Env} {a : Addr} {o : Obj} {vs : Array Value} (ff : h.FunFrames B l) (e : h.get? a = some o) (d : o.data = .fields vs) : a ∉ frs l := fun m => by
  obtain ⟨_, o2, e2, n⟩ := ff.mem m
  obtain rfl : o = o2 := Option.some.inj (e.symm.trans e2)
  exact n vs d
/-- into the suite -/
theorem suiteK {B : Heap} {a : Addr} {cls : Value} {d : Option Addr} (hs : X.stack = X.env :: X.outer) (hf : X.env.frame = some X.env.locals) (I : Inv X pins σ H s) (fly : HandSPX.FlyingZ B (X.env :: X.outer) a (Zk B H cls d) s.heap) (na : H a = none) :
    ∃ oe ex, Zc cls d oe ∧ (∃ vs, oe.data = .fields vs) ∧ HotP (X.A.mark (some (.ref a))) ((a, oe) :: (X.pn ++ (pins ++ ex))) ∧ Inv (X.suite a ((a, oe) :: (X.pn ++ (pins ++ ex)))) [] σ H s := by
  obtain ⟨oe, vs, e1, e2, e3⟩ := fly.there
  have ff := fly.2.2.1
  have out : ∀ {b o us}, s.heap.get? b = some o → o.data = .fields us → b ≠ X.env.locals ∧ b ∉ X.fs := fun {b o us} z zd => by
    have := rec_nofr ff z zd
    unfold frs at this
    rw [List.filterMap_cons, hf] at this
    exact ⟨fun y => this (by rw [y]; exact List.mem_cons_self), fun y => this (List.mem_cons_of_mem _ y)⟩
  obtain ⟨nL, nF⟩ := out e1 e3
  rcases e2.2 vs e3 with c | ⟨x, ox, us, c1, c2, c3, c4, c5⟩
  · exact ⟨oe, [], e2.1, ⟨vs, e3⟩, ⟨a, oe, vs, rfl, List.mem_cons_self, e3, .inl c⟩, (pins_add I fun q z => absurd z List.not_mem_nil).suite e1 e3 na nL nF⟩
  · have c2' := fly.1 _ _ c2
    obtain ⟨mL, mF⟩ := out c2' c4
    refine ⟨oe, [(x, ox)], e2.1, ⟨vs, e3⟩, ⟨a, oe, vs, rfl, List.mem_cons_self, e3, .inr ⟨x, ox, us, c1, by simp, c4, c5⟩⟩, (pins_add I fun q hq => ?_).suite e1 e3 na nL nF⟩
    obtain rfl := List.mem_singleton.mp hq
    exact ⟨c2', c3, mL, mF, fun v z => by rw [c4] at z; exact nomatch z⟩
end
section
variable {X : Cx} {body : List Stmt} {q₀ : ExceptHandler} {qs : List ExceptHandler} {l : List Hd} {pos : Pos} {tb : L2.WX → TS} {W₀ : L2.WX}
theorem ps_try (hs : X.stack = X.env :: X.outer) (hf : X.env.frame = some X.env.locals) (hN : X.N.Nodup) (tk : Takes X W₀)
    (hb : ∀ (W : L2.WX) (pn : List (Addr × Obj)) (xe : Value → Shared → Prop), Takes (X.tr pn xe) W → PassesOwn (model X.prog X.w) X.A X.env xe → PSs (X.tr pn xe) body (tb W)) (hq : Hds X (q₀ :: qs) l) :
    PS X (.Try body (q₀ :: qs) [] [] pos) (fun D σ H => tb (wHs X.K W₀ D l) D σ H) := by
  constructor
  intro pins s σ H D I h
  have ok := I.ok
  have fr : X.A.frames = some (X.env :: X.outer) := ok.frames.trans (congrArg some hs)
  refine wpAny_Try_except (wpAny_mono ((hb (wHs X.K W₀ D l) (X.pn ++ pins) (fun e s1 => wpAny (model X.prog X.w) X.A (noteFrame e X.env) (fun _ s2 => wpAny (model X.prog X.w) X.A (setFlight e none) (fun _ s3 =>
    wpAny (model X.prog X.w) X.A (handleBy e X.env (q₀ :: qs)) (SP X pins D) X.xe s3) X.xe s2) X.xe s1) ?_ PassesOwn.looking).run [] s σ H D (I.toTry _) h) (fun f s1 y => ?_) fun _ _ y => y)
  · rintro u s1 ⟨a, B, t, pn2, σ2, H2, cls, d, rfl, J, nb, up, sky, na, os, ag, w⟩
    have J := J.ofTry ok
    have sky : Sky B (X.env :: X.outer) a (Zk B H2 cls d) X.env.locals s1.heap := hs ▸ sky
    refine L2N.Sky.land Zk.st fr hf sky fun h3 fly up3 => ?_
    have J3 : Inv X pins σ2 H2 { s1 with heap := h3 } := J.landed nb fly.1 (up.trans up3) os ag
    obtain ⟨oe, vs, e1, e2, e3⟩ := fly.there
    obtain ⟨oa, ex, _, _, _, S3⟩ := suiteK hs hf J3 fly na
    suffices go : ∀ qs l, Hds X qs l → wHs X.K W₀ D l cls d σ2 H2 → wpAny (model X.prog X.w) X.A (handleBy (.ref a) X.env qs) (SP X pins D) X.xe { s1 with heap := h3 } from go _ _ hq w
    intro qs l hq
    have LT : PySem.W.Looks (model X.prog X.w) h3 (typeOf (.ref a)) cls := fun A Q E s2 k y => wpAny_typeOf_ref (k _ _ e1) (by rw [e2.1.1]; exact y)
    have test : ∀ {x : Str} {p : Pos} {c : Value} {Q : Value → Shared → Prop} {E : Value → Shared → Prop}, Names X x c → Q c { s1 with heap := h3 } → wpAny (model X.prog X.w) (X.A.mark (some (.ref a))) (eval (.Name x p) X.env) Q E { s1 with heap := h3 } := fun nx y => by
      obtain ⟨g, db, gm | ⟨gm, bv, nn⟩⟩ := nx
      · exact ld_glob (X := X.suite a ((a, oa) :: (X.pn ++ (pins ++ ex)))) S3 g gm y db
      · exact ld_blt (X := X.suite a ((a, oa) :: (X.pn ++ (pins ++ ex)))) S3 g gm bv y nn db
    induction hq with
    | nil =>
      intro w
      obtain ⟨_, _, _, oe, vs, T, oT, ts, g1, g2, g3, g4, g5⟩ := id fly
      refine wpAny_handleBy_nil ?_
      unfold PySem.passOn
      refine wpAny_bind (wpAny_field g1 g3 g4 ?_)
      rw [if_neg (show ¬ (Value.ref T == Value.none) = true by simp)]
      have up4 : wpAny (model X.prog X.w) X.A (setFlight (.ref a) X.env.frame) (fun _ s4 => wpAny (model X.prog X.w) X.A (throw (.ref a) : Sem Flow) (SP X pins D) X.xe s4) X.xe { s1 with heap := h3 } := by
        rw [hf]
        exact HandSPX.setFlight_upZ fly fun h4 held up4 => wpAny_throw (tk _ _ ⟨a, B, t, pins, σ2, H2, cls, d, rfl, J, nb, (up.trans up3).trans up4, .inr (.inr (hs ▸ held)), na, os, ag, w⟩)
      first
      | exact wpAny_bind (wpAny_pure (wpAny_bind up4))
      | exact wpAny_bind up4
    | @only x c ts b su p q qs l nx hu r ih =>
      rintro ⟨yn, ey, yes, no⟩
      refine wpAny_handleBy_cons (codeAny_handlers_test (test nx ((PySem.W.exm_one (M := model X.prog X.w) J3.kIn LT ey).here ?_))) (by intro z; cases z)
      cases yn with
      | false => exact ih (no rfl)
      | true =>
        refine codeAny_handlers_suite (HandSPX.lands_againZ fly fun h4 fly4 up4 => ?_)
        have J4 : Inv X pins σ2 H2 { s1 with heap := h4 } := J.landed nb fly4.1 ((up.trans up3).trans up4) os ag
        obtain ⟨o4, x4, z4, f4, hot, S4⟩ := suiteK hs hf J4 fly4 na
        have back : ∀ {pp : List (Addr × Obj)} {σ6 : L2.St} {H6 : Hp} {s6 : Shared}, Inv (X.suite a ((a, o4) :: (X.pn ++ (pins ++ x4)))) pp σ6 H6 s6 → Inv X pins σ6 H6 s6 := fun S6 => pins_sub (S6.unsuite ok) fun q hq => List.mem_append_right _ (List.mem_append_left _ hq)
        refine wpAny_mono ((hu a o4 cls d _ z4 f4 hot).run [] _ _ H2 _ S4 (yes rfl a na)) (fun f s6 y => ?_) fun _ _ y => y.elim
        cases f with
        | next => exact let ⟨σ6, H6, S6, y⟩ := y; ⟨σ6, H6, back S6, y⟩
        | brk => exact let ⟨σ6, H6, S6, y⟩ := y; ⟨σ6, H6, back S6, y⟩
        | cont => exact let ⟨σ6, H6, S6, y⟩ := y; ⟨σ6, H6, back S6, y⟩
        | ret u => exact let ⟨v, σ6, H6, S6, r6, y⟩ := y; ⟨v, σ6, H6, back S6, r6, y⟩
    | @as x n i c ts b su p q qs l nx hi hl hu r ih =>
      rintro ⟨yn, ey, yes, no⟩
      refine wpAny_handleBy_cons (codeAny_handlers_test (test nx ((PySem.W.exm_one (M := model X.prog X.w) J3.kIn LT ey).here ?_))) (by intro z; cases z)
      cases yn with
      | false => exact ih (no rfl)
      | true =>
        refine codeAny_handlers_suite_as (HandSPX.lands_againZ fly fun h4 fly4 up4 => ?_)
        have J4 : Inv X pins σ2 H2 { s1 with heap := h4 } := J.landed nb fly4.1 ((up.trans up3).trans up4) os ag
        obtain ⟨o4, x4, z4, f4, hot, S4⟩ := suiteK hs hf J4 fly4 na
        refine store_ok (X := X.suite a ((a, o4) :: (X.pn ++ (pins ++ x4)))) (v := .ref a) S4 hN hi (.inl hl) rfl (fun s5 S5 => ?_) (.inr hl)
        have off : ∀ {pp : List (Addr × Obj)} {σ6 : L2.St} {H6 : Hp} {s6 : Shared} {Q : Shared → Prop}, Inv (X.suite a ((a, o4) :: (X.pn ++ (pins ++ x4)))) pp σ6 H6 s6 → (∀ s7, Inv X pins (σ6.set i none) H6 s7 → Q s7) →
            wpAny (model X.prog X.w) X.A (do bindName X.env n .none; unbindBehindTheSuite X.env n q) (fun _ s7 => Q s7) X.xe s6 := fun S6 y => gone_ok (pins_sub (S6.unsuite ok) fun q hq => List.mem_append_right _ (List.mem_append_left _ hq)) hN hi hl y
        refine wpAny_mono ((hu a o4 cls d _ z4 f4 hot).run [] s5 _ H2 _ S5 (yes rfl a na)) (fun f s6 y => ?_) fun _ _ y => y.elim
        cases f with
        | next => exact let ⟨σ6, H6, S6, y⟩ := y; off S6 fun s7 J7 => ⟨_, _, J7, y⟩
        | brk => exact let ⟨σ6, H6, S6, y⟩ := y; off S6 fun s7 J7 => ⟨_, _, J7, y⟩
        | cont => exact let ⟨σ6, H6, S6, y⟩ := y; off S6 fun s7 J7 => ⟨_, _, J7, y⟩
        | ret u => exact let ⟨v, σ6, H6, S6, r6, y⟩ := y; off S6 fun s7 J7 => ⟨v, _, _, J7, r6, y⟩
  · cases f with
    | next => exact let ⟨σ2, H2, J, y⟩ := y; wpAny_execs_nil ⟨σ2, H2, J.ofTry ok, y⟩
    | brk => exact let ⟨σ2, H2, J, y⟩ := y; ⟨σ2, H2, J.ofTry ok, y⟩
    | cont => exact let ⟨σ2, H2, J, y⟩ := y; ⟨σ2, H2, J.ofTry ok, y⟩
    | ret u => exact let ⟨v, σ2, H2, J, r, y⟩ := y; ⟨v, σ2, H2, J.ofTry ok, r, y⟩
end
end HK
namespace HK
open PySem PySem.Spec PyProof.Rows L2 HotX L2H
theorem Zk.of_n {B : Heap} {H : Hp} {cls : Value} {d : Option Addr} {o : Obj} (z : L2N.Zn cls d o) : Zk B H cls d o := ⟨z.zc, fun vs e => .inl (z.2.2 vs e)⟩
section
variable {X : Cx} {x : Str} {c : Value} {body su : List Stmt} {b₀ : Stmt} {np pos pos' : Pos} {tb : L2.WX → TS} {ts : Addr → Value → Option Addr → TS} {W₀ : L2.WX}
/-- the body lets out what bears no context; the suite may raise -/
theorem ps_tryN (hs : X.stack = X.env :: X.outer) (hf : X.env.frame = some X.env.locals) (nx : Names X x c) (thru : ∀ hd : Option Value, PassesOwnAt (model X.prog X.w) (X.A.mark hd) X.A X.env X.xe) (tk : Takes X W₀)
    (hb : ∀ (W : L2.WX) (pn : List (Addr × Obj)) (xe : Value → Shared → Prop), L2N.Takes (X.tr pn xe) W → PassesOwn (model X.prog X.w) X.A X.env xe → PSs (X.tr pn xe) body (tb W))
    (hu : ∀ (a : Addr) (oe : Obj) (cls : Value) (d : Option Addr) (pn : List (Addr × Obj)), L2N.Zn cls d oe → (∃ vs, oe.data = .fields vs) → Takes (suiteX X a ((a, oe) :: pn)) W₀ → HotC (suiteX X a ((a, oe) :: pn)) → PSs (suiteX X a ((a, oe) :: pn)) (b₀ :: su) (ts a cls d)) :
    PS X (.Try body [.ExceptHandler (some (.Name x np)) none (b₀ :: su) pos'] [] [] pos) (fun D σ H => tb (wOnly X.K c ts W₀ D) D σ H) := by
  constructor
  intro pins s σ H D I h
  have ok := I.ok
  have fr : X.A.frames = some (X.env :: X.outer) := ok.frames.trans (congrArg some hs)
  refine wpAny_Try_except (wpAny_mono ((hb (wOnly X.K c ts W₀ D) (X.pn ++ pins) (fun e s1 => wpAny (model X.prog X.w) X.A (noteFrame e X.env) (fun _ s2 => wpAny (model X.prog X.w) X.A (setFlight e none) (fun _ s3 =>
    wpAny (model X.prog X.w) X.A (handleBy e X.env [.ExceptHandler (some (.Name x np)) none (b₀ :: su) pos']) (SP X pins D) X.xe s3) X.xe s2) X.xe s1) ?_ PassesOwn.looking).run [] s σ H D (I.toTry _) h) (fun f s1 y => ?_) fun _ _ y => y)
  · rintro u s1 ⟨a, B, t, pn2, σ2, H2, cls, d, rfl, J, nb, up, sky, na, os, ag, yn, ey, yes, no⟩
    have J := J.ofTry ok
    have sky : Sky B (X.env :: X.outer) a (L2N.Zn cls d) X.env.locals s1.heap := hs ▸ sky
    refine L2N.Sky.land L2N.Zn.steady fr hf sky fun h3 fly up3 => ?_
    have J3 : Inv X pins σ2 H2 { s1 with heap := h3 } := J.landed nb fly.1 (up.trans up3) os ag
    have flyK : HandSPX.FlyingZ B (X.env :: X.outer) a (Zk B H2 cls d) h3 := flyingZ_imp (fun _ z => Zk.of_n z) fly
    obtain ⟨oe, vs, e1, e2, e3⟩ := fly.there
    obtain ⟨oa, ex, _, _, _, S3⟩ := suiteK hs hf J3 flyK na
    have LT : PySem.W.Looks (model X.prog X.w) h3 (typeOf (.ref a)) cls := fun A Q E s2 k y => wpAny_typeOf_ref (k _ _ e1) (by rw [e2.1]; exact y)
    have test : ∀ {Q : Value → Shared → Prop} {E : Value → Shared → Prop}, Q c { s1 with heap := h3 } → wpAny (model X.prog X.w) (X.A.mark (some (.ref a))) (eval (.Name x np) X.env) Q E { s1 with heap := h3 } := fun y => by
      obtain ⟨g, db, gm | ⟨gm, bv, nn⟩⟩ := nx
      · exact ld_glob (X := X.suite a ((a, oa) :: (X.pn ++ (pins ++ ex)))) S3 g gm y db
      · exact ld_blt (X := X.suite a ((a, oa) :: (X.pn ++ (pins ++ ex)))) S3 g gm bv y nn db
    refine wpAny_handleBy_cons (codeAny_handlers_test (test ((PySem.W.exm_one (M := model X.prog X.w) J3.kIn LT ey).here ?_))) (by intro z; cases z)
    cases yn with
    | false =>
      obtain ⟨_, _, _, oe, vs, T, oT, ts, g1, g2, g3, g4, g5⟩ := id fly
      refine wpAny_handleBy_nil ?_
      unfold PySem.passOn
      refine wpAny_bind (wpAny_field g1 g3 g4 ?_)
      rw [if_neg (show ¬ (Value.ref T == Value.none) = true by simp)]
      have up4 : wpAny (model X.prog X.w) X.A (setFlight (.ref a) X.env.frame) (fun _ s4 => wpAny (model X.prog X.w) X.A (throw (.ref a) : Sem Flow) (SP X pins D) X.xe s4) X.xe { s1 with heap := h3 } := by
        rw [hf]
        exact HandSPX.setFlight_upZ flyK fun h4 held up4 => wpAny_throw (tk _ _ ⟨a, B, t, pins, σ2, H2, cls, d, rfl, J, nb, (up.trans up3).trans up4, .inr (.inr (hs ▸ held)), na, os, ag, no rfl⟩)
      first
      | exact wpAny_bind (wpAny_pure (wpAny_bind up4))
      | exact wpAny_bind up4
    | true =>
      refine codeAny_handlers_suite (HandSPX.lands_againZ fly fun h4 fly4 up4 => ?_)
      have J4 : Inv X pins σ2 H2 { s1 with heap := h4 } := J.landed nb fly4.1 ((up.trans up3).trans up4) os ag
      obtain ⟨o4, v4, f1, f2, f3⟩ := fly4.there
      have nfr := rec_nofr fly4.2.2.1 f1 f3
      unfold frs at nfr
      rw [List.filterMap_cons, hf] at nfr
      have S4 := J4.suite f1 f3 na (fun y => nfr (by rw [y]; exact List.mem_cons_self)) fun y => nfr (List.mem_cons_of_mem _ y)
      have tkS : Takes (suiteX X a ((a, o4) :: (X.pn ++ pins))) W₀ := fun u2 s2 ⟨a2, B2, t2, pn2, σ3, H3, cls2, d2, x1, I2, x3, x4, x5, x6, x7, x8, w2⟩ => tk u2 s2 ⟨a2, B2, t2, pins, σ3, H3, cls2, d2, x1, unsuiteX I2 ok, x3, x4, x5, x6, x7, x8, w2⟩
      refine wpAny_mono ((hu a o4 cls d _ f2 ⟨_, f3⟩ tkS ⟨(a, o4), ⟨rfl, v4, f3, f2.2.2 v4 f3⟩, List.mem_cons_self⟩).run [] _ _ H2 _ (suiteX_of S4) (yes rfl a na)) (fun f s6 y => ?_) fun e6 s6 y => thru (some (.ref a)) e6 s6 y
      cases f with
      | next => exact let ⟨σ6, H6, S6, y⟩ := y; ⟨σ6, H6, unsuiteX S6 ok, y⟩
      | brk => exact let ⟨σ6, H6, S6, y⟩ := y; ⟨σ6, H6, unsuiteX S6 ok, y⟩
      | cont => exact let ⟨σ6, H6, S6, y⟩ := y; ⟨σ6, H6, unsuiteX S6 ok, y⟩
      | ret u => exact let ⟨v, σ6, H6, S6, r6, y⟩ := y; ⟨v, σ6, H6, unsuiteX S6 ok, r6, y⟩
  · cases f with
    | next => exact let ⟨σ2, H2, J, y⟩ := y; wpAny_execs_nil ⟨σ2, H2, J.ofTry ok, y⟩
    | brk => exact let ⟨σ2, H2, J, y⟩ := y; ⟨σ2, H2, J.ofTry ok, y⟩
    | cont => exact let ⟨σ2, H2, J, y⟩ := y; ⟨σ2, H2, J.ofTry ok, y⟩
    | ret u => exact let ⟨v, σ2, H2, J, r, y⟩ := y; ⟨v, σ2, H2, J.ofTry ok, r, y⟩
end
end HK

/-! walks over lists where an exception is handled -/
namespace HK
open PySem PySem.Spec PyProof.Rows L2 HotX
def Hot (A : Around) (h : Heap) : Prop := ∃ (a : Addr) (oa : Obj) (va : Array Value), A.handled = some (.ref a) ∧ h.get? a = some oa ∧ oa.data = .fields va ∧
  (va[2]? = some .none ∨ ∃ (x : Addr) (ox : Obj) (vx : Array Value), va[2]? = some (.ref x) ∧ h.get? x = some ox ∧ ox.data = .fields vx ∧ vx[2]? = some .none)
theorem Hot.keep {A : Around} {h h' : Heap} (t : Hot A h) (k : ∀ b o, h.get? b = some o → h'.get? b = some o) : Hot A h' := by
  obtain ⟨a, oa, va, e1, e2, e3, e4⟩ := t
  exact ⟨a, oa, va, e1, k a oa e2, e3, e4.imp id fun ⟨x, ox, vx, c1, c2, c3⟩ => ⟨x, ox, vx, c1, k x ox c2, c3⟩⟩
/-- the handled one and its context are none of these -/
def Off (A : Around) (h : Heap) (bs : List Addr) : Prop := ∀ (a : Addr) (oa : Obj) (va : Array Value), A.handled = some (.ref a) → h.get? a = some oa → oa.data = .fields va → a ∉ bs ∧ ∀ x, va[2]? = some (.ref x) → x ∉ bs
theorem Hot.but {A : Around} {h h' : Heap} {bs : List Addr} (t : Hot A h) (off : Off A h bs) (k : ∀ b o, b ∉ bs → h.get? b = some o → h'.get? b = some o) : Hot A h' ∧ Off A h' bs := by
  obtain ⟨a, oa, va, e1, e2, e3, e4⟩ := t
  obtain ⟨n1, n2⟩ := off a oa va e1 e2 e3
  have e2' := k a oa n1 e2
  refine ⟨⟨a, oa, va, e1, e2', e3, e4.imp id fun ⟨x, ox, vx, c1, c2, c3⟩ => ⟨x, ox, vx, c1, k x ox (n2 x c1) c2, c3⟩⟩, fun b ob vb g1 g2 g3 => ?_⟩
  cases e1.symm.trans g1
  cases e2'.symm.trans g2
  cases e3.symm.trans g3
  exact ⟨n1, n2⟩
theorem Hot.lt {A : Around} {h : Heap} (t : Hot A h) : ∀ (a : Addr) (oa : Obj), A.handled = some (.ref a) → h.get? a = some oa → a < h.objs.size ∧ ∀ va x, oa.data = .fields va → va[2]? = some (.ref x) → x < h.objs.size := by
  obtain ⟨a, oa, va, e1, e2, e3, e4⟩ := t
  intro b ob g1 g2
  cases e1.symm.trans g1
  cases e2.symm.trans g2
  refine ⟨Heap.lt_size e2, fun vb x g3 g4 => ?_⟩
  cases e3.symm.trans g3
  rcases e4 with c | ⟨x, ox, vx, c1, c2, _⟩
  · rw [c] at g4; exact nomatch g4
  · cases c1.symm.trans g4
    exact Heap.lt_size c2
section
variable {prog : Program} {w : World} {A : Around} {E : Value → Shared → Prop} {s : Shared}
/-- the new one n stands in nobody's chain -/
theorem unchain {n a : Addr} {oa : Obj} {va : Array Value} {Q : Value → Shared → Prop} (ha : s.heap.get? a = some oa) (da : oa.data = .fields va)
    (c : va[2]? = some .none ∨ ∃ (x : Addr) (ox : Obj) (vx : Array Value), va[2]? = some (.ref x) ∧ x ≠ n ∧ s.heap.get? x = some ox ∧ ox.data = .fields vx ∧ vx[2]? = some .none) (q : Q .none s) :
    wpAny (model prog w) A (runValue (.builtin "proto.unchain" ⟨[.ref n, .ref a, .ref a, .bool false], []⟩)) Q E s := by
  refine wpAny_runValue (codeAny_builtin entry_unchain ?_)
  show wpAny _ _ (field (.ref a) 2 >>= _) _ _ s
  rcases c with c | ⟨x, ox, vx, c1, nx, hx, dx, cx⟩
  · refine wpAny_bind (wpAny_field ha da c ?_)
    rw [if_pos (show (Value.none == Value.none) = true from rfl)]
    first
    | exact wpAny_bind (wpAny_pure (wpAny_pure q))
    | exact wpAny_pure q
  · have xa : x ≠ a := fun z => by
      subst z
      obtain rfl : oa = ox := Option.some.inj (ha.symm.trans hx)
      obtain rfl : va = vx := Data.fields.inj (da.symm.trans dx)
      rw [c1] at cx
      exact nomatch cx
    have b1 : (Value.ref x == Value.none) = false := by simp
    have b2 : (Value.ref x == Value.ref n) = false := by simp [nx]
    have b3 : (Value.ref x == Value.ref a) = false := by simp [xa]
    refine wpAny_bind (wpAny_field ha da c1 ?_)
    simp only [b1, b2, b3, Bool.false_eq_true, if_false, pure_bind]
    refine wpAny_pure ⟨Code.quiet_builtin _ (by decide +kernel), codeAny_builtin entry_unchain ?_⟩
    show wpAny _ _ (field (.ref x) 2 >>= _) _ _ s
    refine wpAny_bind (wpAny_field hx dx cx ?_)
    rw [if_pos (show (Value.none == Value.none) = true from rfl)]
    first
    | exact wpAny_bind (wpAny_pure (wpAny_pure q))
    | exact wpAny_pure q
theorem raiseHot {α : Type} {n : Addr} {on : Obj} {vs : Array Value} {Q : α → Shared → Prop} (hot : Hot A s.heap) (fresh : ∀ a oa, A.handled = some (.ref a) → s.heap.get? a = some oa → a ≠ n ∧ ∀ va x, oa.data = .fields va → va[2]? = some (.ref x) → x ≠ n)
    (hn : s.heap.get? n = some on) (dn : on.data = .fields vs) (sz : 2 < vs.size) (hE : ∀ a, E (.ref n) { s with heap := s.heap.update n (Obj.mapFields (·.setIfInBounds 2 (.ref a))) }) : wpAny (model prog w) A (raiseNew (.ref n) : Sem α) Q E s := by
  obtain ⟨a, oa, va, hh, ha, da, c⟩ := hot
  obtain ⟨f1, f2⟩ := fresh a oa hh ha
  unfold raiseNew
  refine wpAny_bind (wpAny_handled ?_)
  rw [hh]
  have hb : (Value.ref a != Value.ref n) = true := ref_bne f1
  have U : ∀ {Q' : Value → Shared → Prop}, Q' .none s → wpAny (model prog w) A (holding [Value.ref n] (runValue (.builtin "proto.unchain" ⟨[.ref n, .ref a, .ref a, .bool false], []⟩))) Q' E s := fun y =>
    wpAny_holding (unchain ha da (c.imp id fun ⟨x, ox, vx, c1, c2, c3, c4⟩ => ⟨x, ox, vx, c1, f2 va x da c1, c2, c3, c4⟩) y)
  first
  | (show wpAny _ _ (if (Value.ref a != Value.ref n) = true then _ else _) _ _ _
     rw [if_pos hb]
     first
     | exact wpAny_bind (U (wpAny_bind (chained hn dn sz (wpAny_throw (hE a)))))
     | exact wpAny_bind (wpAny_bind (U (chained hn dn sz (wpAny_throw (hE a))))))
  | (refine wpAny_bind ?_
     show wpAny _ _ (if (Value.ref a != Value.ref n) = true then _ else _) _ _ _
     rw [if_pos hb]
     exact wpAny_bind (U (chained hn dn sz (wpAny_throw (hE a)))))
/-- a list's iterator ends -/
theorem list_end {it l : Addr} {i : Nat} {items : Array Value} {Q : Option Value → Shared → Prop} (hot : Hot A s.heap) (hit : s.heap.IsListIter it l i) (hl : s.heap.IsList l items) (hx : items[i]? = none)
    (away : Off A s.heap [it])
    (hQ : ∀ h', (∀ b o, b ≠ it → s.heap.get? b = some o → h'.get? b = some o) → Q none { s with heap := h' }) : wpAny (model prog w) A (pyNext (.ref it)) Q E s := by
  obtain ⟨o, ho, hc, hd⟩ := id hit
  obtain ⟨ol, hol, _, _, hdl⟩ := hl
  unfold pyNext
  refine wpAny_bind (wpAny_attempt (wpAny_callSpecial?_slot (name := Str.ofString "__next__") hit.typeIs slot_listiter_next (wpAny_call_entry slot_listiter_next hit.typeIs entry_listiter_next ?_ (args_listiter_next _))))
  show wpAny _ _ (field (.ref it) 0 >>= _) _ _ s
  refine wpAny_bind (wpAny_field ho hd (x := .ref l) rfl ?_)
  show wpAny _ _ (if (Value.ref l == Value.none) = true then _ else _) _ _ s
  rw [if_neg (show ¬ (Value.ref l == Value.none) = true by simp)]
  show wpAny _ _ (field (.ref it) 1 >>= _) _ _ s
  refine wpAny_bind (wpAny_field ho hd (x := .int i 0) rfl ?_)
  show wpAny _ _ (seqItems? (.ref l) >>= _) _ _ s
  refine wpAny_bind (wpAny_seqItems hol hdl ?_)
  simp only [Int.toNat_natCast, hx]
  refine wpAny_bind (wpAny_rule (wpAny_bind (wpAny_setField ho hd (by simp) ?_)))
  show wpAny _ _ (newExc (.type "StopIteration") [] >>= _) _ _ _
  refine wpAny_bind ?_
  simp only [newExc, newTuple]
  refine wpAny_bind (wpAny_newObj_type ?_ (by size_fits))
  refine wpAny_bind (m := firstArgMember _ _) (wpAny_of_eq (a := Value.none) (by first | rfl | (simp only [firstArgMember]; rfl)) ?_)
  refine wpAny_newObj_type ?_ (by size_fits)
  generalize hg : s.heap.update it (Obj.mapFields (·.setIfInBounds 0 Value.none)) = g
  have sg : s.heap.objs.size = g.objs.size := by rw [← hg, Heap.size_update]
  have kg : ∀ b ob, b ≠ it → s.heap.get? b = some ob → g.get? b = some ob := fun b ob nb z => by
    rw [← hg]
    exact (Heap.get?_update_other _ _ (Ne.symm nb)).trans z
  have kk : ∀ {u v : Obj} {b ob}, b ≠ it → s.heap.get? b = some ob → ((g.push u).push v).get? b = some ob := fun nb z => Heap.get?_push_of_some _ (Heap.get?_push_of_some _ (kg _ _ nb z))
  have lo := hot.lt
  have hot0 := hot
  refine raiseHot (A := A.in1) (hot.but away fun b ob nb z => kk (fun y => nb (by rw [y]; exact List.mem_cons_self)) z).1 (fun a oa g1 g2 => ?_) (Heap.get?_push_size _ rfl) rfl (by first | (simp; done) | (simp; omega) | (simp only [Array.size_append]; simp; omega)) fun a => ?_
  · obtain ⟨a1, o1, v1, e1, e2, e3, e4⟩ := hot0
    have ee : a1 = a := by cases e1.symm.trans g1; rfl
    subst ee
    obtain ⟨l1, l2⟩ := lo a1 o1 e1 e2
    have n1 : a1 ≠ it := fun y => (away a1 o1 v1 e1 e2 e3).1 (by rw [y]; exact List.mem_cons_self)
    cases (kk n1 e2).symm.trans g2
    refine ⟨?_, fun va x g3 g4 => ?_⟩
    · show a1 ≠ (g.push _).objs.size
      rw [Heap.size_push, ← sg]
      exact Nat.ne_of_lt (Nat.lt_succ_of_lt l1)
    · have := l2 va x g3 g4
      show x ≠ (g.push _).objs.size
      rw [Heap.size_push, ← sg]
      exact Nat.ne_of_lt (Nat.lt_succ_of_lt this)
  · refine wpAny_bind (wpAny_isInstance (T := "StopIteration") (b := true) ⟨_, Heap.get?_update_self _ (Heap.get?_push_size _ rfl) rfl, rfl⟩ isSubtype_stop ?_)
    refine wpAny_pure (hQ _ fun b ob nb z => ?_)
    refine (Heap.get?_update_other _ _ ?_).trans (kk nb z)
    have := Heap.lt_size z
    show (g.push _).objs.size ≠ b
    rw [Heap.size_push, ← sg]
    exact Nat.ne_of_gt (Nat.lt_succ_of_lt this)
end
end HK
namespace HK
open PySem PySem.Spec PyProof.Rows L2 HotX
/-- the chain by its two ends (one, if it has no second) -/
def Two (A : Around) (a x : Addr) (oa ox : Obj) : Prop := A.handled = some (.ref a) ∧ ∃ va : Array Value, oa.data = .fields va ∧ ((va[2]? = some .none ∧ x = a ∧ ox = oa) ∨ (va[2]? = some (.ref x) ∧ ∃ vx : Array Value, ox.data = .fields vx ∧ vx[2]? = some .none))
theorem Hot.two {A : Around} {h : Heap} (t : Hot A h) : ∃ a x oa ox, Two A a x oa ox ∧ h.get? a = some oa ∧ h.get? x = some ox := by
  obtain ⟨a, oa, va, e1, e2, e3, e4⟩ := t
  rcases e4 with c | ⟨x, ox, vx, c1, c2, c3, c4⟩
  · exact ⟨a, a, oa, oa, ⟨e1, va, e3, .inl ⟨c, rfl, rfl⟩⟩, e2, e2⟩
  · exact ⟨a, x, oa, ox, ⟨e1, va, e3, .inr ⟨c1, vx, c3, c4⟩⟩, e2, c2⟩
theorem Two.hot {A : Around} {h : Heap} {a x : Addr} {oa ox : Obj} (t : Two A a x oa ox) (ha : h.get? a = some oa) (hx : h.get? x = some ox) : Hot A h := by
  obtain ⟨e1, va, e2, c | ⟨c1, vx, c2, c3⟩⟩ := t
  · exact ⟨a, oa, va, e1, ha, e2, .inl c.1⟩
  · exact ⟨a, oa, va, e1, ha, e2, .inr ⟨x, ox, vx, c1, hx, c2, c3⟩⟩
theorem Two.off {A : Around} {h : Heap} {a x b : Addr} {oa ox : Obj} (t : Two A a x oa ox) (ha : h.get? a = some oa) (na : a ≠ b) (nx : x ≠ b) : Off A h [b] := by
  intro c oc vc g1 g2 g3
  obtain ⟨e1, va, e2, e3⟩ := t
  have ee : a = c := by cases e1.symm.trans g1; rfl
  subst ee
  cases ha.symm.trans g2
  cases e2.symm.trans g3
  refine ⟨fun m => na (List.mem_singleton.mp m), fun y g4 m => ?_⟩
  rcases e3 with c | ⟨c1, _⟩
  · rw [c.1] at g4; exact nomatch g4
  · cases c1.symm.trans g4
    exact nx (List.mem_singleton.mp m)
/-- a walk over a list there -/
theorem walks {prog : Program} {w : World} {A : Around} {a x I l : Addr} {oa ox : Obj} {items : Array Value} (t : Two A a x oa ox) (na : a ≠ I) (nx : x ≠ I) (nl : l ≠ I) :
    Walks prog w A I [I, l, a, x] [I] items.size (fun i v => items[i]? = some v) (fun i h => (h.IsListIter I l i ∧ h.IsList l items) ∧ h.get? a = some oa ∧ h.get? x = some ox) where
  sub := fun b hb => by rw [List.mem_singleton.mp hb]; exact List.mem_cons_self
  frame := fun _ _ _ st k => ⟨⟨st.1.1.at fun o e => k I (by simp) o e, st.1.2.at fun o e => k l (by simp) o e⟩, k a (by simp) _ st.2.1, k x (by simp) _ st.2.2⟩
  item := fun i s Q E hi st hQ => wpAny_pyNext_list_item st.1.1 st.1.2 (x := items[i]) (by simp [hi]) fun h2 it2 sb =>
    hQ _ h2 s.toks (by simp [hi]) ⟨⟨it2, st.1.2.extBut sb.extBut nl⟩, (sb.2 a na).trans st.2.1, (sb.2 x nx).trans st.2.2⟩ fun b o hb e => (sb.2 b fun z => hb (by rw [z]; exact List.mem_cons_self)).trans e
  done := fun s Q E st hQ => list_end (t.hot st.2.1 st.2.2) st.1.1 st.1.2 (by simp) (t.off st.2.1 na nx) fun h2 k => hQ h2 s.toks fun b o hb e => k b o (fun z => hb (by rw [z]; exact List.mem_cons_self)) e
  self := fun _ _ _ _ st hQ => wpAny_pyIter_listiter st.1.1 hQ
theorem HotP.at {X : Cx} {pins : List (Addr × Obj)} {σ : L2.St} {H : Hp} {s : Shared} (c : HotP X.A X.pn) (I : Inv X pins σ H s) : Hot X.A s.heap := by
  obtain ⟨a, oa, va, e1, e2, e3, e4⟩ := c
  have at_ : ∀ {b o}, (b, o) ∈ X.pn → s.heap.get? b = some o := fun m => (I.pin _ (List.mem_append_left _ m)).1
  exact ⟨a, oa, va, e1, at_ e2, e3, e4.imp id fun ⟨x, ox, vx, c1, c2, c3⟩ => ⟨x, ox, vx, c1, at_ c2, c3⟩⟩
theorem cr_sum {X : Cx} (hot : HotP X.A X.pn) : CallR X (.builtin "sum") (rSum X.K) := by
  intro pins s σ H vs us Q I r h
  obtain ⟨l, ns, rfl, hs, q⟩ := h
  obtain ⟨its, rv, p, _⟩ := I.list hs
  rw [Vals.ref1 r]
  obtain ⟨xs, ex⟩ := rv.ints.allInts.items
  have hn : numsOf (intItems xs).toList = ns := by rw [← ex]; exact rv.ints.numsOf
  rw [nums_intItems] at hn
  have hl : s.heap.IsList l (intItems xs) := by rw [← ex]; exact p.isList
  obtain ⟨a, x, oa, ox, two, ha, hx⟩ := (hot.at I).two
  refine PySem.call_sum_walkG (iter_intList hl fun s2 es st lt nl => ?_)
  subst es
  refine ⟨_, _, _, _, _, _, numAt xs, rfl, walks (A := X.A.in1) two (Nat.ne_of_lt (Heap.lt_size ha)) (Nat.ne_of_lt (Heap.lt_size hx)) nl, ⟨st, Heap.get?_push_of_some _ ha, Heap.get?_push_of_some _ hx⟩, ?_, fun _ _ => intItems_at, fun h2 tk t k => ?_⟩
  · intro b hb
    simp only [List.mem_cons, List.not_mem_nil, or_false] at hb
    rcases hb with z | z | z | z
    · exact lt b (by rw [z]; simp)
    · exact lt b (by rw [z]; simp)
    · rw [z]; exact Heap.lt_size (Heap.get?_push_of_some _ ha)
    · rw [z]; exact Heap.lt_size (Heap.get?_push_of_some _ hx)
  · have e : preSum (numAt xs) (intItems xs).size = ns.sum := by
      rw [show (intItems xs).size = xs.size by simp [intItems], preSum_eq, List.take_of_length_le (by simp), hn]
    rw [e]
    exact ⟨.int _, H, I.kept fun b o z => k b o (fun m => Nat.ne_of_lt (Heap.lt_size z) (List.mem_singleton.mp m)) (Heap.get?_push_of_some _ z), ⟨_, rfl⟩, q⟩
end HK
namespace HK
open PySem PySem.Spec PyProof.Rows L2 HotX
/-- new objects, laid and tracked at once -/
theorem adopt {X : Cx} {pins : List (Addr × Obj)} {σ : L2.St} {H H' : Hp} {s : Shared} {h' : Heap} {tk : Nat} (I : Inv X pins σ H s) (hk : ∀ b o, s.heap.get? b = some o → h'.get? b = some o) (kp : ∀ b u, H b = some u → H' b = some u)
    (nw : ∀ b u, H' b = some u → H b = some u ∨ (s.heap.get? b = none ∧ ObjOk X.prog X.w H' h' b u)) : Inv X pins σ H' { s with heap := h', toks := tk } := by
  refine I.call' (ch := []) rfl ⟨fun b o q _ _ _ => hk b o q, fun b o q _ _ _ => ⟨o.slots, hk b o q⟩, fun b o q n _ => ?_, fun b o q _ => ⟨o, hk b o q⟩, fun b xs q => kp b _ q, fun b o u q => kp b _ q, fun b ps q => ⟨#[], by rw [kp b _ q]; simp⟩⟩ (fun b u q => ?_) I.bare (fun b z => nomatch z)
  · cases e : H' b with
    | none => rfl
    | some u => exact (nw b u e).elim (fun z => n.symm.trans z |>.symm ▸ rfl) fun z => absurd (q.symm.trans z.1) (fun y => nomatch y)
  · rcases nw b u q with z | z
    · exact (I.hok b u z).stay (fun d v _ y => hk d v y) (fun d y => kp d _ y) fun d xs y => kp d _ y
    · exact z.2
/-- [int(x) for x in xs], of bools -/
def tLcI (K : PySem.W.Frag) (te : TE) : TE := fun σ H Q => te σ H fun v H1 => ∃ (a : Addr) (bs : List Bool), v = .ref a ∧ SqL K H1 a (bs.map V.bl) ∧ ∀ p, H1 p = none → Q (.ref p) (upd H1 p (.lst (bs.map fun b => V.int (if b then 1 else 0))))
theorem paired_bl {bs : List Bool} : ∀ {its : List Value}, Vals (bs.map V.bl) its → its = bs.map Value.bool := by
  induction bs with
  | nil => intro its h; cases h; rfl
  | cons b r ih =>
    intro its h
    cases h with
    | cons h t =>
      obtain rfl := (show _ = Value.bool b from h)
      rw [ih t]; rfl
theorem paired_int : ∀ {bs : List Bool} {ys : List Value}, Paired (fun v y => ∃ b t, v = Value.bool b ∧ y = Value.int (if b then 1 else 0) t) (bs.map Value.bool) ys → Vals (bs.map fun b => V.int (if b then 1 else 0)) ys
  | [], _, .nil => .nil
  | b :: r, _, .cons ⟨c, t, h1, h2⟩ q => by
    cases h1
    exact .cons ⟨t, h2⟩ (paired_int q)
theorem pe_lcI {X : Cx} {e : Expr} {te : TE} {x : Str} {scope : Scope} {own : List (Str × Nat)} {q r px p1 p2 : Pos} (hot : HotP X.A X.pn) (he : PE X e te) (ok : BlkOk X.N X.env.scope scope own) (hcell : ∀ y ∈ scope.names, y.2 ≠ .cell) (hx : scope.names.lookup x = some .local)
    (hg : ∀ cl C, (compEnvC scope cl C X.env).kindOf "int" = some .globalImplicit) (hm : X.mg "int" = none) (hd : (x == ("__debug__" : Str)) = false := by decide) (hs : ∀ v, foldedSetIterable e X.env v = pure v := by intro _; rfl) :
    PE X (.ListComp (.Call (.Name "int" q) [.Name x r] [] p1) [⟨.Name x px, e, [], 0⟩] scope p2) (tLcI X.K te) := by
  refine ⟨fun pins s σ H Q I h => ?_⟩
  have hfree : ∀ y ∈ scope.names, y.2 = .free → ∃ c, X.env.cells.lookup y.1 = some c := fun y hy e => (ok.free y hy e).elim (fun k => I.ok.has _ (.inl k)) fun k => I.ok.has _ (.inr k)
  refine wpAny_ListComp_free (fun _ => true) (fun v y => ∃ b t, v = Value.bool b ∧ y = Value.int (if b then 1 else 0) t) (closure_ok hfree) hcell ok.kind (fun y hy e => by rw [ok.uniq y hy, e]) hx (thn (he.run pins s σ H _ I h) fun v s1 ⟨y, H1, I1, rv, l, bs, ey, hl, want⟩ => ?_) hs
  subst ey
  obtain rfl : v = Value.ref l := rv
  obtain ⟨its, ri, p, hsz⟩ := I1.list hl
  obtain rfl := paired_bl ri
  have hi := p.isList
  have ll := Heap.lt_size hi.choose_spec.1
  obtain ⟨a, z, oa, oz, two, ha, hz⟩ := (hot.at I1).two
  have la := Heap.lt_size ha
  have lz := Heap.lt_size hz
  refine wpAny_pyIter_list hi ?_
  refine ⟨s1.heap.objs.size, _, _, _, _, _, rfl, walks (A := X.A) two (Nat.ne_of_lt la) (Nat.ne_of_lt lz) (Nat.ne_of_lt ll), ?_, ⟨⟨⟨_, Heap.get?_push_size _ rfl, rfl, rfl⟩, hi.push _⟩, Heap.get?_push_of_some _ ha, Heap.get?_push_of_some _ hz⟩, ?_, ⟨?_, ?_⟩, ?_⟩
  · rw [List.size_toArray, List.length_map]
    have := ri.length
    rw [List.length_map, List.length_map] at this
    rw [List.length_map] at hsz
    exact hsz
  · intro b hb
    simp only [List.mem_cons, List.not_mem_nil, or_false] at hb
    have sz : ∀ {u : Obj}, (s1.heap.push u).objs.size = s1.heap.objs.size + 1 := Heap.size_push ..
    show b < (s1.heap.push _).objs.size
    rw [sz]
    rcases hb with w | w | w | w <;> rw [w]
    · exact Nat.lt_succ_self _
    · exact Nat.lt_succ_of_lt ll
    · exact Nat.lt_succ_of_lt la
    · exact Nat.lt_succ_of_lt lz
  · intro C i v s3 m3 E' _ _ _ _ _ _
    exact wpAny_tests_nil ⟨rfl, s3.heap, s3.toks, rfl, fun _ _ z => z⟩
  · intro C i v s3 m3 E' lo hv _ hn hmx k _
    obtain ⟨j, hj, rfl⟩ : ∃ b : Bool, True ∧ v = Value.bool b := by
      rw [List.getElem?_toArray, List.getElem?_map] at hv
      obtain ⟨b, _, eb⟩ := Option.map_eq_some_iff.mp hv
      exact ⟨b, trivial, eb.symm⟩
    have bk : ∀ b o, X.base.get? b = some o → s3.heap.get? b = some o := fun b o z => k b o (fun m => Nat.ne_of_lt (Heap.lt_size (I1.bk b o z)) (List.mem_singleton.mp m)) (Heap.get?_push_of_some _ (I1.bk b o z))
    obtain ⟨mb, b1, b2⟩ := I1.mod.blt
    have hk : (compEnvC scope (cloFrom X.env.cells scope.names []) C X.env).scope.kind = .function := ok.kind
    refine wpAny_Call_Name_kw (Calls.Name_function_global hk (hg _ _) (Calls.loadGlobal_builtin (by show s3.heap.Ns X.env.globals _; rw [I1.ok.glob]; exact I1.mod.glob.keeps bk) hm (by show s3.heap.Ns X.env.builtins _; rw [I1.ok.blt]; exact b1.keeps bk) ((b2 "int" (by decide)).trans boot_int) ?_))
    refine PyProof.Rows.callWith_type1 ?_ rfl rfl
    refine Calls.spliced_cons ?_
    refine wpAny_Name (wpAny_loadName_local hk (lookup_relabel_local hx) hn hmx ?_) hd
    refine Calls.spliced_nil ?_
    exact call_int_bool ⟨⟨j, _, rfl, rfl⟩, s3.heap, _, rfl, fun _ _ z => z⟩
  · intro D h2 tk ys vs hD hL hP hlen hvs hF k
    have ev : vs = bs.map Value.bool := List.ext_getElem? fun j => by
      cases hj : vs[j]? with
      | some v => have := hvs j v hj; rw [List.getElem?_toArray] at this; exact this.symm
      | none =>
        have := List.getElem?_eq_none_iff.mp hj
        rw [hlen, List.size_toArray] at this
        exact (List.getElem?_eq_none this).symm
    rw [List.filter_eq_self.mpr (fun _ _ => rfl), ev] at hF
    have rr := paired_int hF
    obtain ⟨c, eD⟩ := hP
    have kk : ∀ b o, s1.heap.get? b = some o → h2.get? b = some o := fun b o z => k b o (fun m => Nat.ne_of_lt (Heap.lt_size z) (List.mem_singleton.mp m)) (Heap.get?_push_of_some _ z)
    have nD : s1.heap.get? D = none := by
      cases z : s1.heap.get? D with
      | none => rfl
      | some o => have := Heap.get?_push_of_some { cls := .type "list_iterator", data := .fields #[.ref l, .int 0 0] } z; rw [hD] at this; cases this
    have n1 : H1 D = none := I1.hok.gone nD
    refine ⟨.ref D, _, adopt (s := s1) (H' := upd H1 D (.lst (bs.map fun b => V.int (if b then 1 else 0)))) (tk := tk) I1 kk (fun b u z => by rw [upd_ne (ne_of_none z n1)]; exact z) fun b u z => ?_, rfl, want D n1⟩
    by_cases e : b = D
    · subst e
      rw [upd_same] at z
      cases z
      refine .inr ⟨nD, ?_, ys.toList, c, rr, by rw [Array.toArray_toList]; exact eD⟩
      · rw [List.length_map]
        have := ri.length
        rw [List.length_map] at hsz
        exact hsz
    · rw [upd_ne e] at z
      exact .inl z
end HK

/-! union readings by the values' shapes, steps of readings, defs with their binding -/
namespace RX
open PySem PySem.Spec PyProof.Rows L2

/-- a new object: what follows holds at any free address -/
def Nw (H : Hp) (o : HO) (Q : VK) : Prop := ∀ p, H p = none → Q (.ref p) (upd H p o)
theorem Same.nw {H : Hp} {p : Addr} {o : HO} (h : H p = none) : Same H (upd H p o) := fun b u e => by
  rw [upd_ne (ne_of_none e h)]
  exact e
theorem nw_in {H : Hp} {o : HO} {Q : VK} (k : ∀ p H', H p = none → Same H H' → H' p = some o → Q (.ref p) H') : Nw H o Q := fun p hp => k p _ hp (Same.nw hp) upd_same
theorem nw_of {H : Hp} {o : HO} {Q : VK} (k : Nw H o Q) : ∀ p, H p = none → Q (.ref p) (upd H p o) := k
/-- an object of ours is written -/
theorem up_in {H : Hp} {p : Addr} {o : HO} {Q : Hp → Prop} (k : ∀ H', (∀ b, b ≠ p → H' b = H b) → H' p = some o → Q H') : Q (upd H p o) := k _ (fun _ h => upd_ne h) upd_same

section
variable {X : Cx}
theorem OpR.or {f : Value → Value → Sem Value} {r r' : R2} (h : OpR X f r) (h' : OpR X f r') : OpR X f (fun x y H Q => r x y H Q ∨ r' x y H Q) := by
  intro pins s σ H x y v u Q I rx ry q
  rcases q with q | q
  · exact h pins s σ H x y v u Q I rx ry q
  · exact h' pins s σ H x y v u Q I rx ry q
theorem OpR.imp {f : Value → Value → Sem Value} {r r' : R2} (h : OpR X f r) (w : ∀ x y H Q, r' x y H Q → r x y H Q) : OpR X f r' := by
  intro pins s σ H x y v u Q I rx ry q
  exact h pins s σ H x y v u Q I rx ry (w _ _ _ _ q)
theorem CallR.or {f : Value} {r r' : List V → Hp → VK → Prop} (h : CallR X f r) (h' : CallR X f r') : CallR X f (fun xs H Q => r xs H Q ∨ r' xs H Q) := by
  intro pins s σ H xs us Q I rx q
  rcases q with q | q
  · exact h pins s σ H xs us Q I rx q
  · exact h' pins s σ H xs us Q I rx q
theorem CallR.imp {f : Value} {r r' : List V → Hp → VK → Prop} (h : CallR X f r) (w : ∀ xs H Q, r' xs H Q → r xs H Q) : CallR X f r' := by
  intro pins s σ H xs us Q I rx q
  exact h pins s σ H xs us Q I rx (w _ _ _ q)
theorem pe_alt {e : Expr} {t u : TE} (h : PE X e t) (h' : PE X e u) : PE X e (fun σ H Q => t σ H Q ∨ u σ H Q) :=
  ⟨fun pins s σ H Q I q => q.elim (h.run pins s σ H Q I) (h'.run pins s σ H Q I)⟩
theorem pt_alt {e : Expr} {t u : TT} (h : PT X e t) (h' : PT X e u) : PT X e (fun σ H Q => t σ H Q ∨ u σ H Q) :=
  ⟨fun pins s σ H Q I q => q.elim (h.run pins s σ H Q I) (h'.run pins s σ H Q I)⟩
theorem ps_alt {e : Stmt} {t u : TS} (h : PS X e t) (h' : PS X e u) : PS X e (fun D σ H => t D σ H ∨ u D σ H) :=
  ⟨fun pins s σ H D I q => q.elim (h.run pins s σ H D I) (h'.run pins s σ H D I)⟩
theorem pi_alt {tg l : Expr} {t u : TI} (h : PI X tg l t) (h' : PI X tg l u) : PI X tg l (fun σ H R => t σ H R ∨ u σ H R) :=
  ⟨fun pins s σ H R I q => q.elim (h.run pins s σ H R I) (h'.run pins s σ H R I)⟩

/-! ### + -/
def rAddU (K : PySem.W.Frag) : R2 := fun x y H Q => match x, y with
  | .int i, .int j => Q (.int (i + j)) H
  | .str a, .str b => a.length + b.length ≤ sizeLine ∧ Q (.str (a ++ b)) H
  | .ref l, .ref b => (∃ xs zs, SqL K H l xs ∧ SqL K H b zs ∧ xs.length + zs.length ≤ sizeLine ∧ Nw H (.lst (xs ++ zs)) Q) ∨ rCatT K (.ref l) (.ref b) H Q
  | _, _ => False
theorem op_addU : OpR X (binaryOp .Add) (rAddU X.K) := by
  intro pins s σ H x y v u Q I rx ry q
  cases x with
  | int i => cases y with
    | int j => exact op_add pins s σ H _ _ v u Q I rx ry ⟨i, j, rfl, rfl, q⟩
    | _ => exact q.elim
  | str a => cases y with
    | str b => exact op_add_str pins s σ H _ _ v u Q I rx ry ⟨a, b, rfl, rfl, q.1, q.2⟩
    | _ => exact q.elim
  | ref l => cases y with
    | ref b =>
      rcases q with ⟨xs, zs, h1, h2, hz, k⟩ | q
      · exact op_catS pins s σ H _ _ v u Q I rx ry ⟨l, b, xs, zs, rfl, rfl, h1, h2, hz, k⟩
      · exact op_catT pins s σ H _ _ v u Q I rx ry q
    | _ => exact q.elim
  | _ => exact q.elim
/-! ### * : ints of any size, a list times an int -/
def rMulU : R2 := fun x y H Q => match x, y with
  | .int i, .int j => (CMulW i j ∨ CMul i j) ∧ Q (.int (i * j)) H
  | .ref l, .int k => ∃ xs, H l = some (.lst xs) ∧ -(2 ^ 63) ≤ k ∧ k < 2 ^ 63 ∧ xs.length * k.toNat ≤ sizeLine ∧ Nw H (.lst (List.replicate k.toNat xs).flatten) Q
  | _, _ => False
theorem op_mulU : OpR X (binaryOp .Mult) rMulU := by
  intro pins s σ H x y v u Q I rx ry q
  cases x with
  | int i => cases y with
    | int j =>
      rcases q with ⟨c | c, q⟩
      · exact op_mulW pins s σ H _ _ v u Q I rx ry ⟨i, j, rfl, rfl, c, q⟩
      · exact op_mul pins s σ H _ _ v u Q I rx ry ⟨i, j, rfl, rfl, c, q⟩
    | _ => exact q.elim
  | ref l => cases y with
    | int k =>
      obtain ⟨xs, h1, h2, h3, h4, q⟩ := q
      exact op_rep pins s σ H _ _ v u Q I rx ry ⟨l, k, xs, rfl, rfl, h1, h2, h3, h4, q⟩
    | _ => exact q.elim
  | _ => exact q.elim
/-! ### ==, != -/
def rEqU (K : PySem.W.Frag) : R2 := fun x y H Q => rEq x y H Q ∨ rEqD K x y H Q
def rNeU (K : PySem.W.Frag) : R2 := fun x y H Q => rNe x y H Q ∨ rNeD K x y H Q
theorem op_eqU (hu : X.A.units + 64 < cLine) : OpR X (compareOp .Eq) (rEqU X.K) := OpR.or op_eq (op_eqD hu)
theorem op_neU (hu : X.A.units + 64 < cLine) : OpR X (compareOp .NotEq) (rNeU X.K) := OpR.or op_ne (op_neD hu)
/-! ### in, not in: one sign in a text; a flat thing in a list or tuple -/
def rInU (K : PySem.W.Frag) (neg : Bool) : R2 := fun x y H Q => match y with
  | .str z => ∃ c : Nat, x = .str ⟨#[c]⟩ ∧ Q (.bl (if neg then !decide (c ∈ z.cps.toList) else decide (c ∈ z.cps.toList))) H
  | .ref p => ∃ xs, (SqL K H p xs ∨ SqT K H p xs) ∧ flatV x = true ∧ xs.all flatV = true ∧ Q (.bl (if neg then !inV x xs else inV x xs)) H
  | _ => False
theorem op_inU : OpR X (compareOp .In) (rInU X.K false) := by
  intro pins s σ H x y v u Q I rx ry q
  cases y with
  | str z =>
    obtain ⟨c, ex, q⟩ := q
    exact op_in_sign pins s σ H _ _ v u Q I rx ry ⟨c, z, ex, rfl, q⟩
  | ref p =>
    obtain ⟨xs, h1, h2, h3, q⟩ := q
    exact op_in_seq pins s σ H _ _ v u Q I rx ry ⟨p, xs, rfl, h1, h2, h3, q⟩
  | _ => exact q.elim
theorem op_ninU : OpR X (compareOp .NotIn) (rInU X.K true) := by
  intro pins s σ H x y v u Q I rx ry q
  cases y with
  | str z =>
    obtain ⟨c, ex, q⟩ := q
    exact op_notIn_sign pins s σ H _ _ v u Q I rx ry ⟨c, z, ex, rfl, q⟩
  | ref p =>
    obtain ⟨xs, h1, h2, h3, q⟩ := q
    exact op_notIn_seq pins s σ H _ _ v u Q I rx ry ⟨p, xs, rfl, h1, h2, h3, q⟩
  | _ => exact q.elim
/-! ### len -/
def rLenU (K : PySem.W.Frag) : List V → Hp → VK → Prop := fun xs H Q => match xs with
  | [.str z] => z.length ≤ sizeLine ∧ Q (.int z.length) H
  | [.ref p] => (∃ ys, (SqL K H p ys ∨ SqT K H p ys) ∧ Q (.int ys.length) H) ∨ ∃ kvs, H p = some (.dK kvs) ∧ Q (.int kvs.length) H
  | _ => False
theorem call_lenU : CallR X (.builtin "len") (rLenU X.K) := by
  intro pins s σ H xs us Q I r q
  match xs, r, q with
  | [.str z], r, q => exact call_len_str pins s σ H _ us Q I r ⟨z, rfl, q.1, q.2⟩
  | [.ref p], r, q =>
    rcases q with ⟨ys, h, q⟩ | ⟨kvs, h, q⟩
    · exact call_len_seq pins s σ H _ us Q I r ⟨p, ys, rfl, h, q⟩
    · exact call_lenD pins s σ H _ us Q I r ⟨p, kvs, rfl, h, q⟩
/-! ### list(x), tuple(x) of sequences -/
def rListU (K : PySem.W.Frag) : List V → Hp → VK → Prop := fun xs H Q => match xs with
  | [.ref p] => ∃ ys, (SqL K H p ys ∨ SqT K H p ys) ∧ Nw H (.lst ys) Q
  | _ => False
theorem call_listU : CallR X (.type "list") (rListU X.K) := by
  intro pins s σ H xs us Q I r q
  match xs, r, q with
  | [.ref p], r, ⟨ys, h, q⟩ => exact call_list_of pins s σ H _ us Q I r ⟨p, ys, rfl, h, q⟩
def rTupleU (K : PySem.W.Frag) : List V → Hp → VK → Prop := fun xs H Q => match xs with
  | [.ref p] => (∃ ys, SqL K H p ys ∧ Nw H (.tup ys) Q) ∨ ∃ ys, SqT K H p ys ∧ Q (.ref p) H
  | _ => False
theorem call_tupleU : CallR X (.type "tuple") (rTupleU X.K) := by
  intro pins s σ H xs us Q I r q
  match xs, r, q with
  | [.ref p], r, .inl ⟨ys, h, q⟩ => exact call_tuple_of pins s σ H _ us Q I r ⟨p, ys, rfl, .inl ⟨h, q⟩⟩
  | [.ref p], r, .inr ⟨ys, h, q⟩ => exact call_tuple_of pins s σ H _ us Q I r ⟨p, ys, rfl, .inr ⟨h, q⟩⟩
def rInt1 : List V → Hp → VK → Prop := fun xs H Q => match xs with
  | [.int i] => Q (.int i) H
  | [.bl k] => Q (.int (if k then 1 else 0)) H
  | _ => False
theorem call_intU : CallR X (.type "int") rInt1 := by
  intro pins s σ H xs us Q I r q
  match xs, r, q with
  | [.int i], r, q => exact call_int1 pins s σ H _ us Q I r (.inl ⟨i, rfl, q⟩)
  | [.bl k], r, q => exact call_int1 pins s σ H _ us Q I r (.inr ⟨k, rfl, q⟩)
/-! ### items, slices -/
def rIxU (K : PySem.W.Frag) : R2 := fun x y H Q => match x, y with
  | .ref p, .int i => ∃ xs v, (SqL K H p xs ∨ SqT K H p xs) ∧ atI xs i = some v ∧ Q v H
  | .str z, .int i => ∃ c, z.length ≤ sizeLine ∧ atI z.cps.toList i = some c ∧ Q (.str ⟨#[c]⟩) H
  | _, _ => False
theorem IxR.imp {r r' : R2} (h : IxR X r) (w : ∀ x y H Q, r' x y H Q → r x y H Q) : IxR X r' :=
  fun value slice pins s σ H x y v u Q I rx ry q hs => h value slice pins s σ H x y v u Q I rx ry (w _ _ _ _ q) hs
theorem ix_U : IxR X (rIxU X.K) := IxR.imp ix_seq fun x y H Q q => by
  cases x with
  | ref p => cases y with
    | int i =>
      obtain ⟨xs, v, h | h, a, q⟩ := q
      · exact .inl ⟨p, xs, i, v, rfl, rfl, h, a, q⟩
      · exact .inr (.inl ⟨p, xs, i, v, rfl, rfl, h, a, q⟩)
    | _ => exact q.elim
  | str z => cases y with
    | int i =>
      obtain ⟨c, h, a, q⟩ := q
      exact .inr (.inr ⟨z, i, c, rfl, rfl, h, a, q⟩)
    | _ => exact q.elim
  | _ => exact q.elim
def rSlU (K : PySem.W.Frag) : V → Option Int → Option Int → Hp → VK → Prop := fun x lo hi H Q => match x with
  | .ref p => ∃ xs, SqL K H p xs ∧ Nw H (.lst (cutV xs lo hi)) Q
  | .str z => z.length ≤ sizeLine ∧ Q (.str (cutS z lo hi)) H
  | _ => False
theorem SlR.imp {r r' : V → Option Int → Option Int → Hp → VK → Prop} (h : SlR X r) (w : ∀ x l u H Q, r' x l u H Q → r x l u H Q) : SlR X r' :=
  fun pins s σ H x v vl vu lo hi sl Q I rx hs pl pu q => h pins s σ H x v vl vu lo hi sl Q I rx hs pl pu (w _ _ _ _ _ q)
theorem sl_U : SlR X (rSlU X.K) := SlR.imp (SlR.or sl_list sl_str) fun x lo hi H Q q => by
  cases x with
  | ref p =>
    obtain ⟨xs, h, q⟩ := q
    exact .inl ⟨p, xs, rfl, h, q⟩
  | str z => exact .inr ⟨z, rfl, q.1, q.2⟩
  | _ => exact q.elim
/-! ### what a for walks: a list, a tuple, a text -/
def SeqIt (K : PySem.W.Frag) (x : V) (H1 : Hp) (R : It → Hp → Prop) : Prop := match x with
  | .ref a => (∃ xs, SqL K H1 a xs ∧ R (Itl K a) H1) ∨ ∃ xs, SqT K H1 a xs ∧ R (Itt K a) H1
  | .str z => R (Its z) H1
  | _ => False
def iSeqU (K : PySem.W.Frag) (t : TE) : TI := fun σ H R => t σ H fun x H1 => SeqIt K x H1 R
theorem pi_U {tg e : Expr} {te : TE} (he : PE X e te) : PI X tg e (iSeqU X.K te) := by
  refine ⟨fun pins s σ H R I h => ?_⟩
  refine thn (he.run pins s σ H _ I h) fun v s1 ⟨x, H1, I1, r1, q⟩ => ?_
  cases x with
  | ref a =>
    cases r1
    rcases q with ⟨xs, hq, q⟩ | ⟨xs, hq, q⟩
    · obtain ⟨its, rv, p, hz⟩ := I1.list hq
      exact wpAny_pyIter_list p.isList (pi_one (tk := s1.toks) I1 _ (turn_list a _) ⟨_, Heap.get?_push_size _ rfl, rfl, rfl⟩ q)
    · obtain ⟨its, rv, p, hz⟩ := I1.tuple hq
      exact wpAny_pyIter_tuple (show s1.heap.IsTuple a its.toArray from p) (pi_one (tk := s1.toks) I1 _ (turn_tuple a _) ⟨_, Heap.get?_push_size _ rfl, rfl, rfl⟩ q)
  | str z =>
    obtain ⟨t, rfl⟩ := r1
    cases ha : z.cps.all (· < 128)
    · exact wpAny_pyIter_wide ha (pi_one (tk := s1.toks) I1 _ (turn_str _ z t "str_iterator" (.inr rfl)) ⟨_, Heap.get?_push_size _ rfl, rfl, rfl⟩ q)
    · exact wpAny_pyIter_ascii ha (pi_one (tk := s1.toks) I1 _ (turn_str _ z t "str_ascii_iterator" (.inl rfl)) ⟨_, Heap.get?_push_size _ rfl, rfl, rfl⟩ q)
  | _ => exact q.elim
end
end RX

namespace RX
open PySem PySem.Spec PyProof.Rows L2

/-! ### a def with its binding -/
def OkD (P : Program) (w : World) (K : PySem.W.Frag) (mg : Str → Option Value) (base : Heap) (k : Nat) (f : Addr) (ps : List Str) (sp : Sp) : Prop :=
  PySem.W.keepIn K (.ref f) = true ∧ ∃ fd, Binds K fd ps [] ∧ FnOk P w K mg base (HK.CX P w) k f fd ps sp ∧ ∃ oc od osl, K.lookup f = some ⟨oc, od, .func fd, osl⟩
/-- a def of the text stands at f, with its defaults -/
def DefV (K : PySem.W.Frag) (x qual : Str) (st : Stmt) (dvs : List V) (f : Addr) : Prop := ∃ fd, FunD K x qual (defArgs st) (defBody st) (defScope st) dvs [] f fd
def DefAt (K : PySem.W.Frag) (x qual : Str) (st : Stmt) (f : Addr) : Prop := ∃ fd, FunD K x qual (defArgs st) (defBody st) (defScope st) [] [] f fd
theorem fund_at {K : PySem.W.Frag} {x qual : Str} {params : Arguments} {body : List Stmt} {scope : Scope} {dvs : List V} {kws : List (Str × V)} {f : Addr} {fd : FuncData} (F : FunD K x qual params body scope dvs kws f fd) : ∃ oc od osl, K.lookup f = some ⟨oc, od, .func fd, osl⟩ := by
  obtain ⟨oc, od, _, _, _, _, _, _, _, osl, _, lk, _⟩ := F.ex
  exact ⟨oc, od, osl, lk⟩
section
variable {P : Program} {w : World} {K : PySem.W.Frag} {mg : Str → Option Value} {base : Heap}
theorem OkD.of {x qual : Str} {st : Stmt} {f : Addr} {N ps : List Str} {k : Nat} {sp : Sp} (F : DefAt K x qual st f) (S : FnScope N ps (defScope st))
    (hb : ∀ (kV doc pm : Value) (an : Option Addr) (cdv ct : Value) (us : List Value), us.length = ps.length → bindArgs (PySem.W.fnOf x qual (defArgs st) (defBody st) (defScope st) .none kV doc pm an cdv ct) ⟨us, []⟩ = pure (ps.zip us))
    (len : ∀ vs H Q E, sp vs H Q E → vs.length = ps.length)
    (hbody : ∀ (cdv : Value) (A : Around) (outer : List Env) (s : Shared) (H : Hp) (vs : List V) (Q : VK) (E : XK), Room k (A.deeper (envOfC qual (defScope st) s.heap.objs.size f cdv)) → sp vs H Q E →
      ∃ t, PSs (cxOf (HK.CX P w) P w K mg base N qual (defScope st) f cdv A outer s H E) (defBody st) t ∧ t { nx := fun _ H' => Q .non H', rt := Q } (start N vs) H) : OkD P w K mg base (k + 1) f ps sp := by
  obtain ⟨fd, F⟩ := F
  exact ⟨F.kp, fd, F.bindsN hb, F.ok S len hbody, fund_at F⟩
/-- a def with defaults: each parameter is given -/
theorem OkD.ofV {x qual : Str} {st : Stmt} {f : Addr} {N ps : List Str} {dvs : List V} {k : Nat} {sp : Sp} (F : DefV K x qual st dvs f) (S : FnScope N ps (defScope st)) (hd : dvs ≠ [])
    (hb : ∀ (T : Addr) (kV doc pm : Value) (an : Option Addr) (cdv ct : Value) (us its : List Value), us.length = ps.length → its.length = dvs.length →
      ∃ k, bindArgs (PySem.W.fnOf x qual (defArgs st) (defBody st) (defScope st) (.ref T) kV doc pm an cdv ct) ⟨us, []⟩ = seqItems? (.ref T) >>= k ∧ k (some its.toArray) = pure (ps.zip (us ++ its.drop dvs.length)))
    (len : ∀ vs H Q E, sp vs H Q E → vs.length = ps.length)
    (hbody : ∀ (cdv : Value) (A : Around) (outer : List Env) (s : Shared) (H : Hp) (vs : List V) (Q : VK) (E : XK), Room k (A.deeper (envOfC qual (defScope st) s.heap.objs.size f cdv)) → sp vs H Q E →
      ∃ t, PSs (cxOf (HK.CX P w) P w K mg base N qual (defScope st) f cdv A outer s H E) (defBody st) t ∧ t { nx := fun _ H' => Q .non H', rt := Q } (start N vs) H) : OkD P w K mg base (k + 1) f ps sp := by
  obtain ⟨fd, F⟩ := F
  obtain ⟨ds, rel, bind⟩ := F.binds1 ps.length dvs.length hd (by omega) hb
  rw [List.drop_length] at rel
  cases rel
  exact ⟨F.kp, fd, bind, F.ok S len hbody, fund_at F⟩
theorem OkD.mono {j k : Nat} {f : Addr} {ps : List Str} {sp : Sp} (G : OkD P w K mg base j f ps sp) (h : j ≤ k) : OkD P w K mg base k f ps sp :=
  ⟨G.1, G.2.choose, G.2.choose_spec.1, G.2.choose_spec.2.1.mono h, G.2.choose_spec.2.2⟩
end
section
variable {X : Cx} {k : Nat} {f C : Addr} {ps : List Str} {sp : Sp} {E : XK} {x m : Str} {p pos apos : Pos} {e o : Expr} {es : List Expr} {ta : TE} {t : TA}
theorem pe_fn (G : OkD X.prog X.w X.K X.mg X.base k f ps sp) (hr : Room k X.A) (hg : Gl X x) (hm : X.mg x = some (.ref f)) (hx : Passes (HK.CX X.prog X.w) X E)
    (ha : PA X (e :: es) t) (hdb : (x == ("__debug__" : Str)) = false := by decide) (he : starEach (e :: es) X.env = (false, eval e X.env) :: starEach es X.env := by rfl) (hpl : (backTo pos (starEach es X.env)).any (·.1) = false := by rfl) :
    PE X (.Call (.Name x p) (e :: es) [] pos) (tCall sp [] E t) := by
  obtain ⟨kp, fd, hb, F, _⟩ := G
  exact pe_call F hr hg hm kp hb .nil hx ha hdb he hpl
theorem pe_fn0 (G : OkD X.prog X.w X.K X.mg X.base k f ps sp) (hr : Room k X.A) (hg : Gl X x) (hm : X.mg x = some (.ref f)) (hx : Passes (HK.CX X.prog X.w) X E)
    (hdb : (x == ("__debug__" : Str)) = false := by decide) : PE X (.Call (.Name x p) [] [] pos) (tCall sp [] E tNil) := by
  obtain ⟨kp, fd, hb, F, _⟩ := G
  exact pe_call0 F hr hg hm kp hb .nil hx hdb
/-- in a try's body: what is raised is wished for at the slots -/
theorem pe_fnS {ES : L2.St → XK} (G : OkD X.prog X.w X.K X.mg X.base k f ps sp) (hr : Room k X.A) (hg : Gl X x) (hm : X.mg x = some (.ref f)) (hx : ∀ σ, PassesAt (HK.CX X.prog X.w) X σ (ES σ))
    (ha : PA X (e :: es) t) (hdb : (x == ("__debug__" : Str)) = false := by decide) (he : starEach (e :: es) X.env = (false, eval e X.env) :: starEach es X.env := by rfl) (hpl : (backTo pos (starEach es X.env)).any (·.1) = false := by rfl) :
    PE X (.Call (.Name x p) (e :: es) [] pos) (tCallS sp ES t) := by
  obtain ⟨kp, fd, hb, F, _⟩ := G
  exact pe_callS F hr hg hm kp hb hx ha hdb he hpl
theorem pe_mt {pl : Sem Bool} (he : PE X o ta) (c : Cls X.K C) (hm : Meth X.K C m f) (G : OkD X.prog X.w X.K X.mg X.base k f ps sp) (hr : Room k X.A) (hx : Passes (HK.CX X.prog X.w) X E) (ha : PA X (e :: es) t)
    (hst : starEach (e :: es) X.env = (false, eval e X.env) :: starEach es X.env := by rfl) (hpl : (backTo pos (starEach es X.env)).any (·.1) = false := by rfl)
    (ht : eval (.Call (.Attribute o m apos) (e :: es) [] pos) X.env = (do
      let ov ← eval o X.env
      standAt apos.atName
      let (f, first) ← holding [ov] (getMethod ov m pl)
      callWith pos f first (backTo pos (starEach (e :: es) X.env)) (backToKw pos (keywordEach [] X.env))) := by rfl) :
    PE X (.Call (.Attribute o m apos) (e :: es) [] pos) (tMeth C m sp [] E ta t) := by
  obtain ⟨kp, fd, hb, F, _⟩ := G
  exact pe_meth he c hm F hr hb .nil hx ha hst hpl ht
theorem pe_mt0 {pl : Sem Bool} (he : PE X o ta) (c : Cls X.K C) (hm : Meth X.K C m f) (G : OkD X.prog X.w X.K X.mg X.base k f ps sp) (hr : Room k X.A) (hx : Passes (HK.CX X.prog X.w) X E)
    (ht : eval (.Call (.Attribute o m apos) [] [] pos) X.env = (do
      let ov ← eval o X.env
      standAt apos.atName
      let (f, first) ← holding [ov] (getMethod ov m pl)
      callWith pos f first (backTo pos (starEach [] X.env)) (backToKw pos (keywordEach [] X.env))) := by rfl) :
    PE X (.Call (.Attribute o m apos) [] [] pos) (tMeth C m sp [] E ta tNil) := by
  obtain ⟨kp, fd, hb, F, _⟩ := G
  exact pe_meth0 he c hm F hr hb .nil hx ht
theorem pe_um {mc : Value} {pl : Sem Bool} (he : PE X o ta) (r : ClX.CRead X.K C mc) (c : PySem.W.findCls X.K (.ref C) mc m = some (.val (.ref f))) (G : OkD X.prog X.w X.K X.mg X.base k f ps sp) (hr : Room k X.A) (hx : Passes (HK.CX X.prog X.w) X E) (ha : PA X (e :: es) t)
    (hst : starEach (e :: es) X.env = (false, eval e X.env) :: starEach es X.env := by rfl) (hpl : (backTo pos (starEach es X.env)).any (·.1) = false := by rfl)
    (ht : eval (.Call (.Attribute o m apos) (e :: es) [] pos) X.env = (do
      let ov ← eval o X.env
      standAt apos.atName
      let (f, first) ← holding [ov] (getMethod ov m pl)
      callWith pos f first (backTo pos (starEach (e :: es) X.env)) (backToKw pos (keywordEach [] X.env))) := by rfl) :
    PE X (.Call (.Attribute o m apos) (e :: es) [] pos) (tUMeth C sp E ta t) := by
  obtain ⟨kp, fd, hb, F, _⟩ := G
  exact pe_umeth he r c kp F hr hb hx ha hst hpl ht
theorem pe_mk (M : Mk X.K C f) (G : OkD X.prog X.w X.K X.mg X.base k f ps sp) (hr : Room (k + 1) X.A) (hg : Gl X x) (hm : X.mg x = some (.ref C)) (hx : Passes (HK.CX X.prog X.w) X E)
    (ha : PA X (e :: es) t) (hdb : (x == ("__debug__" : Str)) = false := by decide) (he : starEach (e :: es) X.env = (false, eval e X.env) :: starEach es X.env := by rfl) (hpl : (backTo pos (starEach es X.env)).any (·.1) = false := by rfl) :
    PE X (.Call (.Name x p) (e :: es) [] pos) (tMake C sp [] E t) := by
  obtain ⟨kp, fd, hb, F, _⟩ := G
  exact pe_make M F hr hg hm hb .nil hx ha hdb he hpl
/-- X(e, ..) that is raised: X's own __init__ walked as a def -/
theorem pmk_ox (T : OexC X.K C) (iC : PySem.W.findIn X.K (.ref C) "__init__" = some (some (.ref f))) (tI : PySem.W.typeIn X.K (.ref f) = some (.type "function"))
    (G : OkD X.prog X.w X.K X.mg X.base k f ps sp) (hr : Room (k + 1) X.A) (hg : Gl X x) (hm : X.mg x = some (.ref C)) (ha : PA X (e :: es) t)
    (hdb : (x == ("__debug__" : Str)) = false := by decide) (he : starEach (e :: es) X.env = (false, eval e X.env) :: starEach es X.env := by rfl) (hpl : (backTo pos (starEach es X.env)).any (·.1) = false := by rfl) :
    L2N.PMk X (.Call (.Name x p) (e :: es) [] pos) (tMkO C sp [] t) := by
  obtain ⟨kp, fd, hb, F, _⟩ := G
  exact (HK.pmk T iC tI F hr hb HK.passF hg hm ha hdb he hpl).pmk
end
end RX

/-! facts of the text, read off the head by a Bool each -/
namespace RX
open PySem PySem.Spec PyProof.Rows L2

theorem oexB_ok {K : PySem.W.Frag} {C : Addr} (q : oexB K C = true) : OexC K C := by
  unfold oexB at q
  obtain ⟨q, q1⟩ := Bool.and_eq_true_iff.mp q
  obtain ⟨q1, q2⟩ := Bool.and_eq_true_iff.mp q1
  obtain ⟨q2, q3⟩ := Bool.and_eq_true_iff.mp q2
  obtain ⟨q3, q4⟩ := Bool.and_eq_true_iff.mp q3
  refine ⟨?_, of_decide_eq_true q1, of_decide_eq_true q2, of_decide_eq_true q3, q4⟩
  split at q
  · rename_i dd cd sl ho
    split at q
    · rename_i C' bm k0 k1 k2 k3 n k5 hm hs
      simp only [Bool.and_eq_true, beq_iff_eq, Bool.not_eq_true'] at q
      obtain ⟨rfl, rfl, hdel, hdi, ht⟩ := q
      obtain ⟨nm, bs, mro, ns, qn, hd, sn, sub, ab, col, del⟩ := cd
      dsimp only at hm hdel hdi
      subst hm hdel hdi
      have hsl : sl = #[k0, k1, k2, k3, some (.builtin "ValueError.__new__"), k5] := by
        obtain ⟨l⟩ := sl
        simp only at hs
        rw [hs]
      subst hsl
      exact ⟨nm, qn, ns, bs, bm, sn, sub, ab, col, dd, k0, k1, k2, k3, k5, ho, ht⟩
    · cases q
  · cases q
theorem excB_ok {K : PySem.W.Frag} {D : Addr} (x : XfC K D) (q : excB K D = true) : ExcC K D := by
  obtain ⟨q, q1⟩ := Bool.and_eq_true_iff.mp q
  obtain ⟨q1, q2⟩ := Bool.and_eq_true_iff.mp q1
  obtain ⟨q2, q3⟩ := Bool.and_eq_true_iff.mp q2
  exact ⟨x.ga, x.gg, x.exC, x.hdC, of_decide_eq_true q, of_decide_eq_true q1, of_decide_eq_true q2, of_decide_eq_true q3⟩
/-- all that is asked of an own exception class with an own __init__ at f -/
structure ExcAt (K : PySem.W.Frag) (C f : Addr) : Prop where
  ox : OexC K C
  xf : XfC K C
  ec : ExcC K C
  ini : PySem.W.findIn K (.ref C) "__init__" = some (some (.ref f))
  fn : PySem.W.typeIn K (.ref f) = some (.type "function")
theorem excAtB_ok {K : PySem.W.Frag} {C f : Addr} (q : excAtB K C f = true) : ExcAt K C f := by
  obtain ⟨q1, q⟩ := Bool.and_eq_true_iff.mp q
  obtain ⟨q2, q⟩ := Bool.and_eq_true_iff.mp q
  obtain ⟨q3, q⟩ := Bool.and_eq_true_iff.mp q
  obtain ⟨q4, q5⟩ := Bool.and_eq_true_iff.mp q
  exact ⟨oexB_ok q1, xfB_ok q2, excB_ok (xfB_ok q2) q3, of_decide_eq_true q4, of_decide_eq_true q5⟩
theorem creadB_ok {K : PySem.W.Frag} {C : Addr} (q : creadB K C = true) : ClX.CRead K C (.type "type") := by
  obtain ⟨q1, q2⟩ := Bool.and_eq_true_iff.mp q
  exact ⟨q1, of_decide_eq_true q2⟩
theorem cfunB_ok {K : PySem.W.Frag} {C : Addr} {m : Str} {f : Addr} (q : cfunB K C m f = true) : PySem.W.findCls K (.ref C) (.type "type") m = some (.val (.ref f)) := by
  unfold cfunB at q
  split at q
  · rename_i a e
    rw [e, of_decide_eq_true q]
  · cases q
/-- a list of facts -/
theorem all_at {l : List Bool} (h : l.all id = true) (i : Nat) {b : Bool} (e : l[i]? = some b) : b = true := List.all_eq_true.mp h b (List.mem_of_getElem? e)

/-! ### fields of a caught exception of any class; isinstance of it -/
def tXfD (K : PySem.W.Frag) (a : Addr) (cls : Value) (d : Option Addr) (f : Str) (te : TE) : TE := fun σ H Q => te σ H fun x H1 => x = .ref a ∧ ∃ (C dd : Addr) (fs : List (Str × V)) (v : V), cls = .ref C ∧ d = some dd ∧ XfC K C ∧ PySem.W.findIn K (.ref C) f = some none ∧ H1 dd = some (.xd fs) ∧ fs.lookup f = some v ∧ Q v H1
theorem pe_xfD {X : Cx} {a : Addr} {oe : Obj} {cls : Value} {d : Option Addr} {pn : List (Addr × Obj)} {e : Expr} {te : TE} {pos : Pos} {n : Str}
    (hz : Zc cls d oe) (hf : ∃ vs, oe.data = .fields vs) (he : PE (X.suite a ((a, oe) :: pn)) e te) (hb : attributeBase e n X.env (eval e X.env) = eval e X.env := by rfl) :
    PE (X.suite a ((a, oe) :: pn)) (.Attribute e n pos) (tXfD X.K a cls d n te) := by
  refine ⟨fun pins s σ H Q I h => ?_⟩
  refine attr_of hb (thn (he.run pins s σ H _ I h) fun u s1 hh => ?_)
  obtain ⟨x, H1, I1, rx, ex, C, dd, fs, v, ec, ed, T, hno, ea, l, q⟩ := hh
  subst ex
  obtain rfl : u = Value.ref a := rx
  subst ec
  subst ed
  obtain ⟨ha, _⟩ := I1.pin (a, oe) (List.mem_append_left _ List.mem_cons_self)
  obtain ⟨vs, hd⟩ := hf
  have hx : ObjOk X.prog X.w H1 s1.heap dd (.xd fs) := I1.hok dd _ ea
  obtain ⟨mA, hns, hr⟩ := hx
  obtain ⟨od, ho, hl⟩ := lookIn_ns hns
  obtain ⟨u, hu, ru⟩ := RelO.some_of (v := v) (o := mA n) (by rw [← l]; exact hr n)
  have J : PySem.W.InstAt s1.heap a oe C (some od) := ⟨ha, hz.1, by unfold PySem.W.notCls; rw [hd] <;> rfl, by rw [hz.2]; exact ho⟩
  exact HandSPX.exc_get I1.kIn J T.ga T.gg T.exC (PySem.W.findObj_own T.hdC hno rfl (by rw [hl, hu])) (handed_of ru) ⟨v, H1, I1.tok _, ru, q⟩
def rIsD (K : PySem.W.Frag) (a : Addr) (cls : Value) (d : Option Addr) : List V → Hp → VK → Prop := fun xs H Q => ∃ (D dd : Addr) (c : V) (cv : Value) (b : Bool) (fs : List (Str × V)), cls = .ref D ∧ d = some dd ∧ ExcC K D ∧ xs = [.ref a, c] ∧ (∀ u, RelV c u → u = cv) ∧ H dd = some (.xd fs) ∧ PySem.W.kitOne K (.ref D) cv = some b ∧ Q (.bl b) H
theorem call_isD {X : Cx} {a : Addr} {oe : Obj} {cls : Value} {d : Option Addr} {pn : List (Addr × Obj)} (hz : Zc cls d oe) (hf : ∃ vs, oe.data = .fields vs) :
    CallR (X.suite a ((a, oe) :: pn)) (.builtin "isinstance") (rIsD X.K a cls d) := by
  intro pins s σ H xs us Q I r h
  obtain ⟨D, dd, c, cv, b, fs, ec, ed, C, ex, hcv, hd, e, q⟩ := h
  subst ec
  subst ed
  exact call_isX C hz hf pins s σ H xs us Q I r ⟨c, cv, b, fs, ex, hcv, hd, e, q⟩
theorem relRef {a : Addr} : ∀ u, RelV (.ref a) u → u = Value.ref a := fun _ h => h
theorem relTy {n : String} : ∀ u, RelV (.ty n) u → u = Value.type n := fun _ h => h
/-! ### constants of the module -/
theorem pe_gint {X : Cx} {x : Str} {i : Int} {pos : Pos} (h : ∃ t, X.mg x = some (.int i t)) (hg : Gl X x := by rfl) (hd : (x == ("__debug__" : Str)) = false := by decide) : PE X (.Name x pos) (tC (.int i)) := by
  obtain ⟨t, h⟩ := h
  exact pe_glob hg h ⟨t, rfl⟩ hd
theorem pe_gstr {X : Cx} {x z : Str} {pos : Pos} (h : ∃ t, X.mg x = some (.str z t)) (hg : Gl X x := by rfl) (hd : (x == ("__debug__" : Str)) = false := by decide) : PE X (.Name x pos) (tC (.str z)) := by
  obtain ⟨t, h⟩ := h
  exact pe_glob hg h ⟨t, rfl⟩ hd
theorem pe_gref {X : Cx} {x : Str} {a : Addr} {pos : Pos} (h : X.mg x = some (.ref a)) (hg : Gl X x := by rfl) (hd : (x == ("__debug__" : Str)) = false := by decide) : PE X (.Name x pos) (tC (.ref a)) := pe_glob hg h rfl hd
end RX

namespace RX
open PySem PySem.Spec PyProof.Rows L2
section
variable {X : Cx} {K : PySem.W.Frag}
theorem kAdd (h : X.K = K) : OpR X (binaryOp .Add) (rAddU K) := h ▸ op_addU
theorem kEq (h : X.K = K) (hu : X.A.units + 64 < cLine) : OpR X (compareOp .Eq) (rEqU K) := h ▸ op_eqU hu
theorem kNe (h : X.K = K) (hu : X.A.units + 64 < cLine) : OpR X (compareOp .NotEq) (rNeU K) := h ▸ op_neU hu
theorem kIn (h : X.K = K) : OpR X (compareOp .In) (rInU K false) := h ▸ op_inU
theorem kNin (h : X.K = K) : OpR X (compareOp .NotIn) (rInU K true) := h ▸ op_ninU
theorem kLen (h : X.K = K) : CallR X (.builtin "len") (rLenU K) := h ▸ call_lenU
theorem kList (h : X.K = K) : CallR X (.type "list") (rListU K) := h ▸ call_listU
theorem kTuple (h : X.K = K) : CallR X (.type "tuple") (rTupleU K) := h ▸ call_tupleU
theorem kAll (h : X.K = K) (hc : X.calm = true) : CallR X (.builtin "all") (rAll K) := h ▸ cr_all hc
theorem kIx (h : X.K = K) : IxR X (rIxU K) := h ▸ ix_U
theorem kSl (h : X.K = K) : SlR X (rSlU K) := h ▸ sl_U
theorem kSeq (h : X.K = K) {tg e : Expr} {te : TE} (he : PE X e te) : PI X tg e (iSeqU K te) := h ▸ pi_U he
theorem kGt (h : X.K = K) {es : List Expr} {k : Nat} {t : TGs} {n : Nat} {pos : Pos} (hc : X.calm = true) (hs : PGs X es t) (hn : (assignEach es X.env).length = n := by rfl) (hst : (assignEach es X.env).findIdx? (·.1) = none := by rfl) : PG X (.Tuple es k pos) (gTup K n t) := by
  subst h
  exact pg_tup hc hs hn hst
theorem kFld (h : X.K = K) {e : Expr} {f : Str} {te : TE} {pos : Pos} (he : PE X e te) (hb : attributeBase e f X.env (eval e X.env) = eval e X.env := by rfl) : PE X (.Attribute e f pos) (tFld K te f) := by
  subst h
  exact pe_fld he hb
end
end RX

/-! steps of readings -/
namespace RX
open PySem PySem.Spec PyProof.Rows L2
/-- a field by values -/
def FldOf (K : PySem.W.Frag) (f : Str) : V → Hp → VK → Prop := fun x H1 Q => ∃ a C dx fs v, x = .ref a ∧ H1 a = some (.ins C dx fs) ∧ Cls K C ∧ NoAttr K C f ∧ fs.lookup f = some v ∧ Q v H1
/-- a comprehension's run -/
def LcB (J : It) (g : TG) (tt : TT) (te : TE) (vs : List Nat) (σ : L2.St) (H1 : Hp) (Q : VK) : Prop := ∀ D, H1 D = none → ∃ W : Nat → Nat → Hp → Prop, (∃ m, W 0 m (upd H1 D (.lst []))) ∧ ∀ i m H, W i m H →
  (J.stop i H ∧ Q (.ref D) H) ∨ (J.go i H ∧ ∃ Nx : Hp → Prop, (∀ H', Nx H' → ∃ m', m' < m ∧ W (i + 1) m' H') ∧ ∀ x H', J.yld i H x H' → g x (wipe σ vs) H' fun σ2 H2 => wipe σ2 vs = wipe σ vs ∧ tt σ2 H2 fun b H3 =>
    if b = true then te σ2 H3 fun y H4 => ∃ acc, H4 D = some (.lst acc) ∧ acc.length < sizeLine ∧ Nx (upd H4 D (.lst (acc ++ [y]))) else Nx H3)
section
variable {D : Ends} {σ : L2.St} {H : Hp} {Q : VK} {QB : Bool → Hp → Prop} {QA : List V → Hp → Prop} {QO : Option Int → Hp → Prop} {QG : L2.St → Hp → Prop}
theorem rd_seq {t u : TS} (h : t { D with nx := u D } σ H) : tSeq t u D σ H := h
theorem rd_nxt  (h : D.nx σ H) : tNext D σ H := h
theorem rd_ret {te : TE} (h : te σ H D.rt) : tRet te D σ H := h
theorem rd_retN  (h : D.rt .non H) : tRetN D σ H := h
theorem rd_drop {te : TE} (h : te σ H fun _ H1 => D.nx σ H1) : tDrop te D σ H := h
theorem rd_ifS {c : TT} {t u : TS} (h : c σ H fun b H1 => if b = true then t D σ H1 else u D σ H1) : tIfS c t u D σ H := h
theorem rd_asg {te : TE} {g : TG} (h : te σ H fun x H1 => g x σ H1 D.nx) : tAsg te g D σ H := h
theorem rd_cont  (h : D.ct σ H) : tCont D σ H := h
theorem rd_brk  (h : D.bk σ H) : tBreak D σ H := h
theorem rd_c {v : V} (h : Q v H) : tC v σ H Q := h
theorem rd_op {r : R2} {ta tb : TE} (h : ta σ H fun x H1 => tb σ H1 fun y H2 => r x y H2 Q) : tOp r ta tb σ H Q := h
theorem rd_un {r : V → Hp → VK → Prop} {ta : TE} (h : ta σ H fun x H1 => r x H1 Q) : tUn r ta σ H Q := h
theorem rd_cb {r : List V → Hp → VK → Prop} {t : TA} (h : t σ H fun vs H1 => r vs H1 Q) : tCB r t σ H Q := h
theorem rd_tup {t : TA} (h : t σ H fun xs H1 => xs.length ≤ sizeLine ∧ Nw H1 (.tup xs) Q) : tTup t σ H Q := h
theorem rd_lst {t : TA} (h : t σ H fun xs H1 => xs.length ≤ sizeLine ∧ Nw H1 (.lst xs) Q) : tLst t σ H Q := h
theorem rd_orV {ta tb : TE} (h : ta σ H fun x H1 => ∃ c, x = .bl c ∧ if c = true then Q (.bl true) H1 else tb σ H1 Q) : tOrV ta tb σ H Q := h
theorem rd_andV {ta tb : TE} (h : ta σ H fun x H1 => ∃ c, x = .bl c ∧ if c = true then tb σ H1 Q else Q (.bl false) H1) : tAndV ta tb σ H Q := h
theorem rd_notV {ta : TE} (h : ta σ H fun x H1 => ∃ c, x = .bl c ∧ Q (.bl (!c)) H1) : tNotV ta σ H Q := h
theorem rd_if {t : TT} {ta tb : TE} (h : t σ H fun c H1 => if c = true then ta σ H1 Q else tb σ H1 Q) : tIf t ta tb σ H Q := h
theorem rd_call {sp : Sp} {E : XK} {t : TA} (h : t σ H fun vs H1 => sp (vs ++ []) H1 Q E) : tCall sp [] E t σ H Q := h
theorem rd_callS {sp : Sp} {E : L2.St → XK} {t : TA} (h : t σ H fun vs H1 => sp vs H1 Q (E σ)) : tCallS sp E t σ H Q := h
theorem rd_meth {C : Addr} {m : Str} {sp : Sp} {E : XK} {ta : TE} {t : TA} (h : ta σ H fun x H1 => ∃ a dx fs, x = .ref a ∧ H1 a = some (.ins C dx fs) ∧ fs.lookup m = none ∧ t σ H1 fun vs H2 => sp (x :: (vs ++ [])) H2 Q E) : tMeth C m sp [] E ta t σ H Q := h
theorem rd_umeth {C : Addr} {sp : Sp} {E : XK} {ta : TE} {t : TA} (h : ta σ H fun x H1 => x = .ref C ∧ t σ H1 fun vs H2 => sp vs H2 Q E) : tUMeth C sp E ta t σ H Q := h
theorem rd_make {C : Addr} {sp : Sp} {E : XK} {t : TA} (h : t σ H fun vs H1 => ∀ x dx, H1 x = none → H1 dx = none → dx ≠ x → sp (.ref x :: (vs ++ [])) (upd (upd H1 dx (.own x)) x (.ins C dx [])) (fun v H2 => v = .non ∧ Q (.ref x) H2) E) : tMake C sp [] E t σ H Q := h
theorem rd_fld {K : PySem.W.Frag} {ta : TE} {f : Str} (h : ta σ H fun x H1 => FldOf K f x H1 Q) : tFld K ta f σ H Q := h
theorem rd_sl {r : V → Option Int → Option Int → Hp → VK → Prop} {te : TE} {tl th : TO} (h : te σ H fun x H1 => tl σ H1 fun l H2 => th σ H2 fun u H3 => r x l u H3 Q) : tSl r te tl th σ H Q := h
theorem rd_m1 {r : V → List V → Hp → VK → Prop} {to te : TE} (h : to σ H fun x H1 => (∃ a, x = .str a) ∧ te σ H1 fun y H2 => r x [y] H2 Q) : tM1 r to te σ H Q := h
theorem rd_chain {r r' : R2} {ta tb tc : TE} (h : ta σ H fun x H1 => tb σ H1 fun y H2 => r x y H2 fun z H3 => ∃ k, z = .bl k ∧ (if k = true then tc σ H3 fun w' H4 => r' y w' H4 Q else Q (.bl false) H3)) : tChain r r' ta tb tc σ H Q := h
theorem rd_lc {wi : TI} {g : TG} {tt : TT} {te : TE} {vs : List Nat} (h : wi σ H fun J H1 => LcB J g tt te vs σ H1 Q) : tLc wi g tt te vs σ H Q := h
theorem rd_or {t u : TT} (h : t σ H fun c H1 => if c = true then QB true H1 else u σ H1 QB) : tOr t u σ H QB := h
theorem rd_and {t u : TT} (h : t σ H fun c H1 => if c = true then u σ H1 QB else QB false H1) : tAnd t u σ H QB := h
theorem rd_not {t : TT} (h : t σ H fun c H1 => QB (!c) H1) : tNot t σ H QB := h
theorem rd_test {t : TE} (h : t σ H fun x H' => ∃ k, x = .bl k ∧ QB k H') : tTest t σ H QB := h
theorem rd_tb {t : TE} (h : t σ H fun x H' => ∃ k, x = .bl k ∧ QB k H') : tB t σ H QB := h
theorem rd_yes  (h : QB true H) : tYes σ H QB := h
theorem rd_nil  (h : QA [] H) : tNil σ H QA := h
theorem rd_cons {ta : TE} {tr : TA} (h : ta σ H fun x H1 => tr σ H1 fun xs H2 => QA (x :: xs) H2) : tCons ta tr σ H QA := h
theorem rd_nopart  (h : QO none H) : tNoPart σ H QO := h
theorem rd_part {t : TE} (h : t σ H fun x H1 => ∃ i, x = .int i ∧ QO (some i) H1) : tPart t σ H QO := h
theorem rd_gnil (h : QG σ H) : gNil [] σ H QG := ⟨rfl, h⟩
theorem rd_gcons {t : TG} {u : TGs} {v : V} {r : List V} (h : t v σ H fun σ' H' => u r σ' H' QG) : gCons t u (v :: r) σ H QG := ⟨v, r, rfl, h⟩
theorem rd_gtup {K : PySem.W.Frag} {n : Nat} {t : TGs} {a : Addr} {xs : List V} (hs : SqT K H a xs) (hl : xs.length = n) (h : t xs σ H QG) : gTup K n t (.ref a) σ H QG := ⟨a, xs, rfl, hs, hl, h⟩
theorem rd_gsub {to ti : TE} {t : TSet} {v : V} (h : to σ H fun o H1 => ti σ H1 fun i H2 => t o i v H2 fun H3 => QG σ H3) : gSub to ti t v σ H QG := h
theorem rd_g0 {v : V} { y : Option V} {r : List (Option V)} (h : QG (some v :: r) H) : gName 0 v (y :: r) H QG := h
theorem rd_g1 {v : V} {x0 y : Option V} {r : List (Option V)} (h : QG (x0 :: some v :: r) H) : gName 1 v (x0 :: y :: r) H QG := h
theorem rd_g2 {v : V} {x0 x1 y : Option V} {r : List (Option V)} (h : QG (x0 :: x1 :: some v :: r) H) : gName 2 v (x0 :: x1 :: y :: r) H QG := h
theorem rd_g3 {v : V} {x0 x1 x2 y : Option V} {r : List (Option V)} (h : QG (x0 :: x1 :: x2 :: some v :: r) H) : gName 3 v (x0 :: x1 :: x2 :: y :: r) H QG := h
theorem rd_g4 {v : V} {x0 x1 x2 x3 y : Option V} {r : List (Option V)} (h : QG (x0 :: x1 :: x2 :: x3 :: some v :: r) H) : gName 4 v (x0 :: x1 :: x2 :: x3 :: y :: r) H QG := h
theorem rd_g5 {v : V} {x0 x1 x2 x3 x4 y : Option V} {r : List (Option V)} (h : QG (x0 :: x1 :: x2 :: x3 :: x4 :: some v :: r) H) : gName 5 v (x0 :: x1 :: x2 :: x3 :: x4 :: y :: r) H QG := h
theorem rd_g6 {v : V} {x0 x1 x2 x3 x4 x5 y : Option V} {r : List (Option V)} (h : QG (x0 :: x1 :: x2 :: x3 :: x4 :: x5 :: some v :: r) H) : gName 6 v (x0 :: x1 :: x2 :: x3 :: x4 :: x5 :: y :: r) H QG := h
theorem rd_g7 {v : V} {x0 x1 x2 x3 x4 x5 x6 y : Option V} {r : List (Option V)} (h : QG (x0 :: x1 :: x2 :: x3 :: x4 :: x5 :: x6 :: some v :: r) H) : gName 7 v (x0 :: x1 :: x2 :: x3 :: x4 :: x5 :: x6 :: y :: r) H QG := h
theorem rd_g8 {v : V} {x0 x1 x2 x3 x4 x5 x6 x7 y : Option V} {r : List (Option V)} (h : QG (x0 :: x1 :: x2 :: x3 :: x4 :: x5 :: x6 :: x7 :: some v :: r) H) : gName 8 v (x0 :: x1 :: x2 :: x3 :: x4 :: x5 :: x6 :: x7 :: y :: r) H QG := h
theorem rd_g9 {v : V} {x0 x1 x2 x3 x4 x5 x6 x7 x8 y : Option V} {r : List (Option V)} (h : QG (x0 :: x1 :: x2 :: x3 :: x4 :: x5 :: x6 :: x7 :: x8 :: some v :: r) H) : gName 9 v (x0 :: x1 :: x2 :: x3 :: x4 :: x5 :: x6 :: x7 :: x8 :: y :: r) H QG := h
theorem rd_g10 {v : V} {x0 x1 x2 x3 x4 x5 x6 x7 x8 x9 y : Option V} {r : List (Option V)} (h : QG (x0 :: x1 :: x2 :: x3 :: x4 :: x5 :: x6 :: x7 :: x8 :: x9 :: some v :: r) H) : gName 10 v (x0 :: x1 :: x2 :: x3 :: x4 :: x5 :: x6 :: x7 :: x8 :: x9 :: y :: r) H QG := h
theorem rd_g11 {v : V} {x0 x1 x2 x3 x4 x5 x6 x7 x8 x9 x10 y : Option V} {r : List (Option V)} (h : QG (x0 :: x1 :: x2 :: x3 :: x4 :: x5 :: x6 :: x7 :: x8 :: x9 :: x10 :: some v :: r) H) : gName 11 v (x0 :: x1 :: x2 :: x3 :: x4 :: x5 :: x6 :: x7 :: x8 :: x9 :: x10 :: y :: r) H QG := h
theorem rd_g12 {v : V} {x0 x1 x2 x3 x4 x5 x6 x7 x8 x9 x10 x11 y : Option V} {r : List (Option V)} (h : QG (x0 :: x1 :: x2 :: x3 :: x4 :: x5 :: x6 :: x7 :: x8 :: x9 :: x10 :: x11 :: some v :: r) H) : gName 12 v (x0 :: x1 :: x2 :: x3 :: x4 :: x5 :: x6 :: x7 :: x8 :: x9 :: x10 :: x11 :: y :: r) H QG := h
theorem rd_g13 {v : V} {x0 x1 x2 x3 x4 x5 x6 x7 x8 x9 x10 x11 x12 y : Option V} {r : List (Option V)} (h : QG (x0 :: x1 :: x2 :: x3 :: x4 :: x5 :: x6 :: x7 :: x8 :: x9 :: x10 :: x11 :: x12 :: some v :: r) H) : gName 13 v (x0 :: x1 :: x2 :: x3 :: x4 :: x5 :: x6 :: x7 :: x8 :: x9 :: x10 :: x11 :: x12 :: y :: r) H QG := h
theorem rd_g14 {v : V} {x0 x1 x2 x3 x4 x5 x6 x7 x8 x9 x10 x11 x12 x13 y : Option V} {r : List (Option V)} (h : QG (x0 :: x1 :: x2 :: x3 :: x4 :: x5 :: x6 :: x7 :: x8 :: x9 :: x10 :: x11 :: x12 :: x13 :: some v :: r) H) : gName 14 v (x0 :: x1 :: x2 :: x3 :: x4 :: x5 :: x6 :: x7 :: x8 :: x9 :: x10 :: x11 :: x12 :: x13 :: y :: r) H QG := h
theorem rd_g15 {v : V} {x0 x1 x2 x3 x4 x5 x6 x7 x8 x9 x10 x11 x12 x13 x14 y : Option V} {r : List (Option V)} (h : QG (x0 :: x1 :: x2 :: x3 :: x4 :: x5 :: x6 :: x7 :: x8 :: x9 :: x10 :: x11 :: x12 :: x13 :: x14 :: some v :: r) H) : gName 15 v (x0 :: x1 :: x2 :: x3 :: x4 :: x5 :: x6 :: x7 :: x8 :: x9 :: x10 :: x11 :: x12 :: x13 :: x14 :: y :: r) H QG := h
theorem rd_g16 {v : V} {x0 x1 x2 x3 x4 x5 x6 x7 x8 x9 x10 x11 x12 x13 x14 x15 y : Option V} {r : List (Option V)} (h : QG (x0 :: x1 :: x2 :: x3 :: x4 :: x5 :: x6 :: x7 :: x8 :: x9 :: x10 :: x11 :: x12 :: x13 :: x14 :: x15 :: some v :: r) H) : gName 16 v (x0 :: x1 :: x2 :: x3 :: x4 :: x5 :: x6 :: x7 :: x8 :: x9 :: x10 :: x11 :: x12 :: x13 :: x14 :: x15 :: y :: r) H QG := h
theorem rd_g17 {v : V} {x0 x1 x2 x3 x4 x5 x6 x7 x8 x9 x10 x11 x12 x13 x14 x15 x16 y : Option V} {r : List (Option V)} (h : QG (x0 :: x1 :: x2 :: x3 :: x4 :: x5 :: x6 :: x7 :: x8 :: x9 :: x10 :: x11 :: x12 :: x13 :: x14 :: x15 :: x16 :: some v :: r) H) : gName 17 v (x0 :: x1 :: x2 :: x3 :: x4 :: x5 :: x6 :: x7 :: x8 :: x9 :: x10 :: x11 :: x12 :: x13 :: x14 :: x15 :: x16 :: y :: r) H QG := h
theorem rd_g18 {v : V} {x0 x1 x2 x3 x4 x5 x6 x7 x8 x9 x10 x11 x12 x13 x14 x15 x16 x17 y : Option V} {r : List (Option V)} (h : QG (x0 :: x1 :: x2 :: x3 :: x4 :: x5 :: x6 :: x7 :: x8 :: x9 :: x10 :: x11 :: x12 :: x13 :: x14 :: x15 :: x16 :: x17 :: some v :: r) H) : gName 18 v (x0 :: x1 :: x2 :: x3 :: x4 :: x5 :: x6 :: x7 :: x8 :: x9 :: x10 :: x11 :: x12 :: x13 :: x14 :: x15 :: x16 :: x17 :: y :: r) H QG := h
theorem rd_g19 {v : V} {x0 x1 x2 x3 x4 x5 x6 x7 x8 x9 x10 x11 x12 x13 x14 x15 x16 x17 x18 y : Option V} {r : List (Option V)} (h : QG (x0 :: x1 :: x2 :: x3 :: x4 :: x5 :: x6 :: x7 :: x8 :: x9 :: x10 :: x11 :: x12 :: x13 :: x14 :: x15 :: x16 :: x17 :: x18 :: some v :: r) H) : gName 19 v (x0 :: x1 :: x2 :: x3 :: x4 :: x5 :: x6 :: x7 :: x8 :: x9 :: x10 :: x11 :: x12 :: x13 :: x14 :: x15 :: x16 :: x17 :: x18 :: y :: r) H QG := h
theorem rd_g20 {v : V} {x0 x1 x2 x3 x4 x5 x6 x7 x8 x9 x10 x11 x12 x13 x14 x15 x16 x17 x18 x19 y : Option V} {r : List (Option V)} (h : QG (x0 :: x1 :: x2 :: x3 :: x4 :: x5 :: x6 :: x7 :: x8 :: x9 :: x10 :: x11 :: x12 :: x13 :: x14 :: x15 :: x16 :: x17 :: x18 :: x19 :: some v :: r) H) : gName 20 v (x0 :: x1 :: x2 :: x3 :: x4 :: x5 :: x6 :: x7 :: x8 :: x9 :: x10 :: x11 :: x12 :: x13 :: x14 :: x15 :: x16 :: x17 :: x18 :: x19 :: y :: r) H QG := h
theorem rd_g21 {v : V} {x0 x1 x2 x3 x4 x5 x6 x7 x8 x9 x10 x11 x12 x13 x14 x15 x16 x17 x18 x19 x20 y : Option V} {r : List (Option V)} (h : QG (x0 :: x1 :: x2 :: x3 :: x4 :: x5 :: x6 :: x7 :: x8 :: x9 :: x10 :: x11 :: x12 :: x13 :: x14 :: x15 :: x16 :: x17 :: x18 :: x19 :: x20 :: some v :: r) H) : gName 21 v (x0 :: x1 :: x2 :: x3 :: x4 :: x5 :: x6 :: x7 :: x8 :: x9 :: x10 :: x11 :: x12 :: x13 :: x14 :: x15 :: x16 :: x17 :: x18 :: x19 :: x20 :: y :: r) H QG := h
theorem rd_g22 {v : V} {x0 x1 x2 x3 x4 x5 x6 x7 x8 x9 x10 x11 x12 x13 x14 x15 x16 x17 x18 x19 x20 x21 y : Option V} {r : List (Option V)} (h : QG (x0 :: x1 :: x2 :: x3 :: x4 :: x5 :: x6 :: x7 :: x8 :: x9 :: x10 :: x11 :: x12 :: x13 :: x14 :: x15 :: x16 :: x17 :: x18 :: x19 :: x20 :: x21 :: some v :: r) H) : gName 22 v (x0 :: x1 :: x2 :: x3 :: x4 :: x5 :: x6 :: x7 :: x8 :: x9 :: x10 :: x11 :: x12 :: x13 :: x14 :: x15 :: x16 :: x17 :: x18 :: x19 :: x20 :: x21 :: y :: r) H QG := h
theorem rd_g23 {v : V} {x0 x1 x2 x3 x4 x5 x6 x7 x8 x9 x10 x11 x12 x13 x14 x15 x16 x17 x18 x19 x20 x21 x22 y : Option V} {r : List (Option V)} (h : QG (x0 :: x1 :: x2 :: x3 :: x4 :: x5 :: x6 :: x7 :: x8 :: x9 :: x10 :: x11 :: x12 :: x13 :: x14 :: x15 :: x16 :: x17 :: x18 :: x19 :: x20 :: x21 :: x22 :: some v :: r) H) : gName 23 v (x0 :: x1 :: x2 :: x3 :: x4 :: x5 :: x6 :: x7 :: x8 :: x9 :: x10 :: x11 :: x12 :: x13 :: x14 :: x15 :: x16 :: x17 :: x18 :: x19 :: x20 :: x21 :: x22 :: y :: r) H QG := h
theorem rd_v0 {v : V} {r : List (Option V)} (h : Q v H) : tVar 0 (some v :: r) H Q := ⟨v, rfl, h⟩
theorem rd_v1 {v : V} {x0 : Option V} {r : List (Option V)} (h : Q v H) : tVar 1 (x0 :: some v :: r) H Q := ⟨v, rfl, h⟩
theorem rd_v2 {v : V} {x0 x1 : Option V} {r : List (Option V)} (h : Q v H) : tVar 2 (x0 :: x1 :: some v :: r) H Q := ⟨v, rfl, h⟩
theorem rd_v3 {v : V} {x0 x1 x2 : Option V} {r : List (Option V)} (h : Q v H) : tVar 3 (x0 :: x1 :: x2 :: some v :: r) H Q := ⟨v, rfl, h⟩
theorem rd_v4 {v : V} {x0 x1 x2 x3 : Option V} {r : List (Option V)} (h : Q v H) : tVar 4 (x0 :: x1 :: x2 :: x3 :: some v :: r) H Q := ⟨v, rfl, h⟩
theorem rd_v5 {v : V} {x0 x1 x2 x3 x4 : Option V} {r : List (Option V)} (h : Q v H) : tVar 5 (x0 :: x1 :: x2 :: x3 :: x4 :: some v :: r) H Q := ⟨v, rfl, h⟩
theorem rd_v6 {v : V} {x0 x1 x2 x3 x4 x5 : Option V} {r : List (Option V)} (h : Q v H) : tVar 6 (x0 :: x1 :: x2 :: x3 :: x4 :: x5 :: some v :: r) H Q := ⟨v, rfl, h⟩
theorem rd_v7 {v : V} {x0 x1 x2 x3 x4 x5 x6 : Option V} {r : List (Option V)} (h : Q v H) : tVar 7 (x0 :: x1 :: x2 :: x3 :: x4 :: x5 :: x6 :: some v :: r) H Q := ⟨v, rfl, h⟩
theorem rd_v8 {v : V} {x0 x1 x2 x3 x4 x5 x6 x7 : Option V} {r : List (Option V)} (h : Q v H) : tVar 8 (x0 :: x1 :: x2 :: x3 :: x4 :: x5 :: x6 :: x7 :: some v :: r) H Q := ⟨v, rfl, h⟩
theorem rd_v9 {v : V} {x0 x1 x2 x3 x4 x5 x6 x7 x8 : Option V} {r : List (Option V)} (h : Q v H) : tVar 9 (x0 :: x1 :: x2 :: x3 :: x4 :: x5 :: x6 :: x7 :: x8 :: some v :: r) H Q := ⟨v, rfl, h⟩
theorem rd_v10 {v : V} {x0 x1 x2 x3 x4 x5 x6 x7 x8 x9 : Option V} {r : List (Option V)} (h : Q v H) : tVar 10 (x0 :: x1 :: x2 :: x3 :: x4 :: x5 :: x6 :: x7 :: x8 :: x9 :: some v :: r) H Q := ⟨v, rfl, h⟩
theorem rd_v11 {v : V} {x0 x1 x2 x3 x4 x5 x6 x7 x8 x9 x10 : Option V} {r : List (Option V)} (h : Q v H) : tVar 11 (x0 :: x1 :: x2 :: x3 :: x4 :: x5 :: x6 :: x7 :: x8 :: x9 :: x10 :: some v :: r) H Q := ⟨v, rfl, h⟩
theorem rd_v12 {v : V} {x0 x1 x2 x3 x4 x5 x6 x7 x8 x9 x10 x11 : Option V} {r : List (Option V)} (h : Q v H) : tVar 12 (x0 :: x1 :: x2 :: x3 :: x4 :: x5 :: x6 :: x7 :: x8 :: x9 :: x10 :: x11 :: some v :: r) H Q := ⟨v, rfl, h⟩
theorem rd_v13 {v : V} {x0 x1 x2 x3 x4 x5 x6 x7 x8 x9 x10 x11 x12 : Option V} {r : List (Option V)} (h : Q v H) : tVar 13 (x0 :: x1 :: x2 :: x3 :: x4 :: x5 :: x6 :: x7 :: x8 :: x9 :: x10 :: x11 :: x12 :: some v :: r) H Q := ⟨v, rfl, h⟩
theorem rd_v14 {v : V} {x0 x1 x2 x3 x4 x5 x6 x7 x8 x9 x10 x11 x12 x13 : Option V} {r : List (Option V)} (h : Q v H) : tVar 14 (x0 :: x1 :: x2 :: x3 :: x4 :: x5 :: x6 :: x7 :: x8 :: x9 :: x10 :: x11 :: x12 :: x13 :: some v :: r) H Q := ⟨v, rfl, h⟩
theorem rd_v15 {v : V} {x0 x1 x2 x3 x4 x5 x6 x7 x8 x9 x10 x11 x12 x13 x14 : Option V} {r : List (Option V)} (h : Q v H) : tVar 15 (x0 :: x1 :: x2 :: x3 :: x4 :: x5 :: x6 :: x7 :: x8 :: x9 :: x10 :: x11 :: x12 :: x13 :: x14 :: some v :: r) H Q := ⟨v, rfl, h⟩
theorem rd_v16 {v : V} {x0 x1 x2 x3 x4 x5 x6 x7 x8 x9 x10 x11 x12 x13 x14 x15 : Option V} {r : List (Option V)} (h : Q v H) : tVar 16 (x0 :: x1 :: x2 :: x3 :: x4 :: x5 :: x6 :: x7 :: x8 :: x9 :: x10 :: x11 :: x12 :: x13 :: x14 :: x15 :: some v :: r) H Q := ⟨v, rfl, h⟩
theorem rd_v17 {v : V} {x0 x1 x2 x3 x4 x5 x6 x7 x8 x9 x10 x11 x12 x13 x14 x15 x16 : Option V} {r : List (Option V)} (h : Q v H) : tVar 17 (x0 :: x1 :: x2 :: x3 :: x4 :: x5 :: x6 :: x7 :: x8 :: x9 :: x10 :: x11 :: x12 :: x13 :: x14 :: x15 :: x16 :: some v :: r) H Q := ⟨v, rfl, h⟩
theorem rd_v18 {v : V} {x0 x1 x2 x3 x4 x5 x6 x7 x8 x9 x10 x11 x12 x13 x14 x15 x16 x17 : Option V} {r : List (Option V)} (h : Q v H) : tVar 18 (x0 :: x1 :: x2 :: x3 :: x4 :: x5 :: x6 :: x7 :: x8 :: x9 :: x10 :: x11 :: x12 :: x13 :: x14 :: x15 :: x16 :: x17 :: some v :: r) H Q := ⟨v, rfl, h⟩
theorem rd_v19 {v : V} {x0 x1 x2 x3 x4 x5 x6 x7 x8 x9 x10 x11 x12 x13 x14 x15 x16 x17 x18 : Option V} {r : List (Option V)} (h : Q v H) : tVar 19 (x0 :: x1 :: x2 :: x3 :: x4 :: x5 :: x6 :: x7 :: x8 :: x9 :: x10 :: x11 :: x12 :: x13 :: x14 :: x15 :: x16 :: x17 :: x18 :: some v :: r) H Q := ⟨v, rfl, h⟩
theorem rd_v20 {v : V} {x0 x1 x2 x3 x4 x5 x6 x7 x8 x9 x10 x11 x12 x13 x14 x15 x16 x17 x18 x19 : Option V} {r : List (Option V)} (h : Q v H) : tVar 20 (x0 :: x1 :: x2 :: x3 :: x4 :: x5 :: x6 :: x7 :: x8 :: x9 :: x10 :: x11 :: x12 :: x13 :: x14 :: x15 :: x16 :: x17 :: x18 :: x19 :: some v :: r) H Q := ⟨v, rfl, h⟩
theorem rd_v21 {v : V} {x0 x1 x2 x3 x4 x5 x6 x7 x8 x9 x10 x11 x12 x13 x14 x15 x16 x17 x18 x19 x20 : Option V} {r : List (Option V)} (h : Q v H) : tVar 21 (x0 :: x1 :: x2 :: x3 :: x4 :: x5 :: x6 :: x7 :: x8 :: x9 :: x10 :: x11 :: x12 :: x13 :: x14 :: x15 :: x16 :: x17 :: x18 :: x19 :: x20 :: some v :: r) H Q := ⟨v, rfl, h⟩
theorem rd_v22 {v : V} {x0 x1 x2 x3 x4 x5 x6 x7 x8 x9 x10 x11 x12 x13 x14 x15 x16 x17 x18 x19 x20 x21 : Option V} {r : List (Option V)} (h : Q v H) : tVar 22 (x0 :: x1 :: x2 :: x3 :: x4 :: x5 :: x6 :: x7 :: x8 :: x9 :: x10 :: x11 :: x12 :: x13 :: x14 :: x15 :: x16 :: x17 :: x18 :: x19 :: x20 :: x21 :: some v :: r) H Q := ⟨v, rfl, h⟩
theorem rd_v23 {v : V} {x0 x1 x2 x3 x4 x5 x6 x7 x8 x9 x10 x11 x12 x13 x14 x15 x16 x17 x18 x19 x20 x21 x22 : Option V} {r : List (Option V)} (h : Q v H) : tVar 23 (x0 :: x1 :: x2 :: x3 :: x4 :: x5 :: x6 :: x7 :: x8 :: x9 :: x10 :: x11 :: x12 :: x13 :: x14 :: x15 :: x16 :: x17 :: x18 :: x19 :: x20 :: x21 :: x22 :: some v :: r) H Q := ⟨v, rfl, h⟩
theorem rd_start {t : TS} {N : List Str} {vs : List V} {σ' : L2.St} (e : start N vs = σ') (h : t D σ' H) : t D (start N vs) H := by
  rw [e]
  exact h
theorem rd_bl {c : Bool} {P : Bool → Prop} (h : P c) : ∃ k, V.bl c = .bl k ∧ P k := ⟨c, rfl, h⟩
theorem rd_ite {b : Bool} {A B : Prop} (h1 : b = true → A) (h2 : b = false → B) : if b = true then A else B := by
  cases b with
  | true => exact iteT (h1 rfl)
  | false => exact iteF (h2 rfl)
theorem rd_conj {A B : Prop} (h1 : A) (h2 : B) : A ∧ B := ⟨h1, h2⟩
theorem rd_intE {i : Int} {P : Int → Prop} (h : P i) : ∃ k, V.int i = .int k ∧ P k := ⟨i, rfl, h⟩
theorem rd_strE {i : Str} {P : Prop} (h : P) : (∃ a, V.str i = .str a) ∧ P := ⟨⟨i, rfl⟩, h⟩
/-! ### operations by values -/
section
variable {K : PySem.W.Frag} {i j : Int} {a b : Str} {p : Addr}
theorem rd_I0 {g : Int → Int → V} (h : Q (g i j) H) : rI0 g (.int i) (.int j) H Q := ⟨i, j, rfl, rfl, h⟩
theorem rd_I {C : Int → Int → Prop} {g : Int → Int → V} (hc : C i j) (h : Q (g i j) H) : rI C g (.int i) (.int j) H Q := ⟨i, j, rfl, rfl, hc, h⟩
theorem rd_addI (h : Q (.int (i + j)) H) : rAddU K (.int i) (.int j) H Q := h
theorem rd_addS (hl : a.length + b.length ≤ sizeLine) (h : Q (.str (a ++ b)) H) : rAddU K (.str a) (.str b) H Q := ⟨hl, h⟩
theorem rd_addL {l m : Addr} {xs zs : List V} (h1 : SqL K H l xs) (h2 : SqL K H m zs) (hl : xs.length + zs.length ≤ sizeLine) (h : Nw H (.lst (xs ++ zs)) Q) : rAddU K (.ref l) (.ref m) H Q := .inl ⟨xs, zs, h1, h2, hl, h⟩
theorem rd_mulI (hc : CMulW i j ∨ CMul i j) (h : Q (.int (i * j)) H) : rMulU (.int i) (.int j) H Q := ⟨hc, h⟩
theorem rd_mulL {xs : List V} (h1 : H p = some (.lst xs)) (h2 : -(2 ^ 63) ≤ i) (h3 : i < 2 ^ 63) (h4 : xs.length * i.toNat ≤ sizeLine) (h : Nw H (.lst (List.replicate i.toNat xs).flatten) Q) : rMulU (.ref p) (.int i) H Q := ⟨xs, h1, h2, h3, h4, h⟩
theorem rd_eqS {x y : V} (h1 : scal x y = true) (h : Q (.bl (decide (x = y))) H) : rEqU K x y H Q := .inl ⟨h1, h⟩
theorem rd_neS {x y : V} (h1 : scal x y = true) (h : Q (.bl (!decide (x = y))) H) : rNeU K x y H Q := .inl ⟨h1, h⟩
theorem rd_eqD {x y : V} {d e : PyData} (h1 : Dp K H x d) (h2 : Dp K H y e) (s1 : SeqAt.shaped d = true) (s2 : SeqAt.shaped e = true) (h : Q (.bl (PyData.eqv d e)) H) : rEqU K x y H Q := .inr ⟨d, e, h1, h2, s1, s2, h⟩
theorem rd_neD {x y : V} {d e : PyData} (h1 : Dp K H x d) (h2 : Dp K H y e) (s1 : SeqAt.shaped d = true) (s2 : SeqAt.shaped e = true) (h : Q (.bl (!PyData.eqv d e)) H) : rNeU K x y H Q := .inr ⟨d, e, h1, h2, s1, s2, h⟩
theorem rd_isN {x : V} (h : Q (.bl (decide (x = .non))) H) : (fun x y H Q => y = V.non ∧ Q (.bl (decide (x = .non))) H : R2) x .non H Q := ⟨rfl, h⟩
theorem rd_inS {c : Nat} {z : Str} (h : Q (.bl (decide (c ∈ z.cps.toList))) H) : rInU K false (.str ⟨#[c]⟩) (.str z) H Q := ⟨c, rfl, h⟩
theorem rd_ninS {c : Nat} {z : Str} (h : Q (.bl (!decide (c ∈ z.cps.toList))) H) : rInU K true (.str ⟨#[c]⟩) (.str z) H Q := ⟨c, rfl, h⟩
theorem rd_inQ {neg : Bool} {x : V} {xs : List V} (h1 : SqL K H p xs ∨ SqT K H p xs) (h2 : flatV x = true) (h3 : xs.all flatV = true) (h : Q (.bl (if neg then !inV x xs else inV x xs)) H) : rInU K neg x (.ref p) H Q := ⟨xs, h1, h2, h3, h⟩
theorem rd_lenS (hl : a.length ≤ sizeLine) (h : Q (.int a.length) H) : rLenU K [.str a] H Q := ⟨hl, h⟩
theorem rd_lenL {ys : List V} (h1 : SqL K H p ys) (h : Q (.int ys.length) H) : rLenU K [.ref p] H Q := .inl ⟨ys, .inl h1, h⟩
theorem rd_lenT {ys : List V} (h1 : SqT K H p ys) (h : Q (.int ys.length) H) : rLenU K [.ref p] H Q := .inl ⟨ys, .inr h1, h⟩
theorem rd_listL {ys : List V} (h1 : SqL K H p ys) (h : Nw H (.lst ys) Q) : rListU K [.ref p] H Q := ⟨ys, .inl h1, h⟩
theorem rd_listT {ys : List V} (h1 : SqT K H p ys) (h : Nw H (.lst ys) Q) : rListU K [.ref p] H Q := ⟨ys, .inr h1, h⟩
theorem rd_tupL {ys : List V} (h1 : SqL K H p ys) (h : Nw H (.tup ys) Q) : rTupleU K [.ref p] H Q := .inl ⟨ys, h1, h⟩
theorem rd_tupT {ys : List V} (h1 : SqT K H p ys) (h : Q (.ref p) H) : rTupleU K [.ref p] H Q := .inr ⟨ys, h1, h⟩
theorem rd_intI (h : Q (.int i) H) : rInt1 [.int i] H Q := h
theorem rd_intB {k : Bool} (h : Q (.int (if k then 1 else 0)) H) : rInt1 [.bl k] H Q := h
theorem rd_ixL {xs : List V} {v : V} (h1 : SqL K H p xs) (h2 : atI xs i = some v) (h : Q v H) : rIxU K (.ref p) (.int i) H Q := ⟨xs, v, .inl h1, h2, h⟩
theorem rd_ixT {xs : List V} {v : V} (h1 : SqT K H p xs) (h2 : atI xs i = some v) (h : Q v H) : rIxU K (.ref p) (.int i) H Q := ⟨xs, v, .inr h1, h2, h⟩
theorem rd_ixS {c : Nat} (h1 : a.length ≤ sizeLine) (h2 : atI a.cps.toList i = some c) (h : Q (.str ⟨#[c]⟩) H) : rIxU K (.str a) (.int i) H Q := ⟨c, h1, h2, h⟩
theorem rd_slL {xs : List V} {lo hi : Option Int} (h1 : SqL K H p xs) (h : Nw H (.lst (cutV xs lo hi)) Q) : rSlU K (.ref p) lo hi H Q := ⟨xs, h1, h⟩
theorem rd_slS {lo hi : Option Int} (h1 : a.length ≤ sizeLine) (h : Q (.str (cutS a lo hi)) H) : rSlU K (.str a) lo hi H Q := ⟨h1, h⟩
theorem rd_fldr {f : Str} {C dx : Addr} {fs : List (Str × V)} {v : V} (h1 : H p = some (.ins C dx fs)) (h2 : Cls K C) (h3 : NoAttr K C f) (h4 : fs.lookup f = some v) (h : Q v H) : FldOf K f (.ref p) H Q := ⟨p, C, dx, fs, v, rfl, h1, h2, h3, h4, h⟩
theorem rd_iseq {te : TE} {R : It → Hp → Prop} (h : te σ H fun x H1 => SeqIt K x H1 R) : iSeqU K te σ H R := h
theorem rd_itL {R : It → Hp → Prop} {xs : List V} (h1 : SqL K H p xs) (h : R (Itl K p) H) : SeqIt K (.ref p) H R := .inl ⟨xs, h1, h⟩
theorem rd_itT {R : It → Hp → Prop} {xs : List V} (h1 : SqT K H p xs) (h : R (Itt K p) H) : SeqIt K (.ref p) H R := .inr ⟨xs, h1, h⟩
theorem rd_itS {R : It → Hp → Prop} (h : R (Its a) H) : SeqIt K (.str a) H R := h
theorem rd_all {bs : List Bool} (h1 : SqL K H p (bs.map V.bl)) (h : Q (.bl (bs.all id)) H) : rAll K [.ref p] H Q := ⟨p, bs, rfl, h1, h⟩
end
end
/-! ### fields of an instance -/
theorem lk_hit {f : Str} {v : V} {fs : List (Str × V)} : (putF f v fs).lookup f = some v := by rw [lookup_putF, if_pos rfl]
theorem lk_miss {f g : Str} {v : V} {fs : List (Str × V)} {r : Option V} (h : ¬ g = f) (e : fs.lookup g = r) : (putF f v fs).lookup g = r := by rw [lookup_putF, if_neg h, e]
theorem lk_nil {g : Str} : ([] : List (Str × V)).lookup g = none := rfl
theorem len_putF {f : Str} {v : V} : ∀ {fs : List (Str × V)} {n : Nat}, fs.length ≤ n → (putF f v fs).length ≤ n + 1
  | [], n, _ => by show 1 ≤ n + 1; omega
  | (g, x) :: r, n, h => by
    show (if g = f then (g, v) :: r else (g, x) :: putF f v r).length ≤ n + 1
    have h : r.length + 1 ≤ n := h
    by_cases e : g = f
    · rw [if_pos e, List.length_cons]
      omega
    · rw [if_neg e, List.length_cons]
      have ih := len_putF (f := f) (v := v) (fs := r) (n := n - 1) (by omega)
      omega
/-! ### data of scalars and tuples -/
mutual
inductive Dt (H : Hp) : V → PyData → Prop
  | non : Dt H .non .none
  | bl (b : Bool) : Dt H (.bl b) (.bool b)
  | int (i : Int) : Dt H (.int i) (.int i)
  | str (x : Str) : Dt H (.str x) (.str x)
  | tup {a : Addr} {xs : List V} {ds : List PyData} : H a = some (.tup xs) → DtAll H xs ds → Dt H (.ref a) (.tuple ds)
inductive DtAll (H : Hp) : List V → List PyData → Prop
  | nil : DtAll H [] []
  | cons {v : V} {vs : List V} {d : PyData} {ds : List PyData} : Dt H v d → DtAll H vs ds → DtAll H (v :: vs) (d :: ds)
end
/-- tuples stand -/
def KeepT (H H' : Hp) : Prop := ∀ a xs, H a = some (.tup xs) → H' a = some (.tup xs)
theorem KeepT.of {H H' : Hp} (s : Same H H') : KeepT H H' := fun a xs h => s a _ h
theorem KeepT.refl (H : Hp) : KeepT H H := fun _ _ h => h
theorem KeepT.trans {H H1 H2 : Hp} (a : KeepT H H1) (b : KeepT H1 H2) : KeepT H H2 := fun x xs h => b x xs (a x xs h)
/-- an object that is no tuple is written -/
theorem KeepT.up {H : Hp} {p : Addr} {o o' : HO} (h : H p = some o) (n : ∀ xs, o ≠ .tup xs) : KeepT H (upd H p o') := fun a xs e => by
  have ne : a ≠ p := fun z => by
    rw [z, h] at e
    exact n xs (Option.some.inj e)
  rw [upd_ne ne]
  exact e
mutual
theorem Dt.mono {H H' : Hp} (k : KeepT H H') : ∀ {v : V} {d : PyData}, Dt H v d → Dt H' v d
  | _, _, .non => .non
  | _, _, .bl b => .bl b
  | _, _, .int i => .int i
  | _, _, .str x => .str x
  | _, _, .tup h t => .tup (k _ _ h) (DtAll.mono k t)
theorem DtAll.mono {H H' : Hp} (k : KeepT H H') : ∀ {vs : List V} {ds : List PyData}, DtAll H vs ds → DtAll H' vs ds
  | _, _, .nil => .nil
  | _, _, .cons h t => .cons (Dt.mono k h) (DtAll.mono k t)
end
mutual
theorem Dt.dp {K : PySem.W.Frag} {H : Hp} : ∀ {v : V} {d : PyData}, Dt H v d → Dp K H v d
  | _, _, .non => .non
  | _, _, .bl b => .bl b
  | _, _, .int i => .int i
  | _, _, .str x => .str x
  | _, _, .tup h t => .tup (.inl (.inl h)) (DtAll.dp t)
theorem DtAll.dp {K : PySem.W.Frag} {H : Hp} : ∀ {vs : List V} {ds : List PyData}, DtAll H vs ds → DpAll K H vs ds
  | _, _, .nil => .nil
  | _, _, .cons h t => .cons (Dt.dp h) (DtAll.dp t)
end
theorem DtAll.length {H : Hp} : ∀ {vs : List V} {ds : List PyData}, DtAll H vs ds → vs.length = ds.length
  | _, _, .nil => rfl
  | _, _, .cons _ t => congrArg Nat.succ (DtAll.length t)
theorem DtAll.append {H : Hp} : ∀ {vs ws : List V} {ds es : List PyData}, DtAll H vs ds → DtAll H ws es → DtAll H (vs ++ ws) (ds ++ es)
  | _, _, _, _, .nil, b => b
  | _, _, _, _, .cons h t, b => .cons h (DtAll.append t b)
theorem DtAll.get {H : Hp} : ∀ {vs : List V} {ds : List PyData} {i : Nat} {v : V}, DtAll H vs ds → vs[i]? = some v → ∃ d, ds[i]? = some d ∧ Dt H v d
  | _, _, 0, _, .cons h _, e => ⟨_, rfl, by simp at e; subst e; exact h⟩
  | _, _, i + 1, v, .cons _ t, e => by
    obtain ⟨d, h1, h2⟩ := DtAll.get (i := i) (v := v) t (by simpa using e)
    exact ⟨d, by simpa using h1, h2⟩
  | _, _, _, _, .nil, e => by simp at e
theorem Dt.str_inv {H : Hp} {v : V} {x : Str} (h : Dt H v (.str x)) : v = .str x := by
  cases h
  rfl
theorem Dt.int_inv {H : Hp} {v : V} {x : Int} (h : Dt H v (.int x)) : v = .int x := by
  cases h
  rfl
theorem Dt.none_inv {H : Hp} {v : V} (h : Dt H v .none) : v = .non := by
  cases h
  rfl
theorem Dt.tup_inv {H : Hp} {v : V} {ds : List PyData} (h : Dt H v (.tuple ds)) : ∃ a xs, v = .ref a ∧ H a = some (.tup xs) ∧ DtAll H xs ds := by
  cases h with
  | tup h t => exact ⟨_, _, rfl, h, t⟩
theorem DtAll.nil_inv {H : Hp} {vs : List V} (h : DtAll H vs []) : vs = [] := by
  cases h
  rfl
theorem DtAll.cons_inv {H : Hp} {vs : List V} {d : PyData} {ds : List PyData} (h : DtAll H vs (d :: ds)) : ∃ v r, vs = v :: r ∧ Dt H v d ∧ DtAll H r ds := by
  cases h with
  | cons h t => exact ⟨_, _, rfl, h, t⟩
theorem DtAll.strs_inv {H : Hp} : ∀ {vs : List V} {xs : List Str}, DtAll H vs (xs.map PyData.str) → vs = xs.map V.str
  | _, [], h => DtAll.nil_inv h
  | _, x :: r, h => by
    obtain ⟨v, w, rfl, h1, h2⟩ := DtAll.cons_inv h
    rw [Dt.str_inv h1, DtAll.strs_inv h2]
    rfl
theorem DtAll.strs {H : Hp} : ∀ (xs : List Str), DtAll H (xs.map V.str) (xs.map PyData.str)
  | [] => .nil
  | x :: r => .cons (.str x) (DtAll.strs r)
/-! ### a comprehension whose items are such data -/
def EltP (g : TG) (tt : TT) (te : TE) (vs : List Nat) (σ : L2.St) (x : V) (H : Hp) (P : Option V → Hp → Prop) : Prop :=
  g x (wipe σ vs) H fun σ2 H2 => wipe σ2 vs = wipe σ vs ∧ tt σ2 H2 fun b H3 => if b = true then te σ2 H3 fun y H4 => P (some y) H4 else P none H3
def IsOD (H : Hp) : Option V → Option PyData → Prop
  | some y, some d => Dt H y d
  | none, none => True
  | _, _ => False
theorem lc_dt {J : It} {n : Nat} {G : Hp → Prop} {Y : Nat → Hp → V → Hp → Prop} (w : Walk J n G Y) {g : TG} {tt : TT} {te : TE} {vs : List Nat} {σ : L2.St} {H : Hp} {Q : VK} (f : Nat → Option PyData) (hn : n ≤ 1000000)
    (hG : ∀ H', Same H H' → G H') (hY : ∀ i H1 x H2, Y i H1 x H2 → Same H1 H2)
    (hs : ∀ i x H1 H2 (P : Option V → Hp → Prop), i < n → Same H H1 → Y i H1 x H2 → (∀ o H3, Same H2 H3 → IsOD H3 o (f i) → P o H3) → EltP g tt te vs σ x H2 P)
    (hd : ∀ D H' ys, H D = none → Same H H' → H' D = some (.lst ys) → DtAll H' ys ((List.range n).filterMap f) → Q (.ref D) H') : LcB J g tt te vs σ H Q := by
  intro D hD
  have s0 : Same H (upd H D (.lst [])) := Same.nw hD
  refine lc_it w (fun i H' => Same H H' ∧ ∃ ys, H' D = some (.lst ys) ∧ ys.length ≤ i ∧ DtAll H' ys ((List.range i).filterMap f)) ⟨s0, [], upd_same, Nat.le_refl _, .nil⟩ (fun i H' _ p => hG H' p.1) ?_ ?_
  · rintro i x H1 H2 hi ⟨s1, ys, hys, hl, hD1⟩ y
    have s12 := hY i H1 x H2 y
    refine hs i x H1 H2 (fun o H3 => (match o with
      | some y => ∃ acc, H3 D = some (.lst acc) ∧ acc.length < sizeLine ∧ (Same H (upd H3 D (.lst (acc ++ [y]))) ∧ ∃ ys, upd H3 D (.lst (acc ++ [y])) D = some (.lst ys) ∧ ys.length ≤ i + 1 ∧ DtAll (upd H3 D (.lst (acc ++ [y]))) ys ((List.range (i + 1)).filterMap f))
      | none => Same H H3 ∧ ∃ ys, H3 D = some (.lst ys) ∧ ys.length ≤ i + 1 ∧ DtAll H3 ys ((List.range (i + 1)).filterMap f))) hi s1 y ?_
    intro o H3 s23 ho
    have s13 : Same H1 H3 := Same.trans s12 s23
    have h3 : H3 D = some (.lst ys) := s13 _ _ hys
    have d3 : DtAll H3 ys ((List.range i).filterMap f) := hD1.mono (.of s13)
    cases o with
    | some z =>
      cases e : f i with
      | none =>
        rw [e] at ho
        exact ho.elim
      | some d =>
        rw [e] at ho
        have ku : KeepT H3 (upd H3 D (.lst (ys ++ [z]))) := KeepT.up h3 (fun _ z => by cases z)
        refine ⟨ys, h3, ?_, ?_, ys ++ [z], upd_same, ?_, ?_⟩
        · have : (1000000 : Nat) < sizeLine := by decide
          omega
        · intro b o q
          rw [upd_ne (ne_of_none q hD)]
          exact s13 _ _ (s1 _ _ q)
        · rw [List.length_append, List.length_singleton]
          omega
        · rw [List.range_succ, List.filterMap_append]
          refine DtAll.append (d3.mono ku) ?_
          simp only [List.filterMap_cons, List.filterMap_nil, e]
          exact .cons (Dt.mono ku ho) .nil
    | none =>
      cases e : f i with
      | some d =>
        rw [e] at ho
        exact ho.elim
      | none =>
        refine ⟨Same.trans s1 s13, ys, h3, by omega, ?_⟩
        rw [List.range_succ, List.filterMap_append]
        simp only [List.filterMap_cons, List.filterMap_nil, e, List.append_nil]
        exact d3
  · rintro H' ⟨s1, ys, hys, hl, hD1⟩
    exact hd D H' ys hD s1 hys hD1
end RX
namespace RX
open PySem PySem.Spec PyProof.Rows L2
/-- a test that only reads, then the two ways -/
theorem rd_tst {c : TT} {t u : TS} {D : Ends} {σ : L2.St} {H : Hp} (b : Bool) (ht : ∀ QB : Bool → Hp → Prop, QB b H → c σ H QB) (h1 : b = true → t D σ H) (h2 : b = false → u D σ H) : tIfS c t u D σ H :=
  ht (fun b H1 => if b = true then t D σ H1 else u D σ H1) (rd_ite h1 h2)
/-- a value that only is read -/
theorem rd_val {t : TE} {σ : L2.St} {H : Hp} {Q : VK} (v : V) (ht : ∀ Q : VK, Q v H → t σ H Q) (h : Q v H) : t σ H Q := ht Q h
theorem str_len (t : Str) : t.length = t.cps.toList.length := by
  show t.cps.size = t.cps.toList.length
  rw [Array.length_toList]
end RX
namespace RX
open PySem PySem.Spec PyProof.Rows L2
theorem DtAll.bls_inv {H : Hp} : ∀ {vs : List V} {xs : List Bool}, DtAll H vs (xs.map PyData.bool) → vs = xs.map V.bl
  | _, [], h => DtAll.nil_inv h
  | _, x :: r, h => by
    obtain ⟨v, w, rfl, h1, h2⟩ := DtAll.cons_inv h
    rw [DtAll.bls_inv h2]
    cases h1
    rfl
theorem range_fm {α β : Type} (g : α → β) (l : List α) : (List.range l.length).filterMap (fun i => (l[i]?).map g) = l.map g := by
  induction l with
  | nil => rfl
  | cons a r ih =>
    rw [List.length_cons, List.range_succ_eq_map, List.filterMap_cons, List.filterMap_map]
    simp only [List.getElem?_cons_zero, Option.map_some, List.map_cons]
    congr 1
theorem cps_get (t : Str) (i : Nat) : t.cps[i]? = t.cps.toList[i]? := by simp
theorem same_at {Y : Nat → Hp → V → Hp → Prop} (h : ∀ i H x H', Y i H x H' → H' = H) : ∀ i H1 x H2, Y i H1 x H2 → Same H1 H2 := fun i H1 x H2 y => by
  rw [h i H1 x H2 y]
  exact Same.refl _
/-- over a text -/
theorem lc_text {K : PySem.W.Frag} {t : Str} {g : TG} {tt : TT} {te : TE} {vs : List Nat} {σ : L2.St} {H : Hp} {Q : VK} (f : Nat → Option PyData) (hn : t.length ≤ 1000000)
    (hs : ∀ c H1 (P : Option V → Hp → Prop), c ∈ t.cps.toList → Same H H1 → (∀ o H3, Same H1 H3 → IsOD H3 o (f c) → P o H3) → EltP g tt te vs σ (.str ⟨#[c]⟩) H1 P)
    (hd : ∀ D H' ys, H D = none → Same H H' → H' D = some (.lst ys) → DtAll H' ys (t.cps.toList.filterMap f) → Q (.ref D) H') : LcB (Its t) g tt te vs σ H Q := by
  have e : (List.range t.cps.size).filterMap (fun i => (t.cps.toList[i]?).bind f) = t.cps.toList.filterMap f := by
    have h := range_fm (id : Nat → Nat) t.cps.toList
    rw [List.map_id] at h
    conv => rhs; rw [← h]
    rw [List.filterMap_filterMap, Array.length_toList]
    simp
  refine lc_dt walk_str (fun i => (t.cps.toList[i]?).bind f) (by rw [str_len, Array.length_toList] at hn; exact hn) (fun _ _ => trivial) (same_at fun i H x H' y => y.1) (fun i x H1 H2 P hi s1 y k => ?_) (fun D H' ys nD s h d => hd D H' ys nD s h (by rw [← e]; exact d))
  obtain ⟨rfl, c, hc, rfl⟩ := y
  have hc' : t.cps.toList[i]? = some c := by rw [← cps_get]; exact hc
  refine hs c _ P (List.mem_of_getElem? hc') s1 fun o H3 s3 io => k o H3 s3 ?_
  rw [hc']
  exact io
/-- over a list or a tuple of such data -/
theorem lc_seq {J : It} {G : Hp → Prop} {xs : List V} {ds : List PyData} (w : Walk J xs.length G (YAt xs)) {g : TG} {tt : TT} {te : TE} {vs : List Nat} {σ : L2.St} {H : Hp} {Q : VK} (hx : DtAll H xs ds) (f : PyData → Option PyData) (hn : ds.length ≤ 1000000)
    (hG : ∀ H', Same H H' → G H')
    (hs : ∀ d x H1 (P : Option V → Hp → Prop), d ∈ ds → Dt H1 x d → Same H H1 → (∀ o H3, Same H1 H3 → IsOD H3 o (f d) → P o H3) → EltP g tt te vs σ x H1 P)
    (hd : ∀ D H' ys, H D = none → Same H H' → H' D = some (.lst ys) → DtAll H' ys (ds.filterMap f) → Q (.ref D) H') : LcB J g tt te vs σ H Q := by
  have hl := hx.length
  have e : (List.range xs.length).filterMap (fun i => (ds[i]?).bind f) = ds.filterMap f := by
    have h := range_fm (id : PyData → PyData) ds
    rw [List.map_id] at h
    conv => rhs; rw [← h]
    rw [List.filterMap_filterMap, hl]
    simp
  refine lc_dt w (fun i => (ds[i]?).bind f) (by rw [hl]; exact hn) hG (same_at fun i H x H' y => y.1) (fun i x H1 H2 P hi s1 y k => ?_) (fun D H' ys nD s h d => hd D H' ys nD s h (by rw [← e]; exact d))
  obtain ⟨rfl, hxi⟩ := y
  obtain ⟨d, hd1, hd2⟩ := hx.get hxi
  refine hs d x _ P (List.mem_of_getElem? hd1) (hd2.mono (.of s1)) s1 fun o H3 s3 io => k o H3 s3 ?_
  rw [hd1]
  exact io
end RX
namespace RX
theorem iteNT {A B : Prop} (h : B) : if (!true) = true then A else B := L2.iteF h
theorem iteNF {A B : Prop} (h : A) : if (!false) = true then A else B := L2.iteT h
end RX
namespace RX
open L2
theorem at_j {α : Type} {xs : List α} {v : α} {z : Int} (j : Nat) (e : z = (j : Int)) (h : xs[j]? = some v) : atI xs z = some v := by
  rw [e]
  exact atI_nat h
end RX
namespace RX
open PySem PySem.Spec PyProof.Rows L2
/-! ### own exceptions of one field, of two -/
def spX1 (C : Addr) (f : Str) : Sp := fun vs H Q _ => ∃ (a : Addr) (n : V), vs = [.ref a, n] ∧ H a = some (exo a C none) ∧ ∀ d, H d = none → d ≠ a → Q .non (upd (upd H d (exd d [(f, n)])) a (exo a C (some d)))
def spX2 (C : Addr) (f g : Str) : Sp := fun vs H Q _ => ∃ (a : Addr) (n m : V), vs = [.ref a, n, m] ∧ H a = some (exo a C none) ∧ ∀ d, H d = none → d ≠ a → Q .non (upd (upd (upd H d (exd d [(f, n)])) a (exo a C (some d))) d (exd d [(g, m), (f, n)]))
def spX3 (C : Addr) (f g k : Str) : Sp := fun vs H Q _ => ∃ (a : Addr) (n m l : V), vs = [.ref a, n, m, l] ∧ H a = some (exo a C none) ∧ ∀ d, H d = none → d ≠ a → Q .non (upd (upd (upd (upd H d (exd d [(f, n)])) a (exo a C (some d))) d (exd d [(g, m), (f, n)])) d (exd d [(k, l), (g, m), (f, n)]))
/-- what is raised, from a heap on -/
def Rz (H : Hp) (E : XK) (C : Addr) (fs : List (Str × V)) : Prop := ∀ d H', Same H H' → H' d = some (.xd fs) → E (.ref C) (some d) H'
theorem Rz.mono {H H' : Hp} {E : XK} {C : Addr} {fs : List (Str × V)} (h : Rz H E C fs) (s : Same H H') : Rz H' E C fs := fun d H2 s2 e => h d H2 (Same.trans s s2) e
def MkO (C : Addr) (sp : Sp) (vs : List V) (H1 : Hp) (Q : XK) : Prop := vs.length ≤ 1000 ∧ ∀ a, H1 a = none → sp (.ref a :: (vs ++ [])) (upd H1 a (exo a C none))
  (fun v H2 => v = .non ∧ ∃ (d : Addr) (fs : List (Str × V)), H2 a = some (exo a C (some d)) ∧ H2 d = some (exd d fs) ∧ H1 d = none ∧ Q (.ref C) (some d) (upd (del H2 a) d (.xd fs))) (fun _ _ _ => False)
section
variable {C : Addr} {f g k : Str} {t : TA} {σ : L2.St} {H : Hp} {Q : XK} {sp : Sp} {n m l : V}
theorem rd_mkO (h : t σ H fun vs H1 => MkO C sp vs H1 Q) : tMkO C sp [] t σ H Q := h
theorem mkO_end {H H2 : Hp} {a d : Addr} {fs : List (Str × V)} (ha : H a = none) (hd : H d = none) (hda : d ≠ a) (k : ∀ b, b ≠ a → b ≠ d → H2 b = H b) (h : Rz H Q C fs) : Q (.ref C) (some d) (upd (del H2 a) d (.xd fs)) := by
  refine h d _ (fun b o e => ?_) upd_same
  have nd : b ≠ d := ne_of_none e hd
  have na : b ≠ a := ne_of_none e ha
  rw [upd_ne nd, del_ne na, k b na nd]
  exact e
theorem mkX1 (h : Rz H Q C [(f, n)]) : MkO C (spX1 C f) [n] H Q := by
  refine ⟨by show 1 ≤ 1000; decide, fun a ha => ⟨a, n, rfl, upd_same, fun d hd hda => ⟨rfl, d, [(f, n)], upd_same, ?_, ?_, ?_⟩⟩⟩
  · rw [upd_ne hda, upd_same]
  · rw [upd_ne hda] at hd
    exact hd
  · rw [upd_ne hda] at hd
    refine mkO_end ha hd hda (fun b na nd => ?_) h
    rw [upd_ne na, upd_ne nd, upd_ne na]
theorem mkX2 (h : Rz H Q C [(g, m), (f, n)]) : MkO C (spX2 C f g) [n, m] H Q := by
  refine ⟨by show 2 ≤ 1000; decide, fun a ha => ⟨a, n, m, rfl, upd_same, fun d hd hda => ⟨rfl, d, [(g, m), (f, n)], ?_, upd_same, ?_, ?_⟩⟩⟩
  · rw [upd_ne (Ne.symm hda), upd_same]
  · rw [upd_ne hda] at hd
    exact hd
  · rw [upd_ne hda] at hd
    refine mkO_end ha hd hda (fun b na nd => ?_) h
    rw [upd_ne nd, upd_ne na, upd_ne nd, upd_ne na]
theorem mkX3 (h : Rz H Q C [(k, l), (g, m), (f, n)]) : MkO C (spX3 C f g k) [n, m, l] H Q := by
  refine ⟨by show 3 ≤ 1000; decide, fun a ha => ⟨a, n, m, l, rfl, upd_same, fun d hd hda => ⟨rfl, d, [(k, l), (g, m), (f, n)], ?_, upd_same, ?_, ?_⟩⟩⟩
  · rw [upd_ne (Ne.symm hda), upd_ne (Ne.symm hda), upd_same]
  · rw [upd_ne hda] at hd
    exact hd
  · rw [upd_ne hda] at hd
    refine mkO_end ha hd hda (fun b na nd => ?_) h
    rw [upd_ne nd, upd_ne nd, upd_ne na, upd_ne nd, upd_ne na]
/-- self.f = e of an exception, the first field; a further one -/
def OstAt (K : PySem.W.Frag) (f : Str) (x y : V) (H2 : Hp) (N : Hp → Prop) : Prop := ∃ a C : Addr, x = .ref a ∧ OexC K C ∧ PySem.W.findIn K (.ref C) f = some none ∧
  ((H2 a = some (exo a C none) ∧ ∀ dx, H2 dx = none → dx ≠ a → N (upd (upd H2 dx (exd dx [(f, y)])) a (exo a C (some dx)))) ∨
    ∃ (dx : Addr) (fs : List (Str × V)), H2 a = some (exo a C (some dx)) ∧ H2 dx = some (exd dx fs) ∧ fs.length ≤ 900 ∧ N (upd H2 dx (exd dx ((f, y) :: fs))))
theorem rd_ost {K : PySem.W.Frag} {to te : TE} {D : Ends} (h : te σ H fun y H1 => to σ H1 fun x H2 => OstAt K f x y H2 (D.nx σ)) : tOst K f to te D σ H := h
theorem ost1 {K : PySem.W.Frag} {a : Addr} {y : V} {N : Hp → Prop} (T : OexC K C) (hn : NoAttr K C f) (ha : H a = some (exo a C none)) (h : ∀ dx, H dx = none → dx ≠ a → N (upd (upd H dx (exd dx [(f, y)])) a (exo a C (some dx)))) : OstAt K f (.ref a) y H N := ⟨a, C, rfl, T, hn, .inl ⟨ha, h⟩⟩
theorem ost2 {K : PySem.W.Frag} {a dx : Addr} {y : V} {fs : List (Str × V)} {N : Hp → Prop} (T : OexC K C) (hn : NoAttr K C f) (ha : H a = some (exo a C (some dx))) (hd : H dx = some (exd dx fs)) (hl : fs.length ≤ 900) (h : N (upd H dx (exd dx ((f, y) :: fs)))) : OstAt K f (.ref a) y H N := ⟨a, C, rfl, T, hn, .inr ⟨dx, fs, ha, hd, hl, h⟩⟩
end
/-! ### a for over texts, each looked at, the first bad one refused -/
theorem SqT.same {K : PySem.W.Frag} {H H' : Hp} {a : Addr} {xs : List V} (e : Same H H') (h : SqT K H a xs) : SqT K H' a xs := by
  rcases h with (h | ⟨o, h⟩) | h
  · exact .inl (.inl (e _ _ h))
  · exact .inl (.inr ⟨o, e _ _ h⟩)
  · exact .inr h
/-- a sequence: a list or a tuple -/
def SqA (K : PySem.W.Frag) (H : Hp) (a : Addr) (xs : List V) : Prop := SqL K H a xs ∨ SqT K H a xs
theorem SqA.same {K : PySem.W.Frag} {H H' : Hp} {a : Addr} {xs : List V} (e : Same H H') (h : SqA K H a xs) : SqA K H' a xs := h.imp (Same.seq e) (SqT.same e)
/-- the for over it, by an invariant -/
theorem for_seq {K : PySem.W.Frag} {a : Addr} {xs : List V} {g : TG} {tb : TS} {D : Ends} {σ : L2.St} {H : Hp} (hq : SqA K H a xs) (Pv : Nat → L2.St → Hp → Prop) (h0 : Pv 0 σ H)
    (hs : (SqL K H a xs → ∀ i σ H', i ≤ xs.length → Pv i σ H' → SqL K H' a xs) ∧ (SqT K H a xs → ∀ i σ H', i ≤ xs.length → Pv i σ H' → SqT K H' a xs))
    (ht : ∀ i x σ H', xs[i]? = some x → Pv i σ H' → g x σ H' fun σ2 H2 => tb { D with nx := Pv (i + 1), ct := Pv (i + 1), bk := D.nx } σ2 H2) (hd : ∀ σ H', Pv xs.length σ H' → D.nx σ H') :
    SeqIt K (.ref a) H fun J H1 => ∃ W : Nat → Nat → L2.St → Hp → Prop, (∃ m, W 0 m σ H1) ∧ ∀ i m σ H, W i m σ H →
      (J.stop i H ∧ D.nx σ H) ∨ (J.go i H ∧ ∃ N : L2.St → Hp → Prop, (∀ σ' H', N σ' H' → ∃ m', m' < m ∧ W (i + 1) m' σ' H') ∧ ∀ x H', J.yld i H x H' → g x σ H' fun σ2 H2 => tb { D with nx := N, ct := N, bk := D.nx } σ2 H2) := by
  rcases hq with hq | hq
  · exact .inl ⟨xs, hq, for_list (K := K) Pv h0 (hs.1 hq) ht hd⟩
  · exact .inr ⟨xs, hq, for_tup (K := K) Pv h0 (hs.2 hq) ht hd⟩
/-- the same where all that a heap below knows is kept -/
theorem for_seqB {K : PySem.W.Frag} {a : Addr} {xs : List V} {g : TG} {tb : TS} {D : Ends} {σ : L2.St} {H0 H : Hp} (hq : SqA K H0 a xs) (Pv : Nat → L2.St → Hp → Prop) (s0 : Same H0 H) (h0 : Pv 0 σ H)
    (hs : ∀ i σ H', i ≤ xs.length → Pv i σ H' → Same H0 H')
    (ht : ∀ i x σ H', xs[i]? = some x → Pv i σ H' → g x σ H' fun σ2 H2 => tb { D with nx := Pv (i + 1), ct := Pv (i + 1), bk := D.nx } σ2 H2) (hd : ∀ σ H', Pv xs.length σ H' → D.nx σ H') :
    SeqIt K (.ref a) H fun J H1 => ∃ W : Nat → Nat → L2.St → Hp → Prop, (∃ m, W 0 m σ H1) ∧ ∀ i m σ H, W i m σ H →
      (J.stop i H ∧ D.nx σ H) ∨ (J.go i H ∧ ∃ N : L2.St → Hp → Prop, (∀ σ' H', N σ' H' → ∃ m', m' < m ∧ W (i + 1) m' σ' H') ∧ ∀ x H', J.yld i H x H' → g x σ H' fun σ2 H2 => tb { D with nx := N, ct := N, bk := D.nx } σ2 H2) := by
  rcases hq with hq | hq
  · exact .inl ⟨xs, Same.seq s0 hq, for_list (K := K) Pv h0 (fun i σ H' hi p => Same.seq (hs i σ H' hi p) hq) ht hd⟩
  · exact .inr ⟨xs, SqT.same s0 hq, for_tup (K := K) Pv h0 (fun i σ H' hi p => SqT.same (hs i σ H' hi p) hq) ht hd⟩
/-- what it leans on stands: H0 below, kept -/
theorem for_keep {K : PySem.W.Frag} {a : Addr} {xs : List V} {H0 H : Hp} {n : Nat} {Pv : Nat → L2.St → Hp → Prop} (s : Same H0 H) (hq : SqA K H0 a xs) (h : ∀ i σ H', i ≤ n → Pv i σ H' → Same H0 H') :
    SqA K H a xs ∧ True := ⟨hq.same s, trivial⟩
theorem rd_for {wi : TI} {g : TG} {tb : TS} {D : Ends} {σ : L2.St} {H : Hp} (h : wi σ H fun J H1 => ∃ W : Nat → Nat → L2.St → Hp → Prop, (∃ m, W 0 m σ H1) ∧ ∀ i m σ H, W i m σ H →
      (J.stop i H ∧ D.nx σ H) ∨ (J.go i H ∧ ∃ N : L2.St → Hp → Prop, (∀ σ' H', N σ' H' → ∃ m', m' < m ∧ W (i + 1) m' σ' H') ∧ ∀ x H', J.yld i H x H' → g x σ H' fun σ2 H2 => tb { D with nx := N, ct := N, bk := D.nx } σ2 H2)) : tFor wi g tb D σ H := h
end RX
namespace RX
open PySem L2
theorem putK_length {κ : Type} [DecidableEq κ] {k : κ} {v : V} (kvs : List (κ × V)) : (putK kvs k v).length ≤ kvs.length + 1 := by
  unfold putK
  split
  · rw [List.length_map]; omega
  · rw [List.length_append, List.length_singleton]; omega
theorem le_size {n : Nat} (h : n ≤ 1000000) : n ≤ sizeLine := Nat.le_trans h (by decide)
theorem lt_size {n : Nat} (h : n < 1000000) : n < sizeLine := Nat.lt_of_lt_of_le h (by decide)
theorem get_map {α : Type} {l : List α} {f : α → V} {i : Nat} {y : V} (hi : (l.map f)[i]? = some y) : ∃ x, l[i]? = some x ∧ y = f x := by
  rw [List.getElem?_map] at hi
  cases e : l[i]? with
  | none => rw [e] at hi; cases hi
  | some x => rw [e] at hi; exact ⟨x, rfl, (Option.some.inj hi).symm⟩
theorem take_succ_of {α : Type} {l : List α} {i : Nat} {x : α} (h : l[i]? = some x) : l.take (i + 1) = l.take i ++ [x] := by rw [List.take_add_one, h]; rfl
/-- the first that is found, behind a part without any -/
theorem find_at {α : Type} {p : α → Bool} {l : List α} {i : Nat} {x : α} (h : l[i]? = some x) (hn : (l.take i).find? p = none) (hp : p x = true) : l.find? p = some x := by
  have e2 : l = l.take i ++ ([x] ++ l.drop (i + 1)) := by rw [← List.append_assoc, ← take_succ_of h, List.take_append_drop]
  rw [e2, List.find?_append, hn, List.find?_append]
  simp [hp]
theorem find_more {α : Type} {p : α → Bool} {l : List α} {i : Nat} {x : α} (h : l[i]? = some x) (hn : (l.take i).find? p = none) (hp : p x = false) : (l.take (i + 1)).find? p = none := by
  rw [take_succ_of h, List.find?_append, hn]
  simp [hp]
theorem find_all {α : Type} {p : α → Bool} {l : List α} {n : Nat} (e : n = l.length) (hn : (l.take n).find? p = none) : l.find? p = none := by
  rw [e, List.take_length] at hn
  exact hn
end RX
namespace RX
open PySem PySem.Spec PyProof.Rows L2
section
variable {σ : L2.St} {H : Hp} {Q : VK} {ty td tv : TE} {D : Ends}
theorem rd_dnew (h : Nw H (.dK []) Q) : tDNewK σ H Q := h
theorem rd_dnewT (h : Nw H (.dT []) Q) : tDNewT σ H Q := h
def DinA (neg : Bool) (y x : V) (H2 : Hp) (Q : VK) : Prop := ∃ a o, x = .ref a ∧ DGet H2 a y o ∧ Q (.bl (if neg then !o.isSome else o.isSome)) H2
theorem rd_din (h : ty σ H fun y H1 => td σ H1 fun x H2 => DinA false y x H2 Q) : tDIn ty td σ H Q := h
theorem rd_dnin (h : ty σ H fun y H1 => td σ H1 fun x H2 => DinA true y x H2 Q) : tDNotIn ty td σ H Q := h
theorem dinS {a : Addr} {kvs : List (Key × V)} {x : Str} (hd : H a = some (.dK kvs)) (h : Q (.bl (valV kvs (Sum.inr x)).isSome) H) : DinA false (.str x) (.ref a) H Q := ⟨a, _, rfl, DGet.k (k := Sum.inr x) hd, h⟩
theorem dninS {a : Addr} {kvs : List (Key × V)} {x : Str} (hd : H a = some (.dK kvs)) (h : Q (.bl (!(valV kvs (Sum.inr x)).isSome)) H) : DinA true (.str x) (.ref a) H Q := ⟨a, _, rfl, DGet.k (k := Sum.inr x) hd, h⟩
def DputA (v x y : V) (H3 : Hp) (N : Hp → Prop) : Prop := ∃ a H4, x = .ref a ∧ DPut H3 a y v H4 ∧ N H4
theorem rd_dput (h : tv σ H fun v H1 => td σ H1 fun x H2 => ty σ H2 fun y H3 => DputA v x y H3 (D.nx σ)) : sDPut td ty tv D σ H := h
theorem dputS {a : Addr} {kvs : List (Key × V)} {x : Str} {v : V} {N : Hp → Prop} (hd : H a = some (.dK kvs)) (hl : kvs.length < 1000000) (h : N (upd H a (.dK (putK kvs (Sum.inr x) v)))) : DputA v (.ref a) (.str x) H N := ⟨a, _, rfl, DPut.k (k := Sum.inr x) hd (lt_size hl), h⟩
end
/-- an object that the older heap does not know is written -/
theorem Same.up {H H' : Hp} {p : Addr} {o : HO} (e : Same H H') (h : H p = none) : Same H (upd H' p o) := fun b u hb => by
  rw [upd_ne (ne_of_none hb h)]
  exact e b u hb
end RX
namespace RX
open PySem PySem.Spec PyProof.Rows L2
theorem DtAll.get_map {α : Type} {enc : α → PyData} {H : Hp} {vs : List V} {xs : List α} {i : Nat} {v : V} (h : DtAll H vs (xs.map enc)) (e : vs[i]? = some v) : ∃ x, xs[i]? = some x ∧ Dt H v (enc x) := by
  obtain ⟨d, h1, h2⟩ := h.get e
  rw [List.getElem?_map] at h1
  cases q : xs[i]? with
  | none => rw [q] at h1; cases h1
  | some x => rw [q] at h1; cases h1; exact ⟨x, rfl, h2⟩
theorem rd_elt {g : TG} {tt : TT} {te : TE} {vs : List Nat} {σ σ' : L2.St} {x : V} {H : Hp} {P : Option V → Hp → Prop} (e : wipe σ vs = σ') (h : g x σ' H fun σ2 H2 => wipe σ2 vs = σ' ∧ tt σ2 H2 fun b H3 => if b = true then te σ2 H3 fun y H4 => P (some y) H4 else P none H3) : EltP g tt te vs σ x H P := by
  unfold EltP
  rw [e]
  exact h
end RX
namespace RX
open PySem PySem.Spec PyProof.Rows L2
/-- over a list or a tuple of such data that stands for a list, each item mapped -/
theorem lc_map {J : It} {G : Hp → Prop} {xs : List V} {α : Type} {l : List α} {enc f : α → PyData} (w : Walk J xs.length G (YAt xs)) {g : TG} {tt : TT} {te : TE} {vs : List Nat} {σ : L2.St} {H : Hp} {Q : VK} (hx : DtAll H xs (l.map enc)) (hn : l.length ≤ 1000000)
    (hG : ∀ H', Same H H' → G H')
    (hs : ∀ c x H1 (P : Option V → Hp → Prop), c ∈ l → Dt H1 x (enc c) → Same H H1 → (∀ y H3, Same H1 H3 → Dt H3 y (f c) → P (some y) H3) → EltP g tt te vs σ x H1 P)
    (hd : ∀ D H' ys, H D = none → Same H H' → H' D = some (.lst ys) → DtAll H' ys (l.map f) → Q (.ref D) H') : LcB J g tt te vs σ H Q := by
  have hl : xs.length = l.length := by rw [hx.length, List.length_map]
  have e : (List.range xs.length).filterMap (fun i => (l[i]?).map f) = l.map f := by
    have h := range_fm f l
    rw [hl]
    exact h
  refine lc_dt w (fun i => (l[i]?).map f) (by rw [hl]; exact hn) hG (same_at fun i H x H' y => y.1) (fun i x H1 H2 P hi s1 y k => ?_) (fun D H' ys nD s h d => hd D H' ys nD s h (by rw [← e]; exact d))
  obtain ⟨rfl, hxi⟩ := y
  obtain ⟨c, hc, hd2⟩ := hx.get_map hxi
  refine hs c x _ P (List.mem_of_getElem? hc) (hd2.mono (.of s1)) s1 fun y H3 s3 io => k (some y) H3 s3 ?_
  rw [hc]
  exact io
end RX
namespace RX
open PySem PySem.Spec PyProof.Rows L2
section
variable {K : PySem.W.Frag} {p a C dx : Addr} {xs : List V} {H H' : Hp}
/-! ### enumerate over a tuple -/
theorem walk_enumT : Walk (Itet K a) xs.length (fun H => SqT K H a xs) (YPair (fun i => some (.int (i : Nat))) (fun i => xs[i]?)) := by
  refine ⟨fun i _ hi q => ⟨xs, xs[i], q, by simp [hi]⟩, fun _ q => ⟨xs, q, Nat.le_refl _⟩, fun i H v H' _ q y => ?_⟩
  obtain ⟨T, x, h1, h2, h3, h4⟩ := y
  exact ⟨T, .int (i : Nat), x, h1, h2, h3, rfl, h4 xs q⟩
theorem rd_enT {ta : TA} {σ : L2.St} {R : It → Hp → Prop} (h : ta σ H fun vs H1 => ∃ a xs, vs = [.ref a] ∧ SqT K H1 a xs ∧ R (Itet K a) H1) : iEnumT K ta σ H R := h
theorem enT {R : It → Hp → Prop} (h1 : SqT K H a xs) (h : R (Itet K a) H) : ∃ b ys, ([.ref a] : List V) = [.ref b] ∧ SqT K H b ys ∧ R (Itet K b) H := ⟨a, xs, rfl, h1, h⟩
/-- its for -/
theorem for_enT {g : TG} {tb : TS} {D : Ends} {σ : L2.St} {H0 H : Hp} (hq : SqT K H0 a xs) (Pv : Nat → L2.St → Hp → Prop) (h0 : Pv 0 σ H)
    (hs : ∀ i σ H', i ≤ xs.length → Pv i σ H' → Same H0 H')
    (ht : ∀ i x T σ H', xs[i]? = some x → Pv i σ H' → H' T = none → g (.ref T) σ (upd H' T (.tup [.int (i : Nat), x])) fun σ2 H2 => tb { D with nx := Pv (i + 1), ct := Pv (i + 1), bk := D.nx } σ2 H2) (hd : ∀ σ H', Pv xs.length σ H' → D.nx σ H') :
    ∃ W : Nat → Nat → L2.St → Hp → Prop, (∃ m, W 0 m σ H) ∧ ∀ i m σ H, W i m σ H →
      ((Itet K a).stop i H ∧ D.nx σ H) ∨ ((Itet K a).go i H ∧ ∃ N : L2.St → Hp → Prop, (∀ σ' H', N σ' H' → ∃ m', m' < m ∧ W (i + 1) m' σ' H') ∧ ∀ x H', (Itet K a).yld i H x H' → g x σ H' fun σ2 H2 => tb { D with nx := N, ct := N, bk := D.nx } σ2 H2) := by
  refine for_it (walk_enumT (K := K) (xs := xs)) Pv h0 (fun i σ H hi p => SqT.same (hs i σ H hi p) hq) (fun i x σ H H' hi p y => ?_) hd
  obtain ⟨T, u, v, rfl, h1, rfl, h2, h3⟩ := y
  cases h2
  exact ht i v T σ H h3 p h1
/-! ### self.f = e -/
def SfldOf (K : PySem.W.Frag) (f : Str) (y x : V) (H2 : Hp) (N : Hp → Prop) : Prop := ∃ a C dx fs, x = .ref a ∧ H2 a = some (.ins C dx fs) ∧ Cls K C ∧ NoAttr K C f ∧ fs.length < 1000 ∧ N (upd H2 a (.ins C dx (putF f y fs)))
theorem rd_sfld {f : Str} {ta tv : TE} {D : Ends} {σ : L2.St} (h : tv σ H fun y H1 => ta σ H1 fun x H2 => SfldOf K f y x H2 (D.nx σ)) : sFld K ta tv f D σ H := h
theorem sfldr {f : Str} {y : V} {fs : List (Str × V)} {N : Hp → Prop} (h1 : H a = some (.ins C dx fs)) (h2 : Cls K C) (h3 : NoAttr K C f) (h4 : fs.length < 1000) (h : N (upd H a (.ins C dx (putF f y fs)))) : SfldOf K f y (.ref a) H N := ⟨a, C, dx, fs, rfl, h1, h2, h3, h4, h⟩
/-! ### texts in a list -/
theorem inV_strs (x : Str) (xs : List Str) : inV (.str x) (xs.map V.str) = decide (x ∈ xs) := by
  unfold inV
  rw [List.any_map, Bool.eq_iff_iff, decide_eq_true_eq, List.any_eq_true]
  constructor
  · rintro ⟨y, hy, e⟩
    have e' : (y == x) = true := e
    rw [beq_iff_eq] at e'
    exact e' ▸ hy
  · intro h
    exact ⟨x, h, (beq_iff_eq (a := x) (b := x)).mpr rfl⟩
theorem rd_inStrs {x : Str} {xs : List Str} {Q : VK} (h1 : SqA K H p (xs.map V.str)) (h : Q (.bl (decide (x ∈ xs))) H) : rInU K false (.str x) (.ref p) H Q :=
  ⟨xs.map V.str, h1, rfl, by rw [List.all_map, List.all_eq_true]; intro y _; rfl, by rw [inV_strs]; exact h⟩
theorem rd_ninStrs {x : Str} {xs : List Str} {Q : VK} (h1 : SqA K H p (xs.map V.str)) (h : Q (.bl (!decide (x ∈ xs))) H) : rInU K true (.str x) (.ref p) H Q :=
  ⟨xs.map V.str, h1, rfl, by rw [List.all_map, List.all_eq_true]; intro y _; rfl, by rw [inV_strs]; exact h⟩
/-! ### all but one object stands -/
def Sb (b : Addr) (H H' : Hp) : Prop := ∀ a o, a ≠ b → H a = some o → H' a = some o
theorem Sb.refl {b : Addr} (H : Hp) : Sb b H H := fun _ _ _ h => h
theorem Sb.of {b : Addr} (s : Same H H') : Sb b H H' := fun a o _ h => s a o h
theorem Sb.trans {b : Addr} {H1 H2 H3 : Hp} (s : Sb b H1 H2) (t : Sb b H2 H3) : Sb b H1 H3 := fun a o n h => t a o n (s a o n h)
theorem Sb.up {b : Addr} {o : HO} (s : Sb b H H') : Sb b H (upd H' b o) := fun a u n h => by rw [upd_ne n]; exact s a u n h
theorem Sb.same {b : Addr} {H0 H1 H2 : Hp} (h : H0 b = none) (s : Same H0 H1) (t : Sb b H1 H2) : Same H0 H2 := fun a o e => t a o (ne_of_none e h) (s a o e)
theorem Sb.keep {b : Addr} {o : HO} (hb : H b = some o) (n : ∀ xs, o ≠ .tup xs) (s : Sb b H H') : KeepT H H' := fun a xs e => s a _ (fun z => by rw [z, hb] at e; exact n xs (Option.some.inj e)) e
/-- what is raised, while b may change -/
def RzX (b : Addr) (H : Hp) (E : XK) (C : Addr) (fs : List (Str × V)) : Prop := ∀ d H', Sb b H H' → H' d = some (.xd fs) → E (.ref C) (some d) H'
theorem RzX.rz {b : Addr} {E : XK} {fs : List (Str × V)} (h : RzX b H E C fs) (s : Sb b H H') : Rz H' E C fs := fun d H2 s2 e => h d H2 (Sb.trans s (Sb.of s2)) e
theorem RzX.mono {b : Addr} {E : XK} {fs : List (Str × V)} (h : RzX b H E C fs) (s : Sb b H H') : RzX b H' E C fs := fun d H2 s2 e => h d H2 (Sb.trans s s2) e
/-- from a heap that does not know b -/
theorem Rz.x {b : Addr} {H0 : Hp} {E : XK} {fs : List (Str × V)} (h : Rz H0 E C fs) (hb : H0 b = none) (s : Same H0 H) : RzX b H E C fs := fun d H2 s2 e => h d H2 (Sb.same hb s s2) e
/-! ### a list is written, ints -/
theorem rd_setL {k : Int} {v : V} {Q : Hp → Prop} {xs : List V} (j : Nat) (h : H p = some (.lst xs)) (hj : ixN xs.length k = some j) (q : Q (upd H p (.lst (xs.set j v)))) : rSetL (.ref p) (.int k) v H Q := ⟨p, xs, k, j, rfl, rfl, h, hj, q⟩
theorem rd_gstore {to ti : TE} {t : TSet} {v : V} {σ : L2.St} {QG : L2.St → Hp → Prop} (h : to σ H fun o H1 => ti σ H1 fun i H2 => t o i v H2 fun H3 => QG σ H3) : gSub to ti t v σ H QG := h
theorem rd_abs {i : Int} {Q : VK} (h : Q (.int (if i < 0 then -i else i)) H) : ∃ j, ([.int i] : List V) = [.int j] ∧ Q (.int (if j < 0 then -j else j)) H := ⟨i, rfl, h⟩
theorem rd_rng1 {ta : TA} {σ : L2.St} {R : It → Hp → Prop} (h : ta σ H fun vs H1 => ∃ j : Int, vs = [.int j] ∧ -(2 ^ 62) ≤ j ∧ j < 2 ^ 62 ∧ R (Itr 0 j.toNat) H1) : iRng1 ta σ H R := h
theorem rng1 {i : Int} {R : It → Hp → Prop} (h1 : -(2 ^ 62) ≤ i) (h2 : i < 2 ^ 62) (h : R (Itr 0 i.toNat) H) : ∃ j : Int, ([.int i] : List V) = [.int j] ∧ -(2 ^ 62) ≤ j ∧ j < 2 ^ 62 ∧ R (Itr 0 j.toNat) H := ⟨i, rfl, h1, h2, h⟩
end
end RX
namespace RX
open PySem PySem.Spec PyProof.Rows L2
theorem lc_mapA {K : PySem.W.Frag} {p : Addr} {xs : List V} {α : Type} {l : List α} {enc f : α → PyData} {g : TG} {tt : TT} {te : TE} {vs : List Nat} {σ : L2.St} {H : Hp} {Q : VK} (hq : SqA K H p xs) (hx : DtAll H xs (l.map enc)) (hn : l.length ≤ 1000000)
    (hs : ∀ c x H1 (P : Option V → Hp → Prop), c ∈ l → Dt H1 x (enc c) → Same H H1 → (∀ y H3, Same H1 H3 → Dt H3 y (f c) → P (some y) H3) → EltP g tt te vs σ x H1 P)
    (hd : ∀ D H' ys, H D = none → Same H H' → H' D = some (.lst ys) → DtAll H' ys (l.map f) → Q (.ref D) H') : SeqIt K (.ref p) H fun J H1 => LcB J g tt te vs σ H1 Q := by
  rcases hq with hq | hq
  · exact rd_itL hq (lc_map walk_list hx hn (fun H' s => Same.seq s hq) hs hd)
  · exact rd_itT hq (lc_map walk_tup hx hn (fun H' s => SqT.same s hq) hs hd)
end RX
namespace RX
open PySem PySem.Spec PyProof.Rows L2
theorem SqA.sb {K : PySem.W.Frag} {a b : Addr} {xs : List V} {H H' : Hp} (n : a ≠ b) (e : Sb b H H') (h : SqA K H a xs) : SqA K H' a xs := by
  rcases h with h | h
  · rcases h with (h | ⟨o, h⟩) | h
    · exact .inl (.inl (.inl (e _ _ n h)))
    · exact .inl (.inl (.inr ⟨o, e _ _ n h⟩))
    · exact .inl (.inr h)
  · rcases h with (h | ⟨o, h⟩) | h
    · exact .inr (.inl (.inl (e _ _ n h)))
    · exact .inr (.inl (.inr ⟨o, e _ _ n h⟩))
    · exact .inr (.inr h)
theorem ne_new {H : Hp} {a b : Addr} {o : HO} (h : H b = some o) (n : H a = none) : b ≠ a := fun z => by rw [z, n] at h; cases h
end RX
namespace RX
open PySem PySem.Spec PyProof.Rows L2
theorem atI_in {α : Type} {xs : List α} {i : Int} (h0 : 0 ≤ i) (h1 : i < xs.length) : ∃ c, atI xs i = some c ∧ c ∈ xs := by
  have h : i.toNat < xs.length := by omega
  refine ⟨xs[i.toNat], at_j i.toNat (by omega) (List.getElem?_eq_getElem h), List.getElem_mem h⟩
theorem atI_strs {xs : List Str} {i : Int} (h0 : 0 ≤ i) (h1 : i < xs.length) : ∃ x, x ∈ xs ∧ atI (xs.map V.str) i = some (.str x) := by
  have h : i.toNat < xs.length := by omega
  refine ⟨xs[i.toNat], List.getElem_mem h, at_j i.toNat (by omega) ?_⟩
  rw [List.getElem?_map, List.getElem?_eq_getElem h]
  rfl
theorem rd_rng {i : Int} {H : Hp} {R : It → Hp → Prop} (h1 : -(2 ^ 62) ≤ i) (h2 : i < 2 ^ 62) (h : R (Itr 0 i.toNat) H) : ∃ j : Int, ([V.int i] : List V) = [V.int j] ∧ -(2 ^ 62) ≤ j ∧ j < 2 ^ 62 ∧ R (Itr 0 j.toNat) H := ⟨i, rfl, h1, h2, h⟩
/-- a comprehension of texts, its items may write old objects -/
theorem lc_strs {J : It} {n : Nat} {G : Hp → Prop} {Y : Nat → Hp → V → Hp → Prop} (w : Walk J n G Y) {g : TG} {tt : TT} {te : TE} {vs : List Nat} {σ : L2.St} {H : Hp} {Q : VK} (Pz : Str → Prop) (Iv : Hp → Prop) (hn : n ≤ 1000000) (h0 : Iv H) (hG : ∀ H', Iv H' → G H')
    (hU : ∀ D H' ys, H D = none → Iv H' → Iv (upd H' D (.lst ys)))
    (hs : ∀ i x H1 H2 (P : Option V → Hp → Prop), i < n → Iv H1 → Y i H1 x H2 → (∀ (z : Str) H3, Pz z → (∀ D ys, H D = none → H1 D = some (.lst ys) → H3 D = some (.lst ys)) → Iv H3 → P (some (.str z)) H3) → EltP g tt te vs σ x H2 P)
    (hd : ∀ D H' (zs : List Str), H D = none → Iv H' → H' D = some (.lst (zs.map V.str)) → zs.length = n → (∀ z ∈ zs, Pz z) → Q (.ref D) H') : LcB J g tt te vs σ H Q := by
  intro D hD
  refine lc_it w (fun i H' => Iv H' ∧ ∃ zs : List Str, H' D = some (.lst (zs.map V.str)) ∧ zs.length = i ∧ ∀ z ∈ zs, Pz z) ⟨hU _ _ _ hD h0, [], upd_same, rfl, fun _ h => by cases h⟩ (fun i H' _ p => hG H' p.1) ?_ ?_
  · rintro i x H1 H2 hi ⟨i1, zs, hz, hl, ha⟩ y
    refine hs i x H1 H2 (fun o H3 => (match o with
      | some y => ∃ acc, H3 D = some (.lst acc) ∧ acc.length < sizeLine ∧ (Iv (upd H3 D (.lst (acc ++ [y]))) ∧ ∃ zs : List Str, upd H3 D (.lst (acc ++ [y])) D = some (.lst (zs.map V.str)) ∧ zs.length = i + 1 ∧ ∀ z ∈ zs, Pz z)
      | none => Iv H3 ∧ ∃ zs : List Str, H3 D = some (.lst (zs.map V.str)) ∧ zs.length = i + 1 ∧ ∀ z ∈ zs, Pz z)) hi i1 y ?_
    intro z H3 hz3 hk i3
    refine ⟨zs.map V.str, hk _ _ hD hz, ?_, hU _ _ _ hD i3, zs ++ [z], ?_, ?_, ?_⟩
    · rw [List.length_map]
      have : (1000000 : Nat) < sizeLine := by decide
      omega
    · rw [upd_same, List.map_append]
      rfl
    · rw [List.length_append, List.length_singleton]; omega
    · intro q hq
      rcases List.mem_append.mp hq with h | h
      · exact ha q h
      · rw [List.mem_singleton.mp h]; exact hz3
  · rintro H' ⟨i1, zs, hz, hl, ha⟩
    exact hd D H' zs hD i1 hz hl ha
theorem sum_le {zs : List Str} {m : Nat} (h : ∀ z ∈ zs, z.length ≤ m) : (zs.map (·.length)).sum ≤ zs.length * m := by
  induction zs with
  | nil => simp
  | cons x r ih =>
    have h1 := h x List.mem_cons_self
    have h2 := ih fun z hz => h z (List.mem_cons_of_mem _ hz)
    rw [List.map_cons, List.sum_cons, List.length_cons, Nat.succ_mul]
    omega
end RX
namespace RX
open PySem PySem.Spec PyProof.Rows L2
/-- a place where ways meet -/
theorem rd_cut {t u : TS} {D : Ends} {σ : L2.St} {H : Hp} (R : L2.St → Hp → Prop) (h2 : ∀ σ' H', R σ' H' → u D σ' H') (h1 : ∀ N : L2.St → Hp → Prop, (∀ σ' H', R σ' H' → N σ' H') → t { D with nx := N } σ H) : tSeq t u D σ H := h1 (u D) h2
theorem decI (i j : Int) : decide (V.int i = V.int j) = decide (i = j) := by
  rw [Bool.eq_iff_iff, decide_eq_true_eq, decide_eq_true_eq]
  exact ⟨V.int.inj, congrArg V.int⟩
theorem pick2 {x y : V} {b : Bool} : atI [x, y] (if b = true then 1 else 0) = some (if b = true then y else x) := by cases b <;> rfl
end RX
namespace RX
open PySem PySem.Spec PyProof.Rows L2
theorem pickD {d k : Int} {x y : Str} : atI [V.str x, V.str y] (if decide (V.int d = V.int k) = true then 1 else 0) = some (V.str (if d = k then y else x)) := by
  rw [decI]
  by_cases e : d = k
  · rw [if_pos e, decide_eq_true e]; rfl
  · rw [if_neg e, decide_eq_false e]; rfl
theorem repD {d k : Int} {t : Str} : (List.replicate (if decide (V.int d = V.int k) = true then (1 : Int) else 0).toNat [V.str t]).flatten = (if d = k then [t] else []).map V.str := by
  rw [decI]
  by_cases e : d = k
  · rw [if_pos e, decide_eq_true e]; rfl
  · rw [if_neg e, decide_eq_false e]; rfl
theorem DtAll.strsD {H : Hp} (xs : List Str) : DtAll H (xs.map V.str) (xs.map PyData.str) := DtAll.strs xs
end RX
namespace RX
open PySem PySem.Spec PyProof.Rows L2
theorem rd_st {t : TS} {D : Ends} {σ σ' : L2.St} {H : Hp} (e : σ = σ') (h : t D σ' H) : t D σ H := by rw [e]; exact h
theorem rd_xfd {K : PySem.W.Frag} {a : Addr} {cls : Value} {d : Option Addr} {f : Str} {te : TE} {σ : L2.St} {H : Hp} {Q : VK} (h : te σ H fun x H1 => x = .ref a ∧ ∃ (C dd : Addr) (fs : List (Str × V)) (v : V), cls = .ref C ∧ d = some dd ∧ XfC K C ∧ PySem.W.findIn K (.ref C) f = some none ∧ H1 dd = some (.xd fs) ∧ fs.lookup f = some v ∧ Q v H1) : tXfD K a cls d f te σ H Q := h
end RX
namespace RX
open PySem PySem.Spec PyProof.Rows L2
/-- a text of true code points -/
def Cp (x : Str) : Prop := ∀ c ∈ x.cps.toList, c < 0x110000
theorem Cp.ok {x : Str} (h : Cp x) : PyData.strOk x = true := by
  unfold PyData.strOk
  rw [← Array.all_toList, List.all_eq_true]
  intro c hc
  exact decide_eq_true (h c hc)
theorem Cp.app {x y : Str} (h : Cp x) (k : Cp y) : Cp (x ++ y) := by
  intro c hc
  rw [Str.cps_append, Array.toList_append, List.mem_append] at hc
  exact hc.elim (h c) (k c)
theorem Cp.one {x : Str} {c : Nat} (h : Cp x) (m : c ∈ x.cps.toList) : Cp ⟨#[c]⟩ := by
  intro d hd
  have : d = c := by simpa using hd
  rw [this]
  exact h c m
end RX
namespace RX
open PySem PySem.Spec PyProof.Rows L2
theorem Cp.cut {x : Str} {lo hi : Option Int} (h : Cp x) : Cp (cutS x lo hi) := by
  intro c hc
  have hc' : c ∈ ((x.cps.toList.drop (HT.sIx x.length 0 lo)).take (HT.sIx x.length x.length hi - HT.sIx x.length 0 lo)).toArray.toList := hc
  rw [List.toList_toArray] at hc'
  exact h c (List.mem_of_mem_drop (List.mem_of_mem_take hc'))
theorem Cp.join {s : Str} (hs : Cp s) : ∀ {zs : List Str}, (∀ z ∈ zs, Cp z) → Cp (Str.join s zs)
  | [], _ => fun c hc => by cases hc
  | [x], h => h x List.mem_cons_self
  | x :: y :: r, h => ((h x List.mem_cons_self).app hs).app (Cp.join hs fun z hz => h z (List.mem_cons_of_mem _ hz))
end RX

/-! the head: facts, defs, own Bools; the statics' table in the fragment -/
namespace RX
open PySem PySem.Spec PyProof.Rows L2
/-- a law's end where what is raised leans on the world -/
theorem walk_ofX {l : PySem.W.OpenLaw} {n k : Nat} {q : Program} {loose : List Str} {XP : (Str → Option Value) → Heap → Prop} {YP : World → Heap → Prop} {d : DefRec} {x : Str}
    (hn : l.most = some n) (hn2 : n ≤ sizeLine) (hdf : d.params.defaults = []) (hr : Room k callerA)
    (F : ∀ (w : World) (mg : Str → Option Value) (fa : Addr) (h : Heap), YP w h → h.Ns mainGlobals mg → mg d.name = some (.ref fa) →
      ∃ (K : PySem.W.Frag) (sp : Sp), K.In h ∧
        (∀ (H : Hp) (a : Addr) (ns : List Int), ns.length ≤ n → SqL K H a (ns.map V.int) → sp [.ref a] H (fun v _ => v = .bl true) fun _ _ _ => False) ∧
        ∃ fd : FuncData, (∀ (s : Shared) (u : Value), BindsTo s fd ⟨[u], []⟩ [(x, u)]) ∧ ∀ base : Heap, K.In base → base.Ns mainGlobals mg → FnOk l.prog w K mg base (HK.CX l.prog w) k fa fd [x] sp) :
    PySem.W.WalkO q loose XP YP l.row.toRowW d [] (fun f vs => PySem.call f vs) := by
  refine Att.attach_call hn hdf fun w s₀ s₁ mg mb fa o pm cd doc a vs ns G Y ho hd hcd hmg hobj hints hlen hg => ?_
  obtain ⟨K, sp, KX, hsp, fd, hb, hF⟩ := F w mg fa _ Y G.T.g hmg
  exact law_call KX G.T.g G.T.b G.T.builtins G.T.nolimit hg hobj hints (Nat.le_trans hlen hn2) hr hF hb (fun H hO hS => hsp H a ns hlen hS) fun H e s' h => by
    obtain ⟨_, _, _, _, _, _, _, _, _, _, _, _, z⟩ := h
    exact z
/-- one def's binding of one value -/
theorem fn_of {P : Program} {w : World} {K : PySem.W.Frag} {mg : Str → Option Value} {x qual : Str} {st : Stmt} {f : Addr} {p : Str} {k : Nat} {sp : Sp} (F : DefAt K x qual st f)
    (hb : ∀ (kV doc pm : Value) (an : Option Addr) (cdv ct : Value) (u : Value), bindArgs (PySem.W.fnOf x qual (defArgs st) (defBody st) (defScope st) .none kV doc pm an cdv ct) ⟨[u], []⟩ = pure ([p].zip [u]))
    (N : List Str) (S : FnScope N [p] (defScope st)) (len : ∀ vs H Q E, sp vs H Q E → vs.length = [p].length)
    (hbody : ∀ base (cdv : Value) (A : Around) (outer : List Env) (s : Shared) (H : Hp) (vs : List V) (Q : VK) (E : XK), Room k (A.deeper (envOfC qual (defScope st) s.heap.objs.size f cdv)) → sp vs H Q E →
      ∃ t, PSs (cxOf (HK.CX P w) P w K mg base N qual (defScope st) f cdv A outer s H E) (defBody st) t ∧ t { nx := fun _ H' => Q .non H', rt := Q } (start N vs) H) :
    ∃ fd : FuncData, (∀ (s : Shared) (u : Value), BindsTo s fd ⟨[u], []⟩ [(p, u)]) ∧ ∀ base : Heap, K.In base → base.Ns mainGlobals mg → FnOk P w K mg base (HK.CX P w) (k + 1) f fd [p] sp := by
  obtain ⟨fd, F⟩ := F
  have b := FunD.bindsA (ps := [p]) F fun _ _ _ _ _ _ us hl => match us, hl with | [u], _ => hb _ _ _ _ _ _ u
  exact ⟨fd, fun s v => b s [v] rfl, fun base _ _ => F.ok S len (hbody base)⟩
end RX

/-! str(own object) by its own __str__ -/
namespace RX
open PySem PySem.Spec PyProof.Rows L2
def StrOwn (C : Addr) (sp : Sp) (E : XK) : List V → Hp → VK → Prop := fun xs H Q => ∃ a dx fs, xs = [.ref a] ∧ H a = some (.ins C dx fs) ∧ sp [.ref a] H (fun v H' => (∃ z, v = .str z) ∧ Q v H') E
theorem call_strOwn {X : Cx} {k : Nat} {C f : Addr} {ps : List Str} {sp : Sp} {E : XK} (G : OkD X.prog X.w X.K X.mg X.base k f ps sp) (hr : Room (k + 2) X.A)
    (hs : PySem.W.findIn X.K (.ref C) "__str__" = some (some (.ref f))) (hf : PySem.W.isFn X.K (.ref f) = true) (hx : Passes (HK.CX X.prog X.w) X E) : CallR X (.type "str") (StrOwn C sp E) := by
  intro pins s σ H xs us Q I r h
  obtain ⟨a, dx, fs, rfl, ha, q⟩ := h
  obtain ⟨kp, fd, hb, F, _⟩ := G
  obtain ⟨u, rfl, hu⟩ := vals1 r
  cases hu
  obtain ⟨mA, J, _⟩ := ins_get I.hok ha
  obtain ⟨od, J, _⟩ := J.look
  have hr2 : Room k X.A.in1.in1 := hr.in1.in1
  refine PySem.W.kso_call hr2.units0 I.kIn J hs hf ?_
  have e0 : Env0 X.prog X.w X.K X.mg X.base X.A.in1.in1 X.stack s H := by
    have e := I.env0
    exact ⟨e.frames, e.mod, e.bs, e.bsz, e.funs, e.frf, e.hok, e.bare⟩
  have hl := F.len _ _ _ _ q
  have r2 : Vals [V.ref a] [Value.ref a] := .cons rfl .nil
  refine wpAny_call (codeAny_mono (F.run X.A.in1.in1 X.stack s H ⟨[.ref a], []⟩ [.ref a] [.ref a] _ E hr2 e0 (by
    have := hb s [.ref a] I.kIn (by simpa using hl)
    simpa using this) r2 q) fun r s' hq => ?_)
  cases r with
  | error e => exact hx pins σ H s e s' I hq
  | ok fl =>
    cases fl with
    | ret w =>
      obtain ⟨z, H', I', rz, ⟨zz, ez⟩, q'⟩ := I.after hq
      subst ez
      obtain ⟨t, rfl⟩ := rz
      exact ⟨.str zz, H', I', ⟨t, rfl⟩, q'⟩
    | next => exact False.elim hq
    | brk => exact False.elim hq
    | cont => exact False.elim hq
section
variable {K : PySem.W.Frag} {σ : L2.St} {H : Hp} {Q : VK} {l b : Addr} {xs zs : List V}
theorem rd_bm {T : String} {r : V → List V → Hp → VK → Prop} {to : TE} {t : TA} (h : to σ H fun x H1 => tyV K T x H1 ∧ t σ H1 fun xs H2 => r x xs H2 Q) : tBM K T r to t σ H Q := h
theorem rd_ap {r : V → List V → Hp → VK → Prop} {t : TA} (h : H l = some (.lst xs)) (k : t σ H fun vs H2 => r (.ref l) vs H2 Q) : tyV K "list" (.ref l) H ∧ t σ H (fun vs H2 => r (.ref l) vs H2 Q) := ⟨.inl ⟨rfl, xs, SqL.of h⟩, k⟩
theorem apd {y : V} (h : H l = some (.lst xs)) (hl : xs.length < 1000000) (k : Q .non (upd H l (.lst (xs ++ [y])))) : rAppend (.ref l) [y] H Q := ⟨l, xs, y, rfl, rfl, h, lt_size hl, k⟩
theorem extd (h : H l = some (.lst xs)) (h2 : H b = some (.lst zs)) (hl : xs.length + zs.length ≤ 1000000) (k : Q .non (upd H l (.lst (xs ++ zs)))) : rExtend (.ref l) [.ref b] H Q := ⟨l, b, xs, zs, rfl, rfl, h, h2, le_size hl, k⟩
theorem rd_revL {te : TE} (h : te σ H fun x H1 => ∃ a xs, x = .ref a ∧ SqL K H1 a xs ∧ ∀ p, H1 p = none → Q (.ref p) (upd H1 p (.lst xs.reverse))) : tRevL K te σ H Q := h
/-- ' '.join(..) of texts -/
theorem joinr {p : Addr} {a : Str} {ys : List Str} {X : PySem.W.Frag} (h1 : SqL X H p (ys.map V.str) ∨ SqT X H p (ys.map V.str)) (hl : (ys.map (·.length)).sum + ys.length * a.length ≤ 16777216) (k : Q (.str (Str.join a ys)) H) :
    ∃ a' p', ∃ zs : List Str, V.str a = .str a' ∧ ([.ref p] : List V) = [.ref p'] ∧ (SqL X H p' (zs.map V.str) ∨ SqT X H p' (zs.map V.str)) ∧ (zs.map (·.length)).sum + zs.length * a'.length ≤ 16777216 ∧ Q (.str (Txt.join a' zs)) H :=
  ⟨a, p, ys, rfl, rfl, h1, hl, by rw [TL.join_eq]; exact k⟩
theorem strOwn {C : Addr} {sp : Sp} {E : XK} {a dx : Addr} {fs : List (Str × V)} (h : H a = some (.ins C dx fs)) (k : sp [.ref a] H (fun v H' => (∃ z, v = .str z) ∧ Q v H') E) : StrOwn C sp E [.ref a] H Q := ⟨a, dx, fs, rfl, h, k⟩
end
end RX

/-! a def that is called from an except suite, the caught one (a pin) among its values -/
namespace RX
open PySem PySem.Spec PyProof.Rows L2
open L2H (RoomH PinOk cxH inv_startH roomH_mark)
open HK (HotP)
/-- the context of its body: the caught one's pin, those of its context -/
def cxK (P : Program) (w : World) (K : PySem.W.Frag) (mg : Str → Option Value) (base : Heap) (N : List Str) (qual : Str) (scope : Scope) (f : Addr) (cd : Value) (A : Around) (outer : List Env) (s : Shared) (H : Hp) (pn : Addr × Obj) (qs : List (Addr × Obj)) : Cx :=
  (cxH (HK.CX P w) P w K mg base N qual scope f cd A outer s H (fun _ _ _ => False) pn).tr (pn :: qs) (cxH (HK.CX P w) P w K mg base N qual scope f cd A outer s H (fun _ _ _ => False) pn).xe
/-- what such a def promises: sp may speak of the pin; it lets nothing out -/
structure FnP (P : Program) (w : World) (K : PySem.W.Frag) (mg : Str → Option Value) (base : Heap) (k : Nat) (f : Addr) (fd : FuncData) (ps : List Str) (sp : Addr × Obj → Sp) : Prop where
  len : ∀ pn vs H Q E, sp pn vs H Q E → vs.length = ps.length
  run : ∀ (A : Around) (outer : List Env) (s : Shared) (H : Hp) (us : List Value) (vs : List V) (Q : VK) (pn : Addr × Obj) (qs : List (Addr × Obj)), RoomH k A → HotP A (pn :: qs) → (∀ q ∈ pn :: qs, PinOk outer H s q) → Env0 P w K mg base A outer s H → BindsTo s fd ⟨us, []⟩ (ps.zip us) → Vals vs us →
    sp pn vs H Q (fun _ _ _ => False) → codeAny (model P w) A (.call (.ref f) ⟨us, []⟩) (CR (HK.CX P w) outer P w H s Q fun _ _ _ => False) s
theorem FnP.of {P : Program} {w : World} {K : PySem.W.Frag} {mg : Str → Option Value} {base : Heap} {x qual : Str} {st : Stmt} {f : Addr} {fd : FuncData} {N ps : List Str} {k : Nat} {sp : Addr × Obj → Sp}
    (F : FunD K x qual (defArgs st) (defBody st) (defScope st) [] [] f fd) (S : FnScope N ps (defScope st)) (len : ∀ pn vs H Q E, sp pn vs H Q E → vs.length = ps.length)
    (hbody : ∀ (cdv : Value) (A : Around) (outer : List Env) (s : Shared) (H : Hp) (vs : List V) (Q : VK) (pn : Addr × Obj) (qs : List (Addr × Obj)), RoomH k (A.deeper (envOfC qual (defScope st) s.heap.objs.size f cdv)) → HotP (A.deeper (envOfC qual (defScope st) s.heap.objs.size f cdv)) (pn :: qs) → sp pn vs H Q (fun _ _ _ => False) →
      ∃ t, PSs (cxK P w K mg base N qual (defScope st) f cdv A outer s H pn qs) (defBody st) t ∧ t { nx := fun _ H' => Q .non H', rt := Q } (L2.start N vs) H) : FnP P w K mg base (k + 1) f fd ps sp := by
  obtain ⟨oc, od, dV, kV, doc, pm, an, cdv, ct, osl, rfl, lk, hcd, _, _⟩ := F.ex
  constructor
  · exact len
  · intro A outer s H us vs Q pn qs room hot pin env bind rel pr
    have inK : K.In s.heap := fun b o e => (env.bs b o (env.mod.kin b o e)).1
    have kinds : ∀ y ∈ ps.zip us, (defScope st).names.lookup y.1 = some .local ∨ ((defScope st).names.lookup y.1 = some .cell ∧ ((cellsFrom (s.heap.objs.size + 1) (defScope st).names []).lookup y.1).isSome = true) := by
      rintro ⟨n, v⟩ hy
      refine (S.par n (List.of_mem_zip hy).1).imp id fun q => ⟨q, ?_⟩
      exact PySem.W.cellsFrom_some _ _ _ (.inl q)
    refine codeAny_call_function room.depth (inK _ _ lk) rfl S.co S.gen rfl (PySem.W.codeRec_of inK hcd) (bind _ _ _ _ (wpAny_newFunctionEnv_cells S.kind kinds ?_))
    rintro _ rfl s1 entered
    refine ⟨(env.mod.nolimit.keeps fun b o e => (env.bs b o e).1).keeps entered.toInCall.keep, codeAny_func ?_⟩
    obtain ⟨t, walk, reads⟩ := hbody cdv A outer s H vs Q pn qs (room.deeper _) hot pr
    have I0 := inv_startH (CX := HK.CX P w) (E := fun _ _ _ => False) S (pin pn List.mem_cons_self) env (len _ _ _ _ _ pr) rel entered
    have I1 := (HK.pins_add (ex := qs) I0 fun q hq => by
      have z := pin q (List.mem_cons_of_mem _ hq)
      refine ⟨entered.toInCall.keep _ _ z.get, z.free, ?_, z.nofs, z.nocell⟩
      exact Nat.ne_of_lt (Heap.lt_size z.get)).toTry (cxH (HK.CX P w) P w K mg base N qual (defScope st) f cdv A outer s H (fun _ _ _ => False) pn).xe
    refine wpAny_mono (walk.run [] s1 _ H _ I1 reads) (fun fl s2 ended => ?_) fun _ _ z => z
    match fl, ended with
    | .ret u, ⟨v, _, H2, J, rv, q⟩ => exact ⟨v, H2, J.os, J.bare, J.base, J.hok, rv, q⟩
    | .next, ⟨_, H2, J, q⟩ => exact ⟨V.non, H2, J.os, J.bare, J.base, J.hok, rfl, q⟩
    | .brk, ⟨_, _, _, q⟩ => exact q.elim
    | .cont, ⟨_, _, _, q⟩ => exact q.elim
/-- with its binding -/
def OkP (P : Program) (w : World) (K : PySem.W.Frag) (mg : Str → Option Value) (base : Heap) (k : Nat) (f : Addr) (ps : List Str) (sp : Addr × Obj → Sp) : Prop := PySem.W.keepIn K (.ref f) = true ∧ ∃ fd, Binds K fd ps [] ∧ FnP P w K mg base k f fd ps sp
theorem OkP.of {P : Program} {w : World} {K : PySem.W.Frag} {mg : Str → Option Value} {base : Heap} {x qual : Str} {st : Stmt} {f : Addr} {N ps : List Str} {k : Nat} {sp : Addr × Obj → Sp} (F : DefAt K x qual st f) (S : FnScope N ps (defScope st))
    (hb : ∀ (kV doc pm : Value) (an : Option Addr) (cdv ct : Value) (us : List Value), us.length = ps.length → bindArgs (PySem.W.fnOf x qual (defArgs st) (defBody st) (defScope st) .none kV doc pm an cdv ct) ⟨us, []⟩ = pure (ps.zip us))
    (len : ∀ pn vs H Q E, sp pn vs H Q E → vs.length = ps.length)
    (hbody : ∀ (cdv : Value) (A : Around) (outer : List Env) (s : Shared) (H : Hp) (vs : List V) (Q : VK) (pn : Addr × Obj) (qs : List (Addr × Obj)), RoomH k (A.deeper (envOfC qual (defScope st) s.heap.objs.size f cdv)) → HotP (A.deeper (envOfC qual (defScope st) s.heap.objs.size f cdv)) (pn :: qs) → sp pn vs H Q (fun _ _ _ => False) →
      ∃ t, PSs (cxK P w K mg base N qual (defScope st) f cdv A outer s H pn qs) (defBody st) t ∧ t { nx := fun _ H' => Q .non H', rt := Q } (L2.start N vs) H) : OkP P w K mg base (k + 1) f ps sp := by
  obtain ⟨fd, F⟩ := F
  exact ⟨F.kp, fd, F.bindsN hb, FnP.of F S len hbody⟩
section
variable {X : Cx} {a : Addr} {oe : Obj} {pn : List (Addr × Obj)} {k : Nat} {f : Addr} {ps : List Str} {sp : Addr × Obj → Sp} {x : Str} {p pos : Pos} {e : Expr} {es : List Expr} {t : TA}
/-- its call in a suite -/
def tCallP (a : Addr) (cls : Value) (d : Option Addr) (sp : Addr × Obj → Sp) (t : TA) : TE := fun σ H Q => t σ H fun vs H1 => ∀ oe : Obj, Zc cls d oe → (∃ vs, oe.data = .fields vs) → sp (a, oe) vs H1 Q fun _ _ _ => False
theorem pe_fnP {cls : Value} {d : Option Addr} (hz : Zc cls d oe) (hf : ∃ vs, oe.data = .fields vs) (hot : HotP (X.A.mark (some (.ref a))) ((a, oe) :: pn)) (G : OkP X.prog X.w X.K X.mg X.base k f ps sp) (hr : Room k X.A) (hg : Gl (X.suite a ((a, oe) :: pn)) x) (hm : X.mg x = some (.ref f))
    (ha : PA (X.suite a ((a, oe) :: pn)) (e :: es) t) (hdb : (x == ("__debug__" : Str)) = false := by decide) (he : starEach (e :: es) X.env = (false, eval e X.env) :: starEach es X.env := by rfl) (hpl : (backTo pos (starEach es X.env)).any (·.1) = false := by rfl) :
    PE (X.suite a ((a, oe) :: pn)) (.Call (.Name x p) (e :: es) [] pos) (tCallP a cls d sp t) := by
  obtain ⟨kp, fd, hb, F⟩ := G
  refine ⟨fun pins s σ H Q I h => ?_⟩
  refine wpAny_Call_Name_kw (ld_glob I hg hm ?_ hdb)
  refine PySem.W.callWith_K (h₀ := X.base) I.ok.mod.kin kp (thn (ha.run pos pins s σ H _ I h) fun us s1 ⟨vs, H1, I1, r, q0⟩ => ⟨I1.kIn, ?_⟩) he hpl
  have q := q0 oe hz hf
  have hpin : ∀ q ∈ (a, oe) :: pn, PinOk X.stack H1 s1 q := fun q hq => by
    obtain ⟨g1, g2, g3, g4, g5⟩ := I1.pin q (List.mem_append_left _ hq)
    exact ⟨g1, g2, fun z => (List.mem_cons.mp (I1.stkSub q.1 z)).elim g3 g4, g5⟩
  have hl : us.length = ps.length := by rw [← r.length]; exact F.len _ _ _ _ _ q
  have hbt := hb s1 us I1.kIn (by simpa using hl)
  rw [List.append_nil] at hbt
  refine wpAny_call (codeAny_mono (F.run (X.suite a ((a, oe) :: pn)).A X.stack s1 H1 us vs Q (a, oe) pn (roomH_mark hr _) hot hpin I1.env0 hbt r q) fun rr s' hq => ?_)
  match rr, hq with
  | .error e', ⟨_, _, _, _, _, _, _, _, _, _, _, _, z⟩ => exact z.elim
  | .ok (.ret u), hq => exact I1.after hq
/-- e.f, isinstance(e, C) in such a def -/
def tXfP (K : PySem.W.Frag) (pn : Addr × Obj) (f : Str) (te : TE) : TE := fun σ H Q => te σ H fun x H1 => x = .ref pn.1 ∧ ∃ (C dd : Addr) (fs : List (Str × V)) (v : V), Zc (.ref C) (some dd) pn.2 ∧ (∃ vs, pn.2.data = .fields vs) ∧ XfC K C ∧ PySem.W.findIn K (.ref C) f = some none ∧ H1 dd = some (.xd fs) ∧ fs.lookup f = some v ∧ Q v H1
theorem pin_inst {pins : List (Addr × Obj)} {s : Shared} {σ : L2.St} {H : Hp} {q : Addr × Obj} {C dd : Addr} {fs : List (Str × V)} (I : Inv X pins σ H s) (hq : q ∈ X.pn) (hz : Zc (.ref C) (some dd) q.2) (hf : ∃ vs, q.2.data = .fields vs) (hd : H dd = some (.xd fs)) :
    ∃ (od : Obj) (mA : Str → Option Value), PySem.W.InstAt s.heap q.1 q.2 C (some od) ∧ (∀ f, RelO (fs.lookup f) (mA f)) ∧ ∀ name, PySem.W.lookIn name od = some (mA name) := by
  obtain ⟨hget, _⟩ := I.pin q (List.mem_append_left _ hq)
  obtain ⟨vs, hv⟩ := hf
  obtain ⟨mA, hns, hr⟩ := I.hok dd _ hd
  obtain ⟨od, ho, hl⟩ := lookIn_ns hns
  exact ⟨od, mA, ⟨hget, hz.1, by unfold PySem.W.notCls; rw [hv] <;> rfl, by rw [hz.2]; exact ho⟩, hr, hl⟩
theorem pe_xfP {q : Addr × Obj} {te : TE} {n : Str} (hq : q ∈ X.pn) (he : PE X e te) (hb : attributeBase e n X.env (eval e X.env) = eval e X.env := by rfl) : PE X (.Attribute e n pos) (tXfP X.K q n te) := by
  refine ⟨fun pins s σ H Q I h => ?_⟩
  refine attr_of hb (thn (he.run pins s σ H _ I h) fun u s1 ⟨y, H1, I1, rx, ex, C, dd, fs, v, hz, hf, T, hno, hd, l, g⟩ => ?_)
  subst ex
  obtain rfl : u = Value.ref q.1 := rx
  obtain ⟨od, mA, J, hr, hl⟩ := pin_inst I1 hq hz hf hd
  obtain ⟨u, hu, ru⟩ := RelO.some_of (v := v) (o := mA n) (by rw [← l]; exact hr n)
  exact HandSPX.exc_get I1.kIn J T.ga T.gg T.exC (PySem.W.findObj_own T.hdC hno rfl (by rw [hl, hu])) (handed_of ru) ⟨v, H1, I1.tok _, ru, g⟩
def rIsP (K : PySem.W.Frag) (q : Addr × Obj) : List V → Hp → VK → Prop := fun xs H Q => ∃ (D dd : Addr) (fs : List (Str × V)) (c : V) (cv : Value) (b : Bool), xs = [.ref q.1, c] ∧ Zc (.ref D) (some dd) q.2 ∧ (∃ vs, q.2.data = .fields vs) ∧ H dd = some (.xd fs) ∧ ExcC K D ∧ (∀ u, RelV c u → u = cv) ∧ PySem.W.kitOne K (.ref D) cv = some b ∧ Q (.bl b) H
theorem call_isP {q : Addr × Obj} (hq : q ∈ X.pn) : CallR X (.builtin "isinstance") (rIsP X.K q) := by
  intro pins s σ H xs us Q I r h
  obtain ⟨D, dd, fs, c, cv, b, rfl, hz, hf, hd, C, hcv, e, g⟩ := h
  obtain ⟨u1, u2, rfl, r1, r2⟩ := vals2 r
  cases r1
  have ec := hcv _ r2
  subst ec
  obtain ⟨od, mA, J, _⟩ := pin_inst I hq hz hf hd
  exact PySem.W.kia_one (PySem.W.kitx_excX C.hg C.hk C.hs C.hd C.ha C.hn C.ht C.hm) I.kIn J e (fun z => nomatch z) fun tk => ⟨.bl b, H, I.kept (t' := tk) fun _ _ z => z, rfl, g⟩
end
end RX

/-! an own class made inside a try's body; insert; a None test -/
namespace RX
open PySem PySem.Spec PyProof.Rows L2
section
variable {X : Cx} {k : Nat} {f C : Addr} {ps : List Str} {sp : Sp} {ES : L2.St → XK} {x : Str} {p pos : Pos} {e : Expr} {es : List Expr} {t : TA}
/-- what is raised is wished for at the slots -/
def tMakeS (C : Addr) (sp : Sp) (ES : L2.St → XK) (t : TA) : TE := fun σ H Q => t σ H fun vs H1 => ∀ x dx, H1 x = none → H1 dx = none → dx ≠ x →
  sp (.ref x :: (vs ++ [])) (upd (upd H1 dx (.own x)) x (.ins C dx [])) (fun v H2 => v = .non ∧ Q (.ref x) H2) (ES σ)
theorem pe_mkS (M : Mk X.K C f) (G : OkD X.prog X.w X.K X.mg X.base k f ps sp) (room : Room (k + 1) X.A) (hg : Gl X x) (hm : X.mg x = some (.ref C)) (pass : ∀ σ, PassesAt (HK.CX X.prog X.w) X σ (ES σ))
    (ha : PA X (e :: es) t) (hdb : (x == ("__debug__" : Str)) = false := by decide) (he : starEach (e :: es) X.env = (false, eval e X.env) :: starEach es X.env := by rfl) (hpl : (backTo pos (starEach es X.env)).any (·.1) = false := by rfl) :
    PE X (.Call (.Name x p) (e :: es) [] pos) (tMakeS C sp ES t) := by
  obtain ⟨kp, fd, hb, F, _⟩ := G
  constructor
  intro pins s σ H Q I h
  refine wpAny_Call_Name_kw (ld_glob I hg hm (PySem.W.callWith_K (h₀ := X.base) I.ok.mod.kin M.kp (thn (ha.run pos pins s σ H _ I h) fun us s1 ⟨vs, H1, J, r, g⟩ => ⟨J.kIn, ?_⟩) he hpl) hdb)
  have want := g _ _ (J.hok.fresh (Nat.le_succ _)) (J.hok.fresh (Nat.le_refl _)) (Nat.ne_of_lt (Nat.lt_succ_self _))
  have J2 := Inv.made (C := C) J
  have rel : Vals (V.ref (s1.heap.objs.size + 1) :: (vs ++ [])) (Value.ref (s1.heap.objs.size + 1) :: us) := .cons rfl (by rw [List.append_nil]; exact r)
  have same : (Value.ref (s1.heap.objs.size + 1) :: us).length = ps.length := by rw [← rel.length]; exact F.len _ _ _ _ want
  have bound := hb _ (Value.ref (s1.heap.objs.size + 1) :: us) J2.kIn (by simpa using same)
  rw [List.append_nil] at bound
  refine wpAny_call (make_map (f := f) J.kIn M.makes M.init (beq_iff_eq.mp M.fn) (codeAny_mono (F.run _ X.stack _ _ ⟨_ :: us, []⟩ (_ :: us) _ _ (ES σ) (room.make C us []) (J2.env0.make C us []) bound rel want) fun res s2 ended => ?_))
  match res, ended with
  | .error u, ended => exact pass σ pins _ _ u s2 J2 ended
  | .ok (.ret u), ended =>
    obtain ⟨v, H2, J3, rv, ev, q3⟩ := J2.after ended
    subst ev
    exact ⟨rv, ⟨V.ref (s1.heap.objs.size + 1), H2, J3, rfl, q3⟩⟩
end
section
variable {σ : L2.St} {H : Hp} {Q : VK} {l : Addr} {xs : List V}
theorem rd_makeS {C : Addr} {sp : Sp} {ES : L2.St → XK} {t : TA} (h : t σ H fun vs H1 => ∀ x dx, H1 x = none → H1 dx = none → dx ≠ x → sp (.ref x :: (vs ++ [])) (upd (upd H1 dx (.own x)) x (.ins C dx [])) (fun v H2 => v = .non ∧ Q (.ref x) H2) (ES σ)) : tMakeS C sp ES t σ H Q := h
theorem rd_callP {a : Addr} {cls : Value} {d : Option Addr} {sp : Addr × Obj → Sp} {t : TA} (h : t σ H fun vs H1 => ∀ oe : Obj, Zc cls d oe → (∃ vs, oe.data = .fields vs) → sp (a, oe) vs H1 Q fun _ _ _ => False) : tCallP a cls d sp t σ H Q := h
theorem insd {y : V} (h : H l = some (.lst xs)) (hl : xs.length < 1000000) (k : Q .non (upd H l (.lst (y :: xs)))) :
    ∃ (l' : Addr) (ys : List V) (i : Int) (z : V), V.ref l = .ref l' ∧ [V.int 0, y] = [.int i, z] ∧ H l' = some (.lst ys) ∧ ys.length < sizeLine ∧ 0 ≤ i ∧ i < 2 ^ 63 ∧ Q .non (upd H l' (.lst (ys.take i.toNat ++ [z] ++ ys.drop i.toNat))) := ⟨l, xs, 0, y, rfl, rfl, h, lt_size hl, by decide, by decide, k⟩
end
end RX

/-! x == y by x's own __eq__ -/
namespace RX
open PySem PySem.Spec PyProof.Rows L2
def rEqO (C D : Addr) (sp : Sp) (E : XK) : R2 := fun x y H Q => ∃ a b dx dy fs gs, x = .ref a ∧ y = .ref b ∧ H a = some (.ins C dx fs) ∧ H b = some (.ins D dy gs) ∧ sp [.ref a, .ref b] H (fun v H' => (∃ c, v = .bl c) ∧ Q v H') E
theorem op_eqO {X : Cx} {k : Nat} {C D f : Addr} {ps : List Str} {sp : Sp} {E : XK} (G : OkD X.prog X.w X.K X.mg X.base k f ps sp) (hr : Room k X.A) (hs : PySem.W.findIn X.K (.ref C) "__eq__" = some (some (.ref f))) (hf : PySem.W.isFn X.K (.ref f) = true)
    (hn : PySem.W.notFirst X.K C (.ref D) = true) (hx : Passes (HK.CX X.prog X.w) X E) : OpR X (compareOp .Eq) (rEqO C D sp E) := by
  obtain ⟨kp, fd, hb, F, _⟩ := G
  intro pins s σ H x y v u Q I rx ry hq
  obtain ⟨a, b, dx, dy, fs, gs, rfl, rfl, ha, hb', q⟩ := hq
  cases rx
  cases ry
  show wpAny (model X.prog X.w) X.A (richCompare .Eq (.ref a) (.ref b)) (EP X pins σ Q) X.xe s
  obtain ⟨_, J, _⟩ := ins_get I.hok ha
  obtain ⟨_, J', _⟩ := ins_get I.hok hb'
  obtain ⟨od, J, _⟩ := J.look
  obtain ⟨od', J', _⟩ := J'.look
  obtain ⟨m, hF⟩ := I.fr
  refine PySem.W.cmp_K (op := .Eq) (tb := .ref D) hr.units0 hF I.ok.mod.kin J J'.type hn hs hf ?_
  have two : Vals [V.ref a, V.ref b] [Value.ref a, Value.ref b] := .cons rfl (.cons rfl .nil)
  have hl : ([Value.ref a, Value.ref b] : List Value).length = ps.length := F.len _ _ _ _ q
  have bd := hb s [.ref a, .ref b] I.kIn (by simpa using hl)
  rw [List.append_nil] at bd
  refine wpAny_call (codeAny_mono (F.run X.A X.stack s H ⟨[.ref a, .ref b], []⟩ _ _ _ E hr I.env0 bd two q) fun r s' ended => ?_)
  match r, ended with
  | .error e, ended => exact hx pins σ H s e s' I ended
  | .ok (.ret w), ended =>
    obtain ⟨z, H', I', rz, ⟨c, ez⟩, g⟩ := I.after ended
    subst ez
    cases rz
    exact ⟨.bl c, H', I', rfl, g⟩
/-- a class whose instances are asked for by isinstance -/
structure IsiC (K : PySem.W.Frag) (C : Addr) : Prop where
  ha : PySem.W.findIn K (.ref C) "__class__" = some (some (.builtin "object.__class__"))
  hn : PySem.W.specialIn K (.builtin "object.__class__") "__get__" = some (some (.builtin "getset_descriptor.__get__"))
  ht : PySem.W.takesIn K (.builtin "object.__class__") = some true
  hm : PySem.W.mroIn K C (.type "object") = some true
theorem isiB_ok {K : PySem.W.Frag} {C : Addr} (q : excB K C = true) : IsiC K C := by
  obtain ⟨q, q1⟩ := Bool.and_eq_true_iff.mp q
  obtain ⟨q1, q2⟩ := Bool.and_eq_true_iff.mp q1
  obtain ⟨q2, q3⟩ := Bool.and_eq_true_iff.mp q2
  exact ⟨of_decide_eq_true q, of_decide_eq_true q1, of_decide_eq_true q2, of_decide_eq_true q3⟩
theorem isi_own {K : PySem.W.Frag} {a C D dx : Addr} {fs : List (Str × V)} {b : Bool} {H : Hp} {Q : VK} (cl : Cls K C) (i : IsiC K C) (ha : H a = some (.ins C dx fs)) (e : PySem.W.kitOne K (.ref C) (.ref D) = some b) (q : Q (.bl b) H) : rIsi K [.ref a, .ref D] H Q :=
  ⟨_, _, _, _, b, rfl, .own D, .base (.ins ha cl i.ha i.hn i.ht i.hm), e, q⟩
end RX

/-! x != y where x's class has an own __eq__ and object's __ne__ -/
namespace RX
open PySem PySem.Spec PyProof.Rows L2
theorem ne_slot : Slot "object" "__ne__" "object.__ne__" :=
  Slot.of (T := "object") (name := "__ne__") (owner := "object") (n := "__ne__") (by rw [typeLookup_type, builtinLookup_eq_fast]; kernel_rfl) (by decide +kernel) (by decide +kernel) (by decide +kernel) (.inl (by decide +kernel)) (by rw [isSubtype_type]; kernel_rfl)
section
variable {prog : Program} {w : World} {A : Around} {E : Value → Shared → Prop} {s : Shared} {K : PySem.W.Frag} {x C f : Addr} {ox : Obj} {od : Option Obj} {b : Value}
theorem ne_bound {M : Model} {args : List Value} {Q : Option Value → Shared → Prop} (X : K.In s.heap) (I : PySem.W.InstAt s.heap x ox C od) (hs : PySem.W.findIn K (.ref C) "__ne__" = some (some (.builtin "object.__ne__")))
    (h : wpAny M A (call (.builtin "object.__ne__") (.ref x :: args)) (fun v => Q (some v)) E s) : wpAny M A (callSpecialIfBound? (.ref x) "__ne__" args) Q E s := by
  simp only [callSpecialIfBound?, bindSpecialIfBound?]
  refine wpAny_holding (wpAny_bind (wpAny_bind (wpAny_bind (I.type.here ((PySem.W.looks_findIn X hs).here ?_)))))
  simp only [ne_slot.bind]
  refine wpAny_bind (wpAny_askSetting (wpAny_ite ?_))
  have fin : wpAny M A (call (.builtin "object.__ne__") ([.ref x] ++ args) >>= fun v => pure (some v)) Q E s := wpAny_bind (wpAny_mono h (fun v s' h' => wpAny_pure h') fun _ _ h' => h')
  split
  · exact wpAny_bind (wpAny_pure (wpAny_pure fin))
  · exact wpAny_tryCatch (wpAny_bind (wpAny_pure (wpAny_pure fin)))
theorem ne_entry (X : K.In s.heap) (I : PySem.W.InstAt s.heap x ox C od) (hs : PySem.W.findIn K (.ref C) "__eq__" = some (some (.ref f))) (hf : PySem.W.isFn K (.ref f) = true) (hu : A.units < cLine) {Q : Fin → Shared → Prop}
    (hcall : wpAny (model prog w) A (call (.ref f) [.ref x, b]) (fun v s' => ∃ c, v = .bool c ∧ Q (.done (.ret (.bool (!c)))) s') E s) :
    wpAny (model prog w) A (Builtin.«object.__ne__» ⟨[.ref x, b], []⟩) Q E s := by
  unfold Builtin.«object.__ne__»
  repeat (first
    | with_reducible refine wpAny_cRoomFor hu ?_
    | (refine wpAny_bind (m := callSpecialIfBound? (.ref x) (Str.ofString "__eq__") [b])
        (PySem.W.ifBound_K X I hs hf (wpAny_mono hcall (fun v s' hr => by
          obtain ⟨c, rfl, hq⟩ := hr
          repeat (first | exact hq | exact wpAny_pure hq | exact wpAny_truthy_bool hq | (refine wpAny_bind (m := truthy (.bool _)) (wpAny_truthy_bool ?_)) | wp_step)) fun _ _ e => e)))
    | wp_step)
theorem ne_cmp {L : Addr} {m : Str → Option Value} {h₀ : Heap} {tb : Value} {Q : Value → Shared → Prop} (hu : A.units + 1 < cLine) (FF : Fr h₀ L s.heap m) (X₀ : K.In h₀) (I : PySem.W.InstAt s.heap x ox C od) (hb : PySem.W.Looks (model prog w) s.heap (typeOf b) tb)
    (hn : PySem.W.notFirst K C tb = true) (hne : PySem.W.findIn K (.ref C) "__ne__" = some (some (.builtin "object.__ne__"))) (hm : PySem.W.mroIn K C (.type "object") = some true)
    (hs : PySem.W.findIn K (.ref C) "__eq__" = some (some (.ref f))) (hf : PySem.W.isFn K (.ref f) = true)
    (h : wpAny (model prog w) A.in1 (call (.ref f) [.ref x, b]) (fun v s' => ∃ c, v = .bool c ∧ Q (.bool (!c)) s') E s) : wpAny (model prog w) A (richCompare .NotEq (.ref x) b) Q E s := by
  have X := X₀.keeps FF.keep
  have one : wpAny (model prog w) A (tryCompare (.ref x) "__ne__" b) (fun r s' => ∃ v, r = some v ∧ Q v s') E s := by
    unfold tryCompare
    refine wpAny_bind (ne_bound X I hne (wpAny_call (codeAny_call_builtin ne_slot.plain PySem.F.cmpEntry_ne (PySem.W.check_slot PySem.F.cmpKind_ne PySem.F.cmpSplit_ne (I.type.andThen (PySem.W.looks_mroIn X hm)) (PySem.F.cmpArgs_ne _ _)
      (ne_entry (A := A.in1) X I hs hf hu (wpAny_mono h (fun v s' hv => ?_) fun _ _ e => e))))))
    obtain ⟨c, rfl, hq⟩ := hv
    first | exact ⟨c, rfl, wpAny_pure ⟨_, rfl, hq⟩⟩ | exact ⟨c, rfl, wpAny_pure (wpAny_pure ⟨_, rfl, hq⟩)⟩
  unfold richCompare
  simp only [oneThing_ref]
  refine wpAny_holding (wpAny_bind (wpAny_cRoomFor (Nat.lt_of_succ_lt hu) ?_))
  rw [cmpInfo_NotEq]
  dsimp only
  refine wpAny_bind (I.type.here (wpAny_bind (hb.here ?_)))
  split
  · rename_i q
    have e : PySem.W.subIn K tb (.ref C) = some false := by
      rcases Bool.or_eq_true_iff.mp hn with e | e
      · rw [beq_iff_eq.mp e] at q; simp at q
      · exact beq_iff_eq.mp e
    refine wpAny_bind ((PySem.W.looks_subIn X e).here ?_)
    simp only [Bool.false_eq_true, if_false]
    refine wpAny_bind (wpAny_mono one (fun r s' z => ?_) fun _ _ e => e)
    obtain ⟨v, rfl, hq⟩ := z
    exact wpAny_pure hq
  · refine wpAny_bind (wpAny_pure ?_)
    simp only [Bool.false_eq_true, if_false]
    refine wpAny_bind (wpAny_mono one (fun r s' z => ?_) fun _ _ e => e)
    obtain ⟨v, rfl, hq⟩ := z
    exact wpAny_pure hq
end
def rNeO (C D : Addr) (sp : Sp) (E : XK) : R2 := fun x y H Q => ∃ a b dx dy fs gs, x = .ref a ∧ y = .ref b ∧ H a = some (.ins C dx fs) ∧ H b = some (.ins D dy gs) ∧ sp [.ref a, .ref b] H (fun v H' => ∃ c, v = .bl c ∧ Q (.bl (!c)) H') E
theorem op_neO {X : Cx} {k : Nat} {C D f : Addr} {ps : List Str} {sp : Sp} {E : XK} (G : OkD X.prog X.w X.K X.mg X.base k f ps sp) (hr : Room (k + 1) X.A) (hs : PySem.W.findIn X.K (.ref C) "__eq__" = some (some (.ref f))) (hf : PySem.W.isFn X.K (.ref f) = true)
    (hne : PySem.W.findIn X.K (.ref C) "__ne__" = some (some (.builtin "object.__ne__"))) (hm : PySem.W.mroIn X.K C (.type "object") = some true) (hn : PySem.W.notFirst X.K C (.ref D) = true) (hx : Passes (HK.CX X.prog X.w) X E) : OpR X (compareOp .NotEq) (rNeO C D sp E) := by
  obtain ⟨kp, fd, hb, F, _⟩ := G
  intro pins s σ H x y v u Q I rx ry hq
  obtain ⟨a, b, dx, dy, fs, gs, rfl, rfl, ha, hb', q⟩ := hq
  cases rx
  cases ry
  show wpAny (model X.prog X.w) X.A (richCompare .NotEq (.ref a) (.ref b)) (EP X pins σ Q) X.xe s
  obtain ⟨_, J, _⟩ := ins_get I.hok ha
  obtain ⟨_, J', _⟩ := ins_get I.hok hb'
  obtain ⟨od, J, _⟩ := J.look
  obtain ⟨od', J', _⟩ := J'.look
  obtain ⟨m, hF⟩ := I.fr
  refine ne_cmp (tb := .ref D) (hr.in1.units0) hF I.ok.mod.kin J J'.type hn hne hm hs hf ?_
  have two : Vals [V.ref a, V.ref b] [Value.ref a, Value.ref b] := .cons rfl (.cons rfl .nil)
  have hl : ([Value.ref a, Value.ref b] : List Value).length = ps.length := F.len _ _ _ _ q
  have bd := hb s [.ref a, .ref b] I.kIn (by simpa using hl)
  rw [List.append_nil] at bd
  refine wpAny_call (codeAny_mono (F.run X.A.in1 X.stack s H ⟨[.ref a, .ref b], []⟩ _ _ _ E hr.in1 I.env0.in1 bd two q) fun r s' ended => ?_)
  match r, ended with
  | .error e, ended => exact hx pins σ H s e s' I ended
  | .ok (.ret w), ended =>
    obtain ⟨z, H', I', rz, ⟨c, ez, g⟩⟩ := I.after ended
    subst ez
    cases rz
    exact ⟨c, rfl, .bl _, H', I', rfl, g⟩
end RX

/-! calls where defaults fill up, calls by keywords; methods in a try's body -/
namespace RX
open PySem PySem.Spec PyProof.Rows L2
section
variable {P : Program} {w : World} {K : PySem.W.Frag} {mg : Str → Option Value} {base : Heap}
/-- the defaults behind the first j fill up -/
theorem OkD.part {x qual : Str} {st : Stmt} {f : Addr} {ps : List Str} {dvs : List V} {k : Nat} {sp : Sp} (G : OkD P w K mg base k f ps sp) (D : DefV K x qual st dvs f) (n j : Nat) (hd : dvs ≠ []) (hn : n + (dvs.length - j) = ps.length)
    (h : ∀ (T : Addr) (kV doc pm : Value) (an : Option Addr) (cdv ct : Value) (us its : List Value), us.length = n → its.length = dvs.length →
      ∃ k, bindArgs (PySem.W.fnOf x qual (defArgs st) (defBody st) (defScope st) (.ref T) kV doc pm an cdv ct) ⟨us, []⟩ = seqItems? (.ref T) >>= k ∧ k (some its.toArray) = pure (ps.zip (us ++ its.drop j))) :
    PySem.W.keepIn K (.ref f) = true ∧ ∃ fd ds, Vals (dvs.drop j) ds ∧ Binds K fd ps ds ∧ FnOk P w K mg base (HK.CX P w) k f fd ps sp := by
  obtain ⟨kp, fd, _, F, oc, od, osl, lk⟩ := G
  obtain ⟨fd2, F2⟩ := D
  obtain ⟨oc2, od2, osl2, lk2⟩ := fund_at F2
  have same : fd2 = fd := by
    rw [lk] at lk2
    cases lk2
    rfl
  subst same
  obtain ⟨ds, rel, bind⟩ := F2.binds1 n j hd hn h
  exact ⟨kp, fd2, ds, rel, bind, F⟩
/-- by keywords, no defaults -/
theorem OkD.keys {x qual : Str} {st : Stmt} {f : Addr} {ps : List Str} {k : Nat} {sp : Sp} (G : OkD P w K mg base k f ps sp) (D : DefAt K x qual st f) (n : Nat) (ks : List Str) (g : {α : Type} → List α → List α → List α)
    (rel : ∀ {vs zs : List V} {us ws : List Value}, Vals vs us → Vals zs ws → Vals (g vs zs) (g us ws))
    (h : ∀ (kV doc pm : Value) (an : Option Addr) (cdv ct : Value) (us ws : List Value), us.length = n → ws.length = ks.length → bindArgs (PySem.W.fnOf x qual (defArgs st) (defBody st) (defScope st) .none kV doc pm an cdv ct) ⟨us, ks.zip ws⟩ = pure (ps.zip (g us ws))) :
    PySem.W.keepIn K (.ref f) = true ∧ ∃ fd, KBn K fd ps n ks (fun us ws => g us ws) (fun vs zs => g vs zs) ∧ FnOk P w K mg base (HK.CX P w) k f fd ps sp := by
  obtain ⟨kp, fd, _, F, oc, od, osl, lk⟩ := G
  obtain ⟨fd2, F2⟩ := D
  obtain ⟨oc2, od2, dV, kV, doc, pm, an, cdv, ct, osl2, efd, lk2, _, hD, _⟩ := F2.ex
  have same : fd2 = fd := by
    rw [lk] at lk2
    cases lk2
    rfl
  rcases hD with ⟨_, rfl⟩ | ⟨no, _⟩
  · refine ⟨kp, fd, ⟨fun s us ws _ l1 l2 => .of_eq ?_, fun a b => rel a b⟩, F⟩
    rw [← same, efd]
    exact h kV doc pm an cdv ct us ws l1 l2
  · exact absurd rfl no
/-- by keywords, defaults fill up -/
theorem OkD.keysV {x qual : Str} {st : Stmt} {f : Addr} {ps : List Str} {dvs : List V} {k : Nat} {sp : Sp} (G : OkD P w K mg base k f ps sp) (D : DefV K x qual st dvs f) (hd : dvs ≠ []) (n : Nat) (ks : List Str) (g : {α : Type} → List α → List α → List α → List α)
    (rel : ∀ {vs ds zs : List V} {us its ws : List Value}, Vals vs us → Vals ds its → Vals zs ws → Vals (g vs ds zs) (g us its ws))
    (h : ∀ (T : Addr) (kV doc pm : Value) (an : Option Addr) (cdv ct : Value) (us its ws : List Value), us.length = n → its.length = dvs.length → ws.length = ks.length →
      ∃ k, bindArgs (PySem.W.fnOf x qual (defArgs st) (defBody st) (defScope st) (.ref T) kV doc pm an cdv ct) ⟨us, ks.zip ws⟩ = seqItems? (.ref T) >>= k ∧ k (some its.toArray) = pure (ps.zip (g us its ws))) :
    PySem.W.keepIn K (.ref f) = true ∧ ∃ fd its, KBn K fd ps n ks (fun us ws => g us its ws) (fun vs zs => g vs dvs zs) ∧ FnOk P w K mg base (HK.CX P w) k f fd ps sp := by
  obtain ⟨kp, fd, _, F, oc, od, osl, lk⟩ := G
  obtain ⟨fd2, F2⟩ := D
  obtain ⟨oc2, od2, dV, kV, doc, pm, an, cdv, ct, osl2, efd, lk2, _, hD, _⟩ := F2.ex
  have same : fd2 = fd := by
    rw [lk] at lk2
    cases lk2
    rfl
  rcases hD with ⟨no, _⟩ | ⟨_, T, o, its, m, rfl, lT, oT, rT⟩
  · exact absurd no hd
  · refine ⟨kp, fd, its, ⟨fun s us ws X0 l1 l2 => L2.BindsTo.of_looks fun M => ?_, fun a b => rel a rT b⟩, F⟩
    obtain ⟨k, e1, e2⟩ := h T kV doc pm an cdv ct us its ws l1 rT.length.symm l2
    rw [← same, efd, e1]
    exact looks_items X0 lT oT (.of_pure e2)
end
section
variable {X : Cx} {k n : Nat} {f C : Addr} {fd : FuncData} {ps ks : List Str} {sp : Sp} {ES : L2.St → XK} {x m : Str} {p pos apos : Pos} {e o : Expr} {es : List Expr} {kws : List Keyword} {ta : TE} {t tk : TA} {dvs : List V} {ds : List Value} {g : List Value → List Value → List Value} {gV : List V → List V → List V}
/-- a method; what is raised is wished for at the slots; defaults fill up -/
def tMethD (C : Addr) (m : Str) (sp : Sp) (dvs : List V) (ES : L2.St → XK) (ta : TE) (t : TA) : TE := fun σ H Q => ta σ H fun x H1 => ∃ a dx fs, x = .ref a ∧ H1 a = some (.ins C dx fs) ∧ fs.lookup m = none ∧ t σ H1 fun vs H2 => sp ((x :: vs) ++ dvs) H2 Q (ES σ)
theorem pe_methD {pl : Sem Bool} (he : PE X o ta) (c : Cls X.K C) (hm : Meth X.K C m f) (F : FnOk X.prog X.w X.K X.mg X.base (HK.CX X.prog X.w) k f fd ps sp) (hr : Room k X.A) (hb : Binds X.K fd ps ds) (hd : Vals dvs ds) (hx : ∀ σ, PassesAt (HK.CX X.prog X.w) X σ (ES σ)) (ha : PA X (e :: es) t)
    (hst : starEach (e :: es) X.env = (false, eval e X.env) :: starEach es X.env := by rfl) (hpl : (backTo pos (starEach es X.env)).any (·.1) = false := by rfl)
    (ht : eval (.Call (.Attribute o m apos) (e :: es) [] pos) X.env = (do
      let ov ← eval o X.env
      standAt apos.atName
      let (f, first) ← holding [ov] (getMethod ov m pl)
      callWith pos f first (backTo pos (starEach (e :: es) X.env)) (backToKw pos (keywordEach [] X.env))) := by rfl) :
    PE X (.Call (.Attribute o m apos) (e :: es) [] pos) (tMethD C m sp dvs ES ta t) := by
  constructor
  intro pins s σ H Q I h
  refine PySem.W.methodCall_KW (pl := pl) (thn (he.run pins s σ H _ I h) fun u s1 ⟨x, H1, I1, rx, a, dx, fs, ex, ea, l, q⟩ => ?_) ht
  subst ex
  cases (show u = Value.ref a from rx)
  refine getmeth_ok I1 ea c hm l (PySem.W.callWith_K (first := [.ref a]) (h₀ := X.base) I.ok.mod.kin hm.kp (thn (ha.run pos pins s1 σ H1 _ I1 q) fun us s2 ⟨vs, H2, I2, r, q2⟩ => ⟨I2.kIn, ?_⟩) hst hpl)
  exact run_fnSD (vs := .ref a :: vs) F hr hb hd (hx σ) I2 (.cons rfl r) q2
theorem pe_methD0 {pl : Sem Bool} (he : PE X o ta) (c : Cls X.K C) (hm : Meth X.K C m f) (F : FnOk X.prog X.w X.K X.mg X.base (HK.CX X.prog X.w) k f fd ps sp) (hr : Room k X.A) (hb : Binds X.K fd ps ds) (hd : Vals dvs ds) (hx : ∀ σ, PassesAt (HK.CX X.prog X.w) X σ (ES σ))
    (ht : eval (.Call (.Attribute o m apos) [] [] pos) X.env = (do
      let ov ← eval o X.env
      standAt apos.atName
      let (f, first) ← holding [ov] (getMethod ov m pl)
      callWith pos f first (backTo pos (starEach [] X.env)) (backToKw pos (keywordEach [] X.env))) := by rfl) :
    PE X (.Call (.Attribute o m apos) [] [] pos) (tMethD C m sp dvs ES ta tNil) := by
  constructor
  intro pins s σ H Q I h
  refine PySem.W.methodCall_KW (pl := pl) (thn (he.run pins s σ H _ I h) fun u s1 ⟨x, H1, I1, rx, a, dx, fs, ex, ea, l, q⟩ => ?_) ht
  subst ex
  cases (show u = Value.ref a from rx)
  exact getmeth_ok I1 ea c hm l (PySem.W.callWith_K0 (first := [.ref a]) I1.kIn hm.kp (run_fnSD (us := [.ref a]) (vs := [.ref a]) F hr hb hd (hx σ) I1 (.cons rfl .nil) q))
/-- a call by keywords runs -/
theorem run_kw {pins : List (Addr × Obj)} {σ : L2.St} {H : Hp} {s : Shared} {Q : VK} {us ws : List Value} {vs zs : List V} (F : FnOk X.prog X.w X.K X.mg X.base (HK.CX X.prog X.w) k f fd ps sp) (hr : Room k X.A) (hb : KBn X.K fd ps n ks g gV) (hx : PassesAt (HK.CX X.prog X.w) X σ (ES σ))
    (I : Inv X pins σ H s) (r : Vals vs us) (rz : Vals zs ws) (l1 : vs.length = n) (l2 : zs.length = ks.length) (h : sp (gV vs zs) H Q (ES σ)) : wpAny (model X.prog X.w) X.A (call (.ref f) us (ks.zip ws)) (EP X pins σ Q) X.xe s := by
  have n1 : us.length = n := r.length ▸ l1
  have n2 : ws.length = ks.length := rz.length ▸ l2
  refine wpAny_call (codeAny_mono (F.run X.A X.stack s H ⟨us, ks.zip ws⟩ _ _ Q (ES σ) hr I.env0 (hb.to s us ws I.kIn n1 n2) (hb.rel r rz) h) fun res s2 ended => ?_)
  match res, ended with
  | .error u, ended => exact hx pins H s u s2 I ended
  | .ok (.ret u), ended => exact I.after ended
/-- o.m(.., k = v, ..) -/
def tMethK (C : Addr) (m : Str) (n j : Nat) (sp : Sp) (gV : List V → List V → List V) (ES : L2.St → XK) (ta : TE) (t tk : TA) : TE := fun σ H Q => ta σ H fun x H1 => ∃ a dx fs, x = .ref a ∧ H1 a = some (.ins C dx fs) ∧ fs.lookup m = none ∧
  t σ H1 fun vs H2 => tk σ H2 fun zs H3 => (x :: vs).length = n ∧ zs.length = j ∧ sp (gV (x :: vs) zs) H3 Q (ES σ)
theorem pe_methK {pl : Sem Bool} (he : PE X o ta) (c : Cls X.K C) (hm : Meth X.K C m f) (F : FnOk X.prog X.w X.K X.mg X.base (HK.CX X.prog X.w) k f fd ps sp) (hr : Room k X.A) (hb : KBn X.K fd ps n ks g gV) (hx : ∀ σ, PassesAt (HK.CX X.prog X.w) X σ (ES σ)) (ha : PA X (e :: es) t) (hkw : PK X kws tk)
    (hall : (backToKw pos (keywordEach kws X.env)).all (·.1.isSome) = true := by rfl) (hks : (backToKw pos (keywordEach kws X.env)).filterMap (·.1) = ks := by rfl)
    (hst : starEach (e :: es) X.env = (false, eval e X.env) :: starEach es X.env := by rfl) (hpl : ((backTo pos (starEach (e :: es) X.env)).any (·.1) || (backToKw pos (keywordEach kws X.env)).any (·.1.isNone)) = false := by rfl)
    (ht : eval (.Call (.Attribute o m apos) (e :: es) kws pos) X.env = (do
      let ov ← eval o X.env
      standAt apos.atName
      let (f, first) ← holding [ov] (getMethod ov m pl)
      callWith pos f first (backTo pos (starEach (e :: es) X.env)) (backToKw pos (keywordEach kws X.env))) := by rfl) :
    PE X (.Call (.Attribute o m apos) (e :: es) kws pos) (tMethK C m n ks.length sp gV ES ta t tk) := by
  constructor
  intro pins s σ H Q I h
  refine PySem.W.methodCall_KW (pl := pl) (thn (he.run pins s σ H _ I h) fun u s1 ⟨x, H1, I1, rx, a, dx, fs, ex, ea, l, q⟩ => ?_) ht
  subst ex
  cases (show u = Value.ref a from rx)
  refine getmeth_ok I1 ea c hm l (PySem.W.callWith_KW (first := [.ref a]) (h₀ := X.base) I.ok.mod.kin hm.kp hall (thn (ha.run pos pins s1 σ H1 _ I1 q) fun us s2 ⟨vs, H2, I2, r, q2⟩ => ?_) hpl hst)
  refine thn (hkw.run pos pins s2 σ H2 _ I2 q2) fun ws s3 ⟨zs, H3, I3, rz, l1, l2, q3⟩ => ⟨I3.kIn, ?_⟩
  rw [hks]
  exact run_kw (us := .ref a :: us) (vs := .ref a :: vs) F hr hb (hx σ) I3 (.cons rfl r) rz l1 l2 q3
theorem pe_methK0 {pl : Sem Bool} (he : PE X o ta) (c : Cls X.K C) (hm : Meth X.K C m f) (F : FnOk X.prog X.w X.K X.mg X.base (HK.CX X.prog X.w) k f fd ps sp) (hr : Room k X.A) (hb : KBn X.K fd ps n ks g gV) (hx : ∀ σ, PassesAt (HK.CX X.prog X.w) X σ (ES σ)) (hkw : PK X kws tk)
    (hall : (backToKw pos (keywordEach kws X.env)).all (·.1.isSome) = true := by rfl) (hks : (backToKw pos (keywordEach kws X.env)).filterMap (·.1) = ks := by rfl)
    (hpl : ((backTo pos (starEach [] X.env)).any (·.1) || (backToKw pos (keywordEach kws X.env)).any (·.1.isNone)) = false := by rfl)
    (ht : eval (.Call (.Attribute o m apos) [] kws pos) X.env = (do
      let ov ← eval o X.env
      standAt apos.atName
      let (f, first) ← holding [ov] (getMethod ov m pl)
      callWith pos f first (backTo pos (starEach [] X.env)) (backToKw pos (keywordEach kws X.env))) := by rfl) :
    PE X (.Call (.Attribute o m apos) [] kws pos) (tMethK C m n ks.length sp gV ES ta tNil tk) := by
  constructor
  intro pins s σ H Q I h
  refine PySem.W.methodCall_KW (pl := pl) (thn (he.run pins s σ H _ I h) fun u s1 ⟨x, H1, I1, rx, a, dx, fs, ex, ea, l, q⟩ => ?_) ht
  subst ex
  cases (show u = Value.ref a from rx)
  refine getmeth_ok I1 ea c hm l (PySem.W.callWith_KW0 (first := [.ref a]) (h₀ := X.base) I.ok.mod.kin hm.kp hall (thn (hkw.run pos pins s1 σ H1 _ I1 q) fun ws s3 ⟨zs, H3, I3, rz, l1, l2, q3⟩ => ⟨I3.kIn, ?_⟩) hpl)
  rw [hks]
  exact run_kw (us := [.ref a]) (vs := [.ref a]) F hr hb (hx σ) I3 (.cons rfl .nil) rz l1 l2 q3
/-- f(.., k = v, ..) -/
def tFnK (n j : Nat) (sp : Sp) (gV : List V → List V → List V) (ES : L2.St → XK) (t tk : TA) : TE := fun σ H Q => t σ H fun vs H2 => tk σ H2 fun zs H3 => vs.length = n ∧ zs.length = j ∧ sp (gV vs zs) H3 Q (ES σ)
theorem pe_fnK (F : FnOk X.prog X.w X.K X.mg X.base (HK.CX X.prog X.w) k f fd ps sp) (hr : Room k X.A) (hg : Gl X x) (hm : X.mg x = some (.ref f)) (kp : PySem.W.keepIn X.K (.ref f) = true) (hb : KBn X.K fd ps n ks g gV) (hx : ∀ σ, PassesAt (HK.CX X.prog X.w) X σ (ES σ)) (ha : PA X (e :: es) t) (hkw : PK X kws tk)
    (hall : (backToKw pos (keywordEach kws X.env)).all (·.1.isSome) = true := by rfl) (hks : (backToKw pos (keywordEach kws X.env)).filterMap (·.1) = ks := by rfl) (hdb : (x == ("__debug__" : Str)) = false := by decide)
    (hst : starEach (e :: es) X.env = (false, eval e X.env) :: starEach es X.env := by rfl) (hpl : ((backTo pos (starEach (e :: es) X.env)).any (·.1) || (backToKw pos (keywordEach kws X.env)).any (·.1.isNone)) = false := by rfl) :
    PE X (.Call (.Name x p) (e :: es) kws pos) (tFnK n ks.length sp gV ES t tk) := by
  constructor
  intro pins s σ H Q I h
  refine wpAny_Call_Name_kw (ld_glob I hg hm (PySem.W.callWith_KW (h₀ := X.base) I.ok.mod.kin kp hall (thn (ha.run pos pins s σ H _ I h) fun us s2 ⟨vs, H2, I2, r, q2⟩ => ?_) hpl hst) hdb)
  refine thn (hkw.run pos pins s2 σ H2 _ I2 q2) fun ws s3 ⟨zs, H3, I3, rz, l1, l2, q3⟩ => ⟨I3.kIn, ?_⟩
  rw [hks]
  exact run_kw (us := us) (vs := vs) F hr hb (hx σ) I3 r rz l1 l2 q3
theorem pe_fnK0 (F : FnOk X.prog X.w X.K X.mg X.base (HK.CX X.prog X.w) k f fd ps sp) (hr : Room k X.A) (hg : Gl X x) (hm : X.mg x = some (.ref f)) (kp : PySem.W.keepIn X.K (.ref f) = true) (hb : KBn X.K fd ps n ks g gV) (hx : ∀ σ, PassesAt (HK.CX X.prog X.w) X σ (ES σ)) (hkw : PK X kws tk)
    (hall : (backToKw pos (keywordEach kws X.env)).all (·.1.isSome) = true := by rfl) (hks : (backToKw pos (keywordEach kws X.env)).filterMap (·.1) = ks := by rfl) (hdb : (x == ("__debug__" : Str)) = false := by decide)
    (hpl : ((backTo pos (starEach [] X.env)).any (·.1) || (backToKw pos (keywordEach kws X.env)).any (·.1.isNone)) = false := by rfl) :
    PE X (.Call (.Name x p) [] kws pos) (tFnK n ks.length sp gV ES tNil tk) := by
  constructor
  intro pins s σ H Q I h
  refine wpAny_Call_Name_kw (ld_glob I hg hm (PySem.W.callWith_KW0 (h₀ := X.base) I.ok.mod.kin kp hall (thn (hkw.run pos pins s σ H _ I h) fun ws s3 ⟨zs, H3, I3, rz, l1, l2, q3⟩ => ⟨I3.kIn, ?_⟩) hpl) hdb)
  rw [hks]
  exact run_kw (us := []) (vs := []) F hr hb (hx σ) I3 .nil rz l1 l2 q3
theorem passAtC {E0 : XK} (h : Passes (HK.CX X.prog X.w) X E0) : ∀ σ, PassesAt (HK.CX X.prog X.w) X σ ((fun _ => E0) σ) := fun σ pins H s e s' I c => h pins σ H s e s' I c
theorem pe_mtT {pl : Sem Bool} (he : PE X o ta) (c : Cls X.K C) (hm : Meth X.K C m f) (G : OkD X.prog X.w X.K X.mg X.base k f ps sp) (hr : Room k X.A) (hx : ∀ σ, PassesAt (HK.CX X.prog X.w) X σ (ES σ)) (ha : PA X (e :: es) t)
    (hst : starEach (e :: es) X.env = (false, eval e X.env) :: starEach es X.env := by rfl) (hpl : (backTo pos (starEach es X.env)).any (·.1) = false := by rfl)
    (ht : eval (.Call (.Attribute o m apos) (e :: es) [] pos) X.env = (do
      let ov ← eval o X.env
      standAt apos.atName
      let (f, first) ← holding [ov] (getMethod ov m pl)
      callWith pos f first (backTo pos (starEach (e :: es) X.env)) (backToKw pos (keywordEach [] X.env))) := by rfl) :
    PE X (.Call (.Attribute o m apos) (e :: es) [] pos) (tMethD C m sp [] ES ta t) := by
  obtain ⟨kp, fd, hb, F, _⟩ := G
  exact pe_methD he c hm F hr hb .nil hx ha hst hpl ht
theorem pe_mtT0 {pl : Sem Bool} (he : PE X o ta) (c : Cls X.K C) (hm : Meth X.K C m f) (G : OkD X.prog X.w X.K X.mg X.base k f ps sp) (hr : Room k X.A) (hx : ∀ σ, PassesAt (HK.CX X.prog X.w) X σ (ES σ))
    (ht : eval (.Call (.Attribute o m apos) [] [] pos) X.env = (do
      let ov ← eval o X.env
      standAt apos.atName
      let (f, first) ← holding [ov] (getMethod ov m pl)
      callWith pos f first (backTo pos (starEach [] X.env)) (backToKw pos (keywordEach [] X.env))) := by rfl) :
    PE X (.Call (.Attribute o m apos) [] [] pos) (tMethD C m sp [] ES ta tNil) := by
  obtain ⟨kp, fd, hb, F, _⟩ := G
  exact pe_methD0 he c hm F hr hb .nil hx ht
/-- what a call with defaults has at hand -/
def Part (X : Cx) (k : Nat) (f : Addr) (ps : List Str) (sp : Sp) (dvs : List V) : Prop := PySem.W.keepIn X.K (.ref f) = true ∧ ∃ fd ds, Vals dvs ds ∧ Binds X.K fd ps ds ∧ FnOk X.prog X.w X.K X.mg X.base (HK.CX X.prog X.w) k f fd ps sp
theorem pe_mtP {pl : Sem Bool} (he : PE X o ta) (c : Cls X.K C) (hm : Meth X.K C m f) (G : Part X k f ps sp dvs) (hr : Room k X.A) (hx : ∀ σ, PassesAt (HK.CX X.prog X.w) X σ (ES σ)) (ha : PA X (e :: es) t)
    (hst : starEach (e :: es) X.env = (false, eval e X.env) :: starEach es X.env := by rfl) (hpl : (backTo pos (starEach es X.env)).any (·.1) = false := by rfl)
    (ht : eval (.Call (.Attribute o m apos) (e :: es) [] pos) X.env = (do
      let ov ← eval o X.env
      standAt apos.atName
      let (f, first) ← holding [ov] (getMethod ov m pl)
      callWith pos f first (backTo pos (starEach (e :: es) X.env)) (backToKw pos (keywordEach [] X.env))) := by rfl) :
    PE X (.Call (.Attribute o m apos) (e :: es) [] pos) (tMethD C m sp dvs ES ta t) := by
  obtain ⟨kp, fd, ds, hd, hb, F⟩ := G
  exact pe_methD he c hm F hr hb hd hx ha hst hpl ht
theorem pe_mkP {E : XK} (M : Mk X.K C f) (G : Part X k f ps sp dvs) (hr : Room (k + 1) X.A) (hg : Gl X x) (hm : X.mg x = some (.ref C)) (hx : Passes (HK.CX X.prog X.w) X E)
    (ha : PA X (e :: es) t) (hdb : (x == ("__debug__" : Str)) = false := by decide) (he : starEach (e :: es) X.env = (false, eval e X.env) :: starEach es X.env := by rfl) (hpl : (backTo pos (starEach es X.env)).any (·.1) = false := by rfl) :
    PE X (.Call (.Name x p) (e :: es) [] pos) (tMake C sp dvs E t) := by
  obtain ⟨kp, fd, ds, hd, hb, F⟩ := G
  exact pe_make M F hr hg hm hb hd hx ha hdb he hpl
theorem pe_fnP' {E : XK} (G : Part X k f ps sp dvs) (hr : Room k X.A) (hg : Gl X x) (hm : X.mg x = some (.ref f)) (hx : Passes (HK.CX X.prog X.w) X E)
    (ha : PA X (e :: es) t) (hdb : (x == ("__debug__" : Str)) = false := by decide) (he : starEach (e :: es) X.env = (false, eval e X.env) :: starEach es X.env := by rfl) (hpl : (backTo pos (starEach es X.env)).any (·.1) = false := by rfl) :
    PE X (.Call (.Name x p) (e :: es) [] pos) (tCall sp dvs E t) := by
  obtain ⟨kp, fd, ds, hd, hb, F⟩ := G
  exact pe_call F hr hg hm kp hb hd hx ha hdb he hpl
end
/-! ### the values by the parameters' order: (true, i) the i-th keyword's, (false, i) the i-th default -/
def pk {α : Type} (is : List (Bool × Nat)) (ws its : List α) : List α := is.filterMap fun p => if p.1 = true then ws[p.2]? else its[p.2]?
theorem pk_rel {α β : Type} {F : α → β → Prop} {ws its : List α} {us jts : List β} (h : PySem.Paired F ws us) (g : PySem.Paired F its jts) : ∀ is : List (Bool × Nat), PySem.Paired F (pk is ws its) (pk is us jts)
  | [] => .nil
  | (b, i) :: is => by
    have at_ : ∀ {l : List α} {m : List β} (i : Nat), PySem.Paired F l m → (l[i]? = none ∧ m[i]? = none) ∨ ∃ x y, l[i]? = some x ∧ m[i]? = some y ∧ F x y := by
      intro l m i q
      induction q generalizing i with
      | nil => exact .inl ⟨by simp, by simp⟩
      | cons a t ih =>
        cases i with
        | zero => exact .inr ⟨_, _, rfl, rfl, a⟩
        | succ i => simpa using ih i
    have e : ∀ {γ : Type} (l m : List γ), pk ((b, i) :: is) l m = (match (if b = true then l[i]? else m[i]?) with
        | some z => z :: pk is l m
        | none => pk is l m) := fun l m => by
      unfold pk
      rw [List.filterMap_cons]
      split <;> simp_all
    rw [e, e]
    cases b with
    | true =>
      rcases at_ i h with ⟨a1, a2⟩ | ⟨x, y, a1, a2, a3⟩
      · simp only [if_true, a1, a2]; exact pk_rel h g is
      · simp only [if_true, a1, a2]; exact .cons a3 (pk_rel h g is)
    | false =>
      rcases at_ i g with ⟨a1, a2⟩ | ⟨x, y, a1, a2, a3⟩
      · simp only [Bool.false_eq_true, if_false, a1, a2]; exact pk_rel h g is
      · simp only [Bool.false_eq_true, if_false, a1, a2]; exact .cons a3 (pk_rel h g is)
theorem OkD.part' {X : Cx} {x qual : Str} {st : Stmt} {f : Addr} {ps : List Str} {dvs : List V} {k : Nat} {sp : Sp} (G : OkD X.prog X.w X.K X.mg X.base k f ps sp) (D : DefV X.K x qual st dvs f) (n j : Nat) (dv : List V) (e : dvs.drop j = dv) (hd : dvs ≠ []) (hn : n + (dvs.length - j) = ps.length)
    (h : ∀ (T : Addr) (kV doc pm : Value) (an : Option Addr) (cdv ct : Value) (us its : List Value), us.length = n → its.length = dvs.length →
      ∃ k, bindArgs (PySem.W.fnOf x qual (defArgs st) (defBody st) (defScope st) (.ref T) kV doc pm an cdv ct) ⟨us, []⟩ = seqItems? (.ref T) >>= k ∧ k (some its.toArray) = pure (ps.zip (us ++ its.drop j))) : Part X k f ps sp dv := by
  subst e
  exact G.part D n j hd hn h
/-- what a call by keywords has at hand -/
def Keys (X : Cx) (k : Nat) (f : Addr) (ps : List Str) (sp : Sp) (n : Nat) (ks : List Str) (gV : List V → List V → List V) : Prop := PySem.W.keepIn X.K (.ref f) = true ∧ ∃ fd g, KBn X.K fd ps n ks g gV ∧ FnOk X.prog X.w X.K X.mg X.base (HK.CX X.prog X.w) k f fd ps sp
theorem vals_app {a b : List V} {c d : List Value} (h : Vals a c) (g : Vals b d) : Vals (a ++ b) (c ++ d) := h.append g
theorem OkD.keys' {X : Cx} {x qual : Str} {st : Stmt} {f : Addr} {ps : List Str} {k : Nat} {sp : Sp} (G : OkD X.prog X.w X.K X.mg X.base k f ps sp) (D : DefAt X.K x qual st f) (n : Nat) (ks : List Str) (is : List (Bool × Nat))
    (h : ∀ (kV doc pm : Value) (an : Option Addr) (cdv ct : Value) (us ws : List Value), us.length = n → ws.length = ks.length → bindArgs (PySem.W.fnOf x qual (defArgs st) (defBody st) (defScope st) .none kV doc pm an cdv ct) ⟨us, ks.zip ws⟩ = pure (ps.zip (us ++ pk is ws []))) :
    Keys X k f ps sp n ks (fun vs zs => vs ++ pk is zs []) := by
  obtain ⟨kp, fd, hb, F⟩ := G.keys D n ks (fun us ws => us ++ pk is ws []) (fun r1 r2 => vals_app r1 (pk_rel r2 .nil is)) h
  exact ⟨kp, fd, _, hb, F⟩
theorem OkD.keysV' {X : Cx} {x qual : Str} {st : Stmt} {f : Addr} {ps : List Str} {dvs : List V} {k : Nat} {sp : Sp} (G : OkD X.prog X.w X.K X.mg X.base k f ps sp) (D : DefV X.K x qual st dvs f) (hd : dvs ≠ []) (n : Nat) (ks : List Str) (is : List (Bool × Nat))
    (h : ∀ (T : Addr) (kV doc pm : Value) (an : Option Addr) (cdv ct : Value) (us its ws : List Value), us.length = n → its.length = dvs.length → ws.length = ks.length →
      ∃ k, bindArgs (PySem.W.fnOf x qual (defArgs st) (defBody st) (defScope st) (.ref T) kV doc pm an cdv ct) ⟨us, ks.zip ws⟩ = seqItems? (.ref T) >>= k ∧ k (some its.toArray) = pure (ps.zip (us ++ pk is ws its))) :
    Keys X k f ps sp n ks (fun vs zs => vs ++ pk is zs dvs) := by
  obtain ⟨kp, fd, its, hb, F⟩ := G.keysV D hd n ks (fun us its ws => us ++ pk is ws its) (fun r1 r2 r3 => vals_app r1 (pk_rel r3 r2 is)) h
  exact ⟨kp, fd, _, hb, F⟩
section
variable {X : Cx} {k n : Nat} {f C : Addr} {ps ks : List Str} {sp : Sp} {ES : L2.St → XK} {x m : Str} {p pos apos : Pos} {e o : Expr} {es : List Expr} {kws : List Keyword} {ta : TE} {t tk : TA} {gV : List V → List V → List V}
theorem pe_mtK {pl : Sem Bool} (he : PE X o ta) (c : Cls X.K C) (hm : Meth X.K C m f) (G : Keys X k f ps sp n ks gV) (hr : Room k X.A) (hx : ∀ σ, PassesAt (HK.CX X.prog X.w) X σ (ES σ)) (ha : PA X (e :: es) t) (hkw : PK X kws tk)
    (hall : (backToKw pos (keywordEach kws X.env)).all (·.1.isSome) = true := by rfl) (hks : (backToKw pos (keywordEach kws X.env)).filterMap (·.1) = ks := by rfl)
    (hst : starEach (e :: es) X.env = (false, eval e X.env) :: starEach es X.env := by rfl) (hpl : ((backTo pos (starEach (e :: es) X.env)).any (·.1) || (backToKw pos (keywordEach kws X.env)).any (·.1.isNone)) = false := by rfl)
    (ht : eval (.Call (.Attribute o m apos) (e :: es) kws pos) X.env = (do
      let ov ← eval o X.env
      standAt apos.atName
      let (f, first) ← holding [ov] (getMethod ov m pl)
      callWith pos f first (backTo pos (starEach (e :: es) X.env)) (backToKw pos (keywordEach kws X.env))) := by rfl) :
    PE X (.Call (.Attribute o m apos) (e :: es) kws pos) (tMethK C m n ks.length sp gV ES ta t tk) := by
  obtain ⟨kp, fd, g, hb, F⟩ := G
  exact pe_methK he c hm F hr hb hx ha hkw hall hks hst hpl ht
theorem pe_mtK0 {pl : Sem Bool} (he : PE X o ta) (c : Cls X.K C) (hm : Meth X.K C m f) (G : Keys X k f ps sp n ks gV) (hr : Room k X.A) (hx : ∀ σ, PassesAt (HK.CX X.prog X.w) X σ (ES σ)) (hkw : PK X kws tk)
    (hall : (backToKw pos (keywordEach kws X.env)).all (·.1.isSome) = true := by rfl) (hks : (backToKw pos (keywordEach kws X.env)).filterMap (·.1) = ks := by rfl)
    (hpl : ((backTo pos (starEach [] X.env)).any (·.1) || (backToKw pos (keywordEach kws X.env)).any (·.1.isNone)) = false := by rfl)
    (ht : eval (.Call (.Attribute o m apos) [] kws pos) X.env = (do
      let ov ← eval o X.env
      standAt apos.atName
      let (f, first) ← holding [ov] (getMethod ov m pl)
      callWith pos f first (backTo pos (starEach [] X.env)) (backToKw pos (keywordEach kws X.env))) := by rfl) :
    PE X (.Call (.Attribute o m apos) [] kws pos) (tMethK C m n ks.length sp gV ES ta tNil tk) := by
  obtain ⟨kp, fd, g, hb, F⟩ := G
  exact pe_methK0 he c hm F hr hb hx hkw hall hks hpl ht
theorem pe_fnKw (G : Keys X k f ps sp n ks gV) (hr : Room k X.A) (hg : Gl X x) (hm : X.mg x = some (.ref f)) (hx : ∀ σ, PassesAt (HK.CX X.prog X.w) X σ (ES σ)) (ha : PA X (e :: es) t) (hkw : PK X kws tk)
    (hall : (backToKw pos (keywordEach kws X.env)).all (·.1.isSome) = true := by rfl) (hks : (backToKw pos (keywordEach kws X.env)).filterMap (·.1) = ks := by rfl) (hdb : (x == ("__debug__" : Str)) = false := by decide)
    (hst : starEach (e :: es) X.env = (false, eval e X.env) :: starEach es X.env := by rfl) (hpl : ((backTo pos (starEach (e :: es) X.env)).any (·.1) || (backToKw pos (keywordEach kws X.env)).any (·.1.isNone)) = false := by rfl) :
    PE X (.Call (.Name x p) (e :: es) kws pos) (tFnK n ks.length sp gV ES t tk) := by
  obtain ⟨kp, fd, g, hb, F⟩ := G
  exact pe_fnK F hr hg hm kp hb hx ha hkw hall hks hdb hst hpl
theorem pe_fnKw0 (G : Keys X k f ps sp n ks gV) (hr : Room k X.A) (hg : Gl X x) (hm : X.mg x = some (.ref f)) (hx : ∀ σ, PassesAt (HK.CX X.prog X.w) X σ (ES σ)) (hkw : PK X kws tk)
    (hall : (backToKw pos (keywordEach kws X.env)).all (·.1.isSome) = true := by rfl) (hks : (backToKw pos (keywordEach kws X.env)).filterMap (·.1) = ks := by rfl) (hdb : (x == ("__debug__" : Str)) = false := by decide)
    (hpl : ((backTo pos (starEach [] X.env)).any (·.1) || (backToKw pos (keywordEach kws X.env)).any (·.1.isNone)) = false := by rfl) :
    PE X (.Call (.Name x p) [] kws pos) (tFnK n ks.length sp gV ES tNil tk) := by
  obtain ⟨kp, fd, g, hb, F⟩ := G
  exact pe_fnK0 F hr hg hm kp hb hx hkw hall hks hdb hpl
end
end RX

/-! try: return d[k], except KeyError: raise C(e) from None -/
namespace RX
open PySem PySem.Spec PyProof.Rows L2
open L2H (RoomH FnH HotC Hot1 cxH)
/-- a def that is called where an exception is handled -/
def OkH (P : Program) (w : World) (K : PySem.W.Frag) (mg : Str → Option Value) (base : Heap) (k : Nat) (f : Addr) (ps : List Str) (sp : Sp) : Prop := PySem.W.keepIn K (.ref f) = true ∧ ∃ fd, Binds K fd ps [] ∧ FnH P w K mg base (HK.CX P w) k f fd ps sp
theorem OkH.of {P : Program} {w : World} {K : PySem.W.Frag} {mg : Str → Option Value} {base : Heap} {x qual : Str} {st : Stmt} {f : Addr} {N ps : List Str} {k : Nat} {sp : Sp} (F : DefAt K x qual st f) (S : FnScope N ps (defScope st))
    (hb : ∀ (kV doc pm : Value) (an : Option Addr) (cdv ct : Value) (us : List Value), us.length = ps.length → bindArgs (PySem.W.fnOf x qual (defArgs st) (defBody st) (defScope st) .none kV doc pm an cdv ct) ⟨us, []⟩ = pure (ps.zip us))
    (len : ∀ vs H Q E, sp vs H Q E → vs.length = ps.length)
    (hbody : ∀ (cdv : Value) (A : Around) (outer : List Env) (s : Shared) (H : Hp) (vs : List V) (Q : VK) (E : XK) (p : Addr × Obj), Hot1 A p → RoomH k (A.deeper (envOfC qual (defScope st) s.heap.objs.size f cdv)) → sp vs H Q E →
      ∃ t, PSs (cxH (HK.CX P w) P w K mg base N qual (defScope st) f cdv A outer s H E p) (defBody st) t ∧ t { nx := fun _ H' => Q .non H', rt := Q } (L2.start N vs) H) : OkH P w K mg base (k + 1) f ps sp := by
  obtain ⟨fd, F⟩ := F
  obtain ⟨oc, od, dV, kV, doc, pm, an, cdv, ct, osl, efd, lk, hcd, _⟩ := F.ex
  refine ⟨F.kp, fd, F.bindsN hb, ?_⟩
  subst efd
  exact L2H.fn_ofH lk hcd S len fun A outer s H vs Q E p hot room pr => hbody cdv A outer s H vs Q E p hot room pr
/-- d[k], where nothing is handled: a KeyError bears no context -/
theorem pe_dgetN {X : Cx} {W : L2.WX} {o i : Expr} {td ty : TE} {pos : Pos} (calm : X.calm = true) (room : X.A.units + 1 < cLine) (tk : L2N.Takes X W) (ho : PE X o td) (hi : PE X i ty) (ns : NoSl i) : PE X (.Subscript o i pos) (tDGetX W td ty) := by
  constructor
  intro pins s σ H Q I h
  refine subD_of PySem.F.slot_dict_getitem.lookup ns (thn (ho.run pins s σ H _ I h) fun u sa ⟨x, Ha, Ia, rx, qa⟩ => thn (hi.run pins sa σ Ha _ Ia qa) fun v sb ⟨y, Hb, Ib, ry, p, found, ex, get, there, gone⟩ => ?_)
  subst ex
  cases (show u = Value.ref p from rx)
  refine ⟨dict_typeIs Ib get, ?_⟩
  cases found with
  | none => exact d_missing room (Ib.ok.hd calm) Ib get ry fun h' e t' new => L2N.takes_newN (t' := t') tk Ib new (gone rfl)
  | some z => exact d_getItem room Ib get ry fun z' sc Ic rz => ⟨z, Hb, Ic, rz, there z rfl⟩
/-- the whole statement -/
def tKeyOr (K : PySem.W.Frag) (C : Addr) (f : Str) (td ty : TE) (ta : TA) (Wout : L2.WX) : TS := fun D σ H =>
  tRet (tDGetX (wOnly K (.type "KeyError") (fun _ _ _ _ σ H => tMkO C (spX1 C f) [] ta σ H fun cls d H' => Wout cls d σ H') Wout D) td ty) D σ H
section
variable {X : Cx} {o i : Expr} {td ty : TE} {ta : TA} {x f : Str} {e : Expr} {C fI : Addr} {k j : Nat} {ps : List Str} {p np pos hpos rpos pos1 pos2 pos3 cpos : Pos} {Wout : L2.WX}
theorem ps_keyOr (hs : X.stack = X.env :: X.outer) (hf : X.env.frame = some X.env.locals) (calm : X.calm = true) (room : Room (k + 1) X.A) (hc : Names X "KeyError" (.type "KeyError")) (hpa : ∀ hd : Option Value, PassesOwnAt (model X.prog X.w) (X.A.mark hd) X.A X.env X.xe) (tk : HK.Takes X Wout)
    (hd : ∀ (pn : List (Addr × Obj)) (xe : Value → Shared → Prop), PE (X.tr pn xe) o td) (hi : ∀ (pn : List (Addr × Obj)) (xe : Value → Shared → Prop), PE (X.tr pn xe) i ty) (ns : NoSl i)
    (T : OexC X.K C) (iC : PySem.W.findIn X.K (.ref C) "__init__" = some (some (.ref fI))) (tI : PySem.W.typeIn X.K (.ref fI) = some (.type "function")) (G : OkH X.prog X.w X.K X.mg X.base k fI ps (spX1 C f)) (hg : Gl X x) (hm : X.mg x = some (.ref C))
    (ha : ∀ (a : Addr) (pn : List (Addr × Obj)), PA (L2H.suiteX X a pn) [e] ta) (hdb : (x == ("__debug__" : Str)) = false := by decide) (he : starEach [e] X.env = (false, eval e X.env) :: starEach [] X.env := by rfl) :
    PS X (.Try [.Return (some (.Subscript o i pos1)) pos2] [.ExceptHandler (some (.Name "KeyError" np)) none [.Raise (some (.Call (.Name x p) [e] [] pos3)) (some (.Constant .none j cpos)) rpos] hpos] [] [] pos) (tKeyOr X.K C f td ty ta Wout) := by
  obtain ⟨kp, fd, hb, F⟩ := G
  exact HK.ps_tryN (pos := pos) (pos' := hpos) (np := np) (b₀ := .Raise (some (.Call (.Name x p) [e] [] pos3)) (some (.Constant .none j cpos)) rpos) (su := []) (tb := fun W => tRet (tDGetX W td ty)) (W₀ := Wout) hs hf hc hpa tk
    (body := [.Return (some (.Subscript o i pos1)) pos2])
    (ts := fun _ _ _ _ σ H => tMkO C (spX1 C f) [] ta σ H fun cls d H' => Wout cls d σ H')
    (fun W pn xe tkN po => pss_one (ps_ret (pe_dgetN calm (hu_of room) tkN (hd pn xe) (hi pn xe) ns)))
    (fun a oe cls d pn hz hfl tkS hot => pss_one (HK.ps_raiseN hot tkS (L2H.pmk5_oexH (X := L2H.suiteX X a ((a, oe) :: pn)) T iC tI F (L2H.roomH_mark room _) hot hb HK.passF hg hm (ha a _) hdb he rfl)))
end
end RX

/-! sorted(xs), xs a list of tuples of texts -/
namespace RX
open PySem PySem.Spec PyProof.Rows L2
/-- the order of tuples of texts -/
def wkey (x : List Str) : List (Int ⊕ List Nat) := x.map fun z => Sum.inr z.cps.toList
def ltW (x y : List Str) : Bool := lexLt itemOrd (wkey x) (wkey y)
theorem wkey_inj {x y : List Str} (h : wkey x = wkey y) : x = y := by
  induction x generalizing y with
  | nil => cases y with
    | nil => rfl
    | cons b t => cases h
  | cons a r ih =>
    cases y with
    | nil => cases h
    | cons b t =>
      injection h with h1 h2
      rw [ih h2]
      have : a.cps.toList = b.cps.toList := Sum.inr.inj h1
      obtain ⟨⟨a⟩⟩ := a
      obtain ⟨⟨b⟩⟩ := b
      cases (show a = b from this)
      rfl
theorem ltW_irr (x : List Str) : ltW x x = false := lex_irrefl _
theorem ltW_tot {x y : List Str} (h : ltW x y = false) (g : ltW y x = false) : x = y := wkey_inj (lex_total _ _ h g)
theorem ltW_asym {x y : List Str} (h : ltW x y = true) : ltW y x = false := by
  cases e : ltW y x with
  | false => rfl
  | true =>
    have := lex_trans _ _ _ h e
    rw [show lexLt itemOrd (wkey x) (wkey x) = false from lex_irrefl _] at this
    cases this
theorem ltW_neg {x y z : List Str} (h : ltW y x = false) (g : ltW z y = false) : ltW z x = false := by
  cases e : ltW z x with
  | false => rfl
  | true =>
    rcases lex_negTrans _ (wkey y) _ e with a | a
    · rw [show ltW z y = true from a] at g; cases g
    · rw [show ltW y x = true from a] at h; cases h
theorem perm_map_inv {α β : Type} {f : α → β} : ∀ {l : List β} {ps : List α}, l.Perm (ps.map f) → ∃ qs : List α, qs.Perm ps ∧ qs.map f = l
  | [], ps, h => by
    have : ps.map f = [] := h.symm.eq_nil
    cases ps with
    | nil => exact ⟨[], .refl _, rfl⟩
    | cons a b => cases this
  | x :: r, ps, h => by
    have hm : x ∈ ps.map f := h.subset List.mem_cons_self
    obtain ⟨b, hb, rfl⟩ := List.mem_map.mp hm
    obtain ⟨a, c, rfl⟩ := List.append_of_mem hb
    have p2 : (a ++ b :: c).Perm (b :: (a ++ c)) := List.perm_middle
    have h2 : (f b :: r).Perm (f b :: (a ++ c).map f) := h.trans (p2.map f)
    obtain ⟨qs, q1, q2⟩ := perm_map_inv (List.Perm.cons_inv h2)
    exact ⟨b :: qs, (q1.cons b).trans p2.symm, by rw [List.map_cons, q2]⟩
def rSortedW (K : PySem.W.Frag) : List V → Hp → VK → Prop := fun vs H Q => ∃ (a : Addr) (ps : List (Addr × List Str)), vs = [V.ref a] ∧ SqL K H a (ps.map fun p => V.ref p.1) ∧ (∀ p ∈ ps, H p.1 = some (.tup (p.2.map V.str)) ∧ p.2 ≠ []) ∧
  ∀ (qs : List (Addr × List Str)) (l : Addr), qs.Perm ps → qs.Pairwise (fun p q => ltW q.2 p.2 = false) → H l = none → Q (.ref l) (upd H l (.lst (qs.map fun p => V.ref p.1)))
theorem refs_vals : ∀ qs : List (Addr × List Str), Vals (qs.map fun p => V.ref p.1) (qs.map fun p => Value.ref p.1)
  | [] => .nil
  | _ :: qs => .cons rfl (refs_vals qs)
abbrev shp : Nat → Bool := fun _ => true
theorem items_strs : ∀ {zs : List Str} {us : List Value} (i : Nat), Vals (zs.map V.str) us → tupItems shp i us = some (wkey zs)
  | [], _, i, .nil => by simp [tupItems, wkey]
  | z :: zs, _, i, .cons h t => by
    obtain ⟨tk, rfl⟩ := h
    have := items_strs (i + 1) t
    simp [tupItems, shp, wkey] at this ⊢
    exact this
theorem cr_sortedW {X : Cx} : CallR X (.builtin "sorted") (rSortedW X.K) := by
  intro pins s σ H vs us Q I r h
  obtain ⟨a, ps, rfl, hs, hx, q⟩ := h
  obtain ⟨its, rv, hl, hz⟩ := I.list hs
  obtain ⟨u, rfl, ru⟩ := vals1 r
  cases (show u = Value.ref a from ru)
  have eits : its = ps.map fun p => Value.ref p.1 := by
    clear hs hx q hl hz
    generalize ep : (ps.map fun p => V.ref p.1) = l at rv
    induction rv generalizing ps with
    | nil =>
      cases ps with
      | nil => rfl
      | cons _ _ => cases ep
    | cons g t ih =>
      cases ps with
      | nil => cases ep
      | cons p ps =>
        injection ep with e1 e2
        subst e1
        rw [List.map_cons, ← ih ps e2]
        exact congrArg (· :: _) g
  have obj : ∀ p ∈ ps, ∃ o us n, s.heap.get? p.1 = some o ∧ o.cls = .type "tuple" ∧ o.data = .seq us n ∧ tupItems shp 0 us.toList = some (wkey p.2) ∧ ∃ z t, us[0]? = some (.str z t) := fun p hp => by
    obtain ⟨ht, hne⟩ := hx p hp
    obtain ⟨_, us, r2, o, ho, hc, n, hd⟩ := I.hok _ _ ht
    refine ⟨o, us.toArray, n, ho, hc, hd, items_strs 0 r2, ?_⟩
    cases e : p.2 with
    | nil => exact absurd e hne
    | cons z zs =>
      rw [e] at r2
      cases r2 with
      | cons g t => obtain ⟨tk, rfl⟩ := g; exact ⟨z, tk, rfl⟩
  let k : Value → List (Int ⊕ List Nat) := fun v => (tupKey s.heap shp v).getD []
  have kp : ∀ p ∈ ps, k (.ref p.1) = wkey p.2 := fun p hp => by
    obtain ⟨o, us, n, ho, _, hd, hi, _⟩ := obj p hp
    show (tupKey s.heap shp (.ref p.1)).getD [] = _
    simp only [tupKey, ho, hd, hi]
    rfl
  have O : SrtO.Swo fun v u => lexLt itemOrd (k v) (k u) := by
    refine ⟨fun x y h => ?_, fun x y z h1 h2 => ?_⟩
    · cases e : lexLt itemOrd (k y) (k x) with
      | false => rfl
      | true =>
        have := lex_trans _ _ _ h e
        rw [lex_irrefl] at this
        cases this
    · cases e : lexLt itemOrd (k z) (k x) with
      | false => rfl
      | true =>
        rcases lex_negTrans _ (k y) _ e with a | a
        · rw [a] at h2; cases h2
        · rw [a] at h1; cases h1
  refine SrtO.sorted_ord (ltv := fun v u => lexLt itemOrd (k v) (k u)) O hl.isList (by rw [← rv.length]; exact hz) (fun h2 h₁ b hb kk => ?_) fun out hso hst => ?_
  · intro h' keep
    have obj' : ∀ p ∈ ps, ∃ o us n, h'.get? p.1 = some o ∧ o.cls = .type "tuple" ∧ o.data = .seq us n ∧ tupItems shp 0 us.toList = some (wkey p.2) ∧ ∃ z t, us[0]? = some (.str z t) := fun p hp => by
      obtain ⟨o, us, n, ho, rest⟩ := obj p hp
      exact ⟨o, us, n, keep _ _ (kk _ _ ho).1 (kk _ _ ho).2, rest⟩
    have tups : ∃ fs, TupsOf h' shp its fs ∧ fs.length = its.length := by
      rw [eits]
      clear eits kp q hs hx rv h2 hz obj
      induction ps with
      | nil => exact ⟨[], .nil, rfl⟩
      | cons p ps ih =>
        obtain ⟨fs, g1, g2⟩ := ih fun p hp => obj' p (List.mem_cons_of_mem _ hp)
        obtain ⟨o, us, n, ho, hc, hd, hi, z, t, h0⟩ := obj' p List.mem_cons_self
        exact ⟨.str z t :: fs, .cons ⟨p.1, o, us, n, rfl, ho, hc, hd, h0, fun e => (by cases e), fun _ => ⟨z, t, rfl⟩⟩ g1, by rw [List.length_cons, g2]; rfl⟩
    obtain ⟨fs, t1, t2⟩ := tups
    refine ⟨tuples' true, fun Q E hq => tup_kind (by omega) t1 hq, fun x y px py => ?_⟩
    have key : ∀ v ∈ its, (tupKind h' shp).keyOf v = some (k v) := fun v hv => by
      rw [eits] at hv
      obtain ⟨p, hp, rfl⟩ := List.mem_map.mp hv
      obtain ⟨o, us, n, ho, _, hd, hi, _⟩ := obj' p hp
      show tupKey h' shp (.ref p.1) = _
      rw [kp p hp]
      simp only [tupKey, ho, hd, hi]
    exact tup_ltAt (s := { s with heap := h' }) true _ _ x.1 y.1 _ _ (key _ px) (key _ py) ⟨rfl, rfl⟩
  · have perm := hst.perm
    rw [eits] at perm
    obtain ⟨qs, q1, q2⟩ := perm_map_inv perm
    subst q2
    have srt : qs.Pairwise fun p q => ltW q.2 p.2 = false := by
      have := List.pairwise_map.mp hso
      refine List.Pairwise.imp_of_mem (fun {x y} hx hy h => ?_) this
      have h : lexLt itemOrd (k (.ref y.1)) (k (.ref x.1)) = false := h
      rw [kp _ (q1.subset hy), kp _ (q1.subset hx)] at h
      exact h
    have fresh := I.hok.fresh (Nat.le_succ s.heap.objs.size)
    obtain ⟨n, hn⟩ := sortedAll_at s.heap its (qs.map fun p => Value.ref p.1).toArray
    refine ⟨.ref (s.heap.objs.size + 1), upd H (s.heap.objs.size + 1) (.lst (qs.map fun p => V.ref p.1)), ?_, rfl, q qs _ q1 srt fresh⟩
    refine I.laid (t' := s.toks) (fun b o e => sortedAll_old e) (Nat.le_succ _) ⟨?_, _, n, ?_, hn⟩
    · rw [List.length_map, q1.length_eq, ← List.length_map (f := fun p : Addr × List Str => V.ref p.1)]; exact hz
    · exact refs_vals qs
end RX

/-! list != list item by item, by own __eq__; a new own instance by keywords alone -/
namespace GQ
open PySem PySem.SeqAt
open AutoSeq1 (wpAny_loadPart')
open MeetsSeq MeetsSeq2 MeetsSeq3 SeqRoads2
section
variable {prog : Program} {w : World} {A : Around} {R : Result → Shared → Prop}
theorem ne_loopG (l b : Addr) (N : Nat) (I : Nat → Shared → Prop) (hl : ListI prog w A (fun e s' => R (.error e) s') l b N I)
    (fin : ∀ s, I N s → R (.ok (.ret (.bool false))) s) (k : Nat) :
    ∀ i : Nat, N - i = k → i ≤ N → ∀ s, I i s →
      wpAny (model prog w) A.in1 (Builtin.«list.__eq__.loop» ⟨[.ref l, .ref b, rawInt i, rawInt 3], []⟩) (FinOf prog w A R) (fun e s' => R (.error e) s') s := by
  induction k with
  | zero =>
    intro i hk hi s h
    obtain ⟨items, items2, n, n2, hl1, hb1, hs1, hs2, _⟩ := hl _ _ h
    have hi' : i = N := by omega
    have hR : R (.ok (.ret (.bool false))) s := fin s (hi' ▸ h)
    obtain ⟨hp, g, d, tk, os⟩ := s
    wp_walk using wpAny_loadPart' hl1, wpAny_loadPart' hb1
    have hi1 : items[((i : Nat) : Int).toNat]? = none := by simp; omega
    have hi2 : items2[((i : Nat) : Int).toNat]? = none := by simp; omega
    rw [hi1, hi2]
    wp_walk using wpAny_loadPart' hl1, wpAny_loadPart' hb1
    show R (.ok (.ret (.bool (items.size != items2.size)))) _
    rw [hs1, hs2]
    simpa using hR
  | succ k ih =>
    intro i hk hi s h
    obtain ⟨items, items2, n, n2, hl1, hb1, hs1, hs2, turn⟩ := hl _ _ h
    have hlt : i < items.size := by omega
    have hlt2 : i < items2.size := by omega
    have ht := turn hlt hlt2
    obtain ⟨hp, g, d, tk, os⟩ := s
    wp_walk using wpAny_loadPart' hl1, wpAny_loadPart' hb1
    have hi1 : items[((i : Nat) : Int).toNat]? = some items[i] := by simp [hlt]
    have hi2 : items2[((i : Nat) : Int).toNat]? = some items2[i] := by simp [hlt2]
    have hc : ((i : Int) + 1) = ((i + 1 : Nat) : Int) := by omega
    rw [hi1, hi2]
    refine wpAny_bind (wpAny_mono ht (fun r s2 h2 => ?_) fun _ _ x => x)
    obtain ⟨hr, h2⟩ := h2
    subst hr
    have hrec := ih (i + 1) (by omega) (by omega) s2 h2
    obtain ⟨hp2, g2, d2, tk2, os2⟩ := s2
    wp_walk
    rw [hc]
    exact ⟨plainId_quiet plain_eq_loop _, codeAny_builtin entry_eq_loop (by
      rw [Around.under_plainId plain_eq_loop _]
      exact hrec)⟩
theorem list_neG (l b : Addr) (N : Nat) (I : Nat → Shared → Prop) (hl : ListI prog w A (fun e s' => R (.error e) s') l b N I)
    (fin : ∀ s, I N s → R (.ok (.ret (.bool false))) s) {s : Shared} (h : I 0 s) :
    wpAny (model prog w) A.in1 (Builtin.«list.__ne__» ⟨[.ref l, .ref b], []⟩) (FinOf prog w A R) (fun e s' => R (.error e) s') s := by
  obtain ⟨items, items2, n, n2, hl1, hb1, hs1, hs2, _⟩ := hl _ _ h
  have hrec := ne_loopG (A := A) (R := R) l b N I hl fin _ 0 rfl (Nat.zero_le _) s h
  obtain ⟨hp, g, d, tk, os⟩ := s
  have f3 := AutoSeq1.sub_list_list
  have hne : ¬ (items.size != items2.size) = true := by simp [hs1, hs2]
  wp_walk using wpAny_loadPart' hl1, wpAny_loadPart' hb1
  exact ⟨plainId_quiet plain_eq_loop _, codeAny_builtin entry_eq_loop (by
    rw [Around.under_plainId plain_eq_loop _]
    exact hrec)⟩
end
section
variable {prog : Program} {w : World} {A : Around} {E : Value → Shared → Prop} {s : Shared}
theorem rc_nelistG {l b : Addr} {N : Nat} {Q : Value → Shared → Prop} (hu : A.units < cLine) (I : Nat → Shared → Prop) (hl : ListI prog w A E l b N I)
    (fin : ∀ s, I N s → Q (.bool false) s) (h : I 0 s) : wpAny (model prog w) A (richCompare .NotEq (.ref l) (.ref b)) Q E s := by
  obtain ⟨items, items2, n, n2, hl1, hb1, _, _, _⟩ := hl _ _ h
  refine wpAny_richCompare_same_room (op := .NotEq) ⟨_, hl1, rfl⟩ ⟨_, hb1, rfl⟩ F.slot_list_ne (call_here F.slot_list_ne ⟨_, hl1, rfl⟩ F.entry_list_ne (F.args_list_ne_2 _ _) ?_) hu
  exact list_neG (R := wants (fun v s' => v ≠ .notImplemented ∧ Q v s') E) l b N I hl (fun s' q => ⟨(fun x => nomatch x), fin s' q⟩) h
end
end GQ
namespace RX
open PySem PySem.Spec PyProof.Rows L2
def rNeG (D : Eqv) : R2 := fun x y H Q => DList D x y H ∧ ∀ H', Ext H H' → Q (.bl false) H'
section
variable {X : Cx} {n : Nat} {D : Eqv}
theorem op_neG (hD : Mon D) (h : EqG X n D) (hr : Room (n + 1) X.A) : OpR X (compareOp .NotEq) (rNeG D) := by
  intro pins s σ H x y v u Q I rx ry hq
  obtain ⟨⟨a, b, xs, ys, rfl, rfl, ha, hb, p⟩, q⟩ := hq
  cases rx
  cases ry
  show wpAny (model X.prog X.w) X.A (richCompare .NotEq (.ref a) (.ref b)) (EP X pins σ Q) X.xe s
  refine GQ.rc_nelistG (N := xs.length) hr.units0 (fun _ s' => LoopI X pins σ H s') (fun i s' q => ?_) (fun s' ⟨H', I', e⟩ => ⟨.bl false, H', I', rfl, q H' e⟩) ⟨H, I, Ext.rfl'⟩
  obtain ⟨H1, I1, e1⟩ := id q
  obtain ⟨z, its, k, r, e⟩ := I1.hok a _ (e1 _ _ ha)
  obtain ⟨z2, its2, k2, r2, e2⟩ := I1.hok b _ (e1 _ _ hb)
  refine ⟨its.toArray, its2.toArray, k, k2, e, e2, by rw [List.size_toArray, ← r.length], by rw [List.size_toArray, ← r2.length, ← p.1], fun h1 h2 => ?_⟩
  exact turnG hD h ⟨hr, rfl⟩ p r r2 i h1 h2 s' q
end
section
variable {X : Cx} {k n : Nat} {f C : Addr} {ps ks : List Str} {sp : Sp} {E : XK} {x : Str} {p pos : Pos} {kws : List Keyword} {tk : TA} {gV : List V → List V → List V}
theorem pe_mkK0 (M : Mk X.K C f) (G : Keys X k f ps sp 1 ks gV) (hr : Room (k + 1) X.A) (hg : Gl X x) (hm : X.mg x = some (.ref C)) (hx : Passes (HK.CX X.prog X.w) X E) (hkw : PK X kws tk)
    (hall : (backToKw pos (keywordEach kws X.env)).all (·.1.isSome) = true := by rfl) (hks : (backToKw pos (keywordEach kws X.env)).filterMap (·.1) = ks := by rfl) (hdb : (x == ("__debug__" : Str)) = false := by decide)
    (hpl : ((backTo pos (starEach [] X.env)).any (·.1) || (backToKw pos (keywordEach kws X.env)).any (·.1.isNone)) = false := by rfl) :
    PE X (.Call (.Name x p) [] kws pos) (tMakeK C 0 ks.length sp gV E tNil tk) := by
  obtain ⟨kp, fd, g, hb, F⟩ := G
  exact pe_makeK0 M F hr hg hm hb hx hkw hall hks hdb hpl
end
end RX

/-! a list unpacked, K named -/
namespace RX
open PySem PySem.Spec PyProof.Rows L2
theorem kGtL {X : Cx} {K : PySem.W.Frag} (h : X.K = K) {es : List Expr} {k : Nat} {t : TGs} {n : Nat} {pos : Pos} (hc : X.calm = true) (hs : PGs X es t) (hn : (assignEach es X.env).length = n := by rfl) (hst : (assignEach es X.env).findIdx? (·.1) = none := by rfl) : PG X (.Tuple es k pos) (gLst K n t) := by
  subst h
  exact pg_lst hc hs hn hst
end RX

/-! list(zip(xs, ys)): a list of new tuples -/
namespace ZL
open PySem
open Sem (wp)
def noLen : typeLookup (.type "zip") "__len__" = pure none := by rw [typeLookup_type, builtinLookup_eq_fast]; kernel_rfl
def noHint : typeLookup (.type "zip") "__length_hint__" = pure none := by rw [typeLookup_type, builtinLookup_eq_fast]; kernel_rfl
/-- the tuples given out so far -/
structure Got (xs ys : Array Value) (lo : Addr) (h : Heap) (as : List Addr) : Prop where
  up : as.Pairwise (· < ·)
  over : ∀ a ∈ as, lo < a
  at_ : ∀ (j : Nat) (a : Addr), as[j]? = some a → ∃ x y, xs[j]? = some x ∧ ys[j]? = some y ∧ IsPair h a x y
theorem Got.move {xs ys : Array Value} {lo : Addr} {h h' : Heap} {as : List Addr} (g : Got xs ys lo h as) (k : ∀ b o, lo < b → h.get? b = some o → h'.get? b = some o) : Got xs ys lo h' as :=
  ⟨g.up, g.over, fun j a e => by
    obtain ⟨x, y, e1, e2, e3⟩ := g.at_ j a e
    exact ⟨x, y, e1, e2, k _ _ (g.over a (List.mem_of_getElem? e)) e3⟩⟩
theorem Got.lt {xs ys : Array Value} {lo : Addr} {h : Heap} {as : List Addr} (g : Got xs ys lo h as) {a : Addr} (ha : a ∈ as) : a < h.objs.size := by
  obtain ⟨j, hj⟩ := List.mem_iff_getElem?.mp ha
  obtain ⟨_, _, _, _, e⟩ := g.at_ j a hj
  exact Heap.lt_size e
/-- the zip stands at i -/
structure Zs (z TI TO i1 i2 l1 l2 : Addr) (xs ys : Array Value) (S : Addr) (i : Nat) (h : Heap) : Prop where
  ti : IsPair h TI (.ref i1) (.ref i2)
  a1 : h.IsListIter i1 l1 i
  a2 : h.IsListIter i2 l2 i
  b1 : h.IsList l1 xs
  b2 : h.IsList l2 ys
  zz : (IsZip h z TI TO .none ∧ ∃ a b, IsPair h TO a b) ∨ ∃ T f oT, IsZipHeld h z TI TO T f ∧ h.get? T = some oT ∧ T ≠ z ∧ T ≠ i1 ∧ T ≠ i2 ∧ T ≠ S
/-- all of them stand below the list -/
structure Low (z TI TO i1 i2 l1 l2 S : Addr) : Prop where
  z_ : z < S
  ti : TI < S
  to_ : TO < S
  i1_ : i1 < S
  i2_ : i2 < S
  l1_ : l1 < S
  l2_ : l2 < S
theorem Zs.off {z TI TO i1 i2 l1 l2 : Addr} {xs ys : Array Value} {S : Addr} {i : Nat} {h h' : Heap} (t : Zs z TI TO i1 i2 l1 l2 xs ys S i h) (w : Low z TI TO i1 i2 l1 l2 S) (k : ∀ b o, b ≠ S → h.get? b = some o → h'.get? b = some o) : Zs z TI TO i1 i2 l1 l2 xs ys S i h' where
  ti := k _ _ (Nat.ne_of_lt w.ti) t.ti
  a1 := t.a1.at fun o e => k _ o (Nat.ne_of_lt w.i1_) e
  a2 := t.a2.at fun o e => k _ o (Nat.ne_of_lt w.i2_) e
  b1 := t.b1.at fun o e => k _ o (Nat.ne_of_lt w.l1_) e
  b2 := t.b2.at fun o e => k _ o (Nat.ne_of_lt w.l2_) e
  zz := by
    rcases t.zz with ⟨e, a, b, e2⟩ | ⟨T, f, oT, e, e2, r1, r2, r3, r4⟩
    · exact .inl ⟨k _ _ (Nat.ne_of_lt w.z_) e, a, b, k _ _ (Nat.ne_of_lt w.to_) e2⟩
    · exact .inr ⟨T, f, oT, k _ _ (Nat.ne_of_lt w.z_) e, k _ _ r4 e2, r1, r2, r3, r4⟩
section
variable {prog : Program} {w : World} {A : Around} {E : Value → Shared → Prop} {s : Shared} {z TI TO i1 i2 l1 l2 S : Addr} {xs ys : Array Value}
theorem item {i : Nat} {x y : Value} {Q : Option Value → Shared → Prop} (D : ZipApart z TI TO i1 i2 l1 l2) (L : Low z TI TO i1 i2 l1 l2 S) (hS : S < s.heap.objs.size) (t : Zs z TI TO i1 i2 l1 l2 xs ys S i s.heap) (ex : xs[i]? = some x) (ey : ys[i]? = some y)
    (q : ∀ h', Zs z TI TO i1 i2 l1 l2 xs ys S (i + 1) h' → IsPair h' s.heap.objs.size x y → (∀ b o, b ≠ z → b ≠ TO → b ≠ i1 → b ≠ i2 → s.heap.get? b = some o → h'.get? b = some o) → Q (some (.ref s.heap.objs.size)) { s with heap := h' }) :
    wpAny (model prog w) A (pyNext (.ref z)) Q E s := by
  have gt : ∀ {c}, c < S → s.heap.objs.size ≠ c := fun e => Nat.ne_of_gt (Nat.lt_trans e hS)
  rcases t.zz with ⟨hz, a, b, hTO⟩ | ⟨T, f, oT, hz, hT, r1, r2, r3, r4⟩
  · exact wpAny_pyNext_zip_item D hz t.ti hTO t.a1 t.a2 t.b1 t.b2 ex ey fun h' k1 k2 k3 k4 k5 k6 k => q h' ⟨k _ _ D.TIz D.TITO D.TIi1 D.TIi2 t.ti, k3, k4, t.b1.at fun o e => k _ o D.l1z D.l1TO D.l1i1 D.l1i2 e, t.b2.at fun o e => k _ o D.l2z D.l2TO D.l2i1 D.l2i2 e,
      .inr ⟨_, false, _, k1, k5, gt L.z_, gt L.i1_, gt L.i2_, Nat.ne_of_gt hS⟩⟩ k5 k
  · exact wpAny_pyNext_zip_item_held D hz hT t.ti t.a1 t.a2 t.b1 t.b2 ex ey fun h' k1 k3 k4 k5 k6 k => q h' ⟨k _ _ D.TIz D.TIi1 D.TIi2 t.ti, k3, k4, t.b1.at fun o e => k _ o D.l1z D.l1i1 D.l1i2 e, t.b2.at fun o e => k _ o D.l2z D.l2i1 D.l2i2 e,
      .inr ⟨T, true, oT, k1, k _ _ r1 r2 r3 hT, r1, r2, r3, r4⟩⟩ k5 fun b o n1 _ n3 n4 e => k b o n1 n3 n4 e
theorem stop {i : Nat} {Q : Option Value → Shared → Prop} (hh : A.handled = none) (D : ZipApart z TI TO i1 i2 l1 l2) (t : Zs z TI TO i1 i2 l1 l2 xs ys S i s.heap) (e : xs[i]? = none ∨ ys[i]? = none)
    (q : ∀ h', (∀ b o, b ≠ z → b ≠ TO → b ≠ i1 → b ≠ i2 → s.heap.get? b = some o → h'.get? b = some o) → Q none { s with heap := h' }) : wpAny (model prog w) A (pyNext (.ref z)) Q E s := by
  rcases t.zz with ⟨hz, a, b, hTO⟩ | ⟨T, f, oT, hz, hT, r1, r2, r3, r4⟩
  · exact wpAny_pyNext_zip_end hh D hz t.ti hTO t.a1 t.a2 t.b1 t.b2 e fun h' k => q h' k
  · exact wpAny_pyNext_zip_end_held hh D hz hT t.ti t.a1 t.a2 t.b1 t.b2 e fun h' k => q h' fun b o n1 _ n3 n4 e => k b o n1 n3 n4 e
end
section
variable {prog : Program} {w : World} {A : Around} {s : Shared} {R : Result → Shared → Prop} {z TI TO i1 i2 l1 l2 S : Addr} {xs ys : Array Value}
theorem loop (hh : A.handled = none) (D : ZipApart z TI TO i1 i2 l1 l2) (L : Low z TI TO i1 i2 l1 l2 S) {n : Nat} (hn : n = min xs.size ys.size) (hm : n ≤ sizeLine) (res : Value) {h₁ : Heap}
    (hR : ∀ h' acc c as, (∀ b o, b ≠ S → b ≠ z → b ≠ TO → b ≠ i1 → b ≠ i2 → h₁.get? b = some o → h'.get? b = some o) → h'.get? S = some { cls := .type "list", dict := none, data := .seq acc c, slots := #[] } → as.length = n → Got xs ys S h' as → acc.toList = as.map Value.ref → R (.ok (.ret res)) { s with heap := h' }) :
    ∀ (k i : Nat) (h : Heap) (c : Nat) (acc : Array Value) (as : List Addr), n - i = k → i ≤ n → Zs z TI TO i1 i2 l1 l2 xs ys S i h → (∀ b o, b ≠ S → b ≠ z → b ≠ TO → b ≠ i1 → b ≠ i2 → h₁.get? b = some o → h.get? b = some o) →
      h.get? S = some { cls := .type "list", dict := none, data := .seq acc c, slots := #[] } → acc.toList = as.map Value.ref → as.length = i → Got xs ys S h as →
      codeAny (model prog w) A (.builtin "list.extend.loop" ⟨[.ref S, .ref z, res], []⟩) R { s with heap := h } := by
  intro k
  induction k with
  | zero =>
    intro i h c acc as hk hi t keep hS hacc hal g
    have hin : i = n := by omega
    refine codeAny_builtin PySem.F.entry_extend_loop (?_ : wpAny _ (A.under _) _ _ _ _)
    rw [Around.under_plainId PySem.F.plain_extend_loop _]
    show wpAny _ A.in1 (pyNext (.ref z) >>= _) _ _ _
    have he : xs[i]? = none ∨ ys[i]? = none := by
      rcases Nat.le_total xs.size ys.size with q | q
      · exact .inl (Array.getElem?_eq_none (by omega))
      · exact .inr (Array.getElem?_eq_none (by omega))
    refine wpAny_bind (stop (s := { s with heap := h }) (A := A.in1) hh D t he fun h' kp => ?_)
    refine wpAny_pure (hR h' acc c as (fun b o n0 n1 n2 n3 n4 e => kp b o n1 n2 n3 n4 (keep b o n0 n1 n2 n3 n4 e)) (kp S _ (Nat.ne_of_gt L.z_) (Nat.ne_of_gt L.to_) (Nat.ne_of_gt L.i1_) (Nat.ne_of_gt L.i2_) hS) (by omega) (g.move fun b o hb e => ?_) hacc)
    exact kp b o (Nat.ne_of_gt (Nat.lt_trans L.z_ hb)) (Nat.ne_of_gt (Nat.lt_trans L.to_ hb)) (Nat.ne_of_gt (Nat.lt_trans L.i1_ hb)) (Nat.ne_of_gt (Nat.lt_trans L.i2_ hb)) e
  | succ k ih =>
    intro i h c acc as hk hi t keep hS hacc hal g
    have h1 : i < xs.size := by omega
    have h2 : i < ys.size := by omega
    have hsz : acc.size = i := by rw [← Array.length_toList, hacc, List.length_map, hal]
    refine codeAny_builtin PySem.F.entry_extend_loop (?_ : wpAny _ (A.under _) _ _ _ _)
    rw [Around.under_plainId PySem.F.plain_extend_loop _]
    show wpAny _ A.in1 (pyNext (.ref z) >>= _) _ _ _
    refine wpAny_bind (item (s := { s with heap := h }) D L (Heap.lt_size hS) t (Array.getElem?_eq_getElem h1) (Array.getElem?_eq_getElem h2) fun h' t' pr kp => ?_)
    dsimp only at pr kp ⊢
    have hS' := kp S _ (Nat.ne_of_gt L.z_) (Nat.ne_of_gt L.to_) (Nat.ne_of_gt L.i1_) (Nat.ne_of_gt L.i2_) hS
    have up : ∀ b o, b ≠ S → h'.get? b = some o → (h'.update S (Obj.mapSeq (·.push (Value.ref h.objs.size)))).get? b = some o := fun b o hb e => (Heap.get?_update_other _ _ (Ne.symm hb)).trans e
    have hSl : S < h.objs.size := Heap.lt_size hS
    have hi' : ∀ b o, S < b → h.get? b = some o → (h'.update S (Obj.mapSeq (·.push (Value.ref h.objs.size)))).get? b = some o := fun b o hb e =>
      up b o (Nat.ne_of_gt hb) (kp b o (Nat.ne_of_gt (Nat.lt_trans L.z_ hb)) (Nat.ne_of_gt (Nat.lt_trans L.to_ hb)) (Nat.ne_of_gt (Nat.lt_trans L.i1_ hb)) (Nat.ne_of_gt (Nat.lt_trans L.i2_ hb)) e)
    show wpAny _ A.in1 (updateSeq S (·.push (Value.ref h.objs.size)) >>= _) _ _ _
    refine wpAny_bind ?_
    have g' := g.move hi'
    refine wpAny_updateSeq hS' rfl (wpAny_pure ⟨plainId_quiet PySem.F.plain_extend_loop _, ih (i + 1) _ _ (acc.push (Value.ref h.objs.size)) (as ++ [h.objs.size]) (by omega) (by omega) (t'.off L up)
      (fun b o n0 n1 n2 n3 n4 e => up b o n0 (kp b o n1 n2 n3 n4 (keep b o n0 n1 n2 n3 n4 e))) (Heap.get?_update_self _ hS' rfl) (by rw [Array.toList_push, hacc, List.map_append]; rfl) (by rw [List.length_append, hal]; rfl) ⟨?_, ?_, ?_⟩⟩) (by rw [hsz]; omega) (by show (acc.push (Value.ref h.objs.size)).size ≤ sizeLine + 1; rw [Array.size_push, hsz]; omega)
    · exact List.pairwise_append.mpr ⟨g.up, List.pairwise_singleton _ _, fun a ha b hb => (List.mem_singleton.mp hb) ▸ g.lt ha⟩
    · exact fun a ha => (List.mem_append.mp ha).elim (g.over a) fun e => (List.mem_singleton.mp e) ▸ hSl
    · intro j b hj
      by_cases hlt : j < as.length
      · exact g'.at_ j b ((List.getElem?_append_left hlt).symm.trans hj)
      · have hj2 : j = as.length := by
          have := (List.getElem?_eq_some_iff.mp hj).1
          rw [List.length_append, List.length_singleton] at this
          omega
        subst hj2
        have hb : h.objs.size = b := by simpa using hj
        subst hb
        exact ⟨_, _, by rw [hal]; exact Array.getElem?_eq_getElem h1, by rw [hal]; exact Array.getElem?_eq_getElem h2, up _ _ (Nat.ne_of_gt hSl) pr⟩
end
section
variable {prog : Program} {w : World} {A : Around} {E : Value → Shared → Prop} {s : Shared} {z TI TO i1 i2 l1 l2 S : Addr} {xs ys : Array Value}
theorem hint (hT : s.TypeIs (.ref z) "zip") {Q : Bool → Shared → Prop} (h : Q true s) : wpAny (model prog w) A (Builtin.List.listLengthHint (.ref z)) Q E s := by
  unfold Builtin.List.listLengthHint
  refine wpAny_bind (wpAny_specialOf hT noLen ?_)
  show wpAny _ A (specialOf (Value.ref z) (Str.ofString "__length_hint__") >>= _) _ _ _
  refine wpAny_bind (wpAny_specialOf hT noHint ?_)
  exact wpAny_pure h
end
section
variable {prog : Program} {w : World} {A : Around} {s : Shared} {R : Result → Shared → Prop} {z TI TO i1 i2 l1 l2 S : Addr} {xs ys : Array Value}
theorem extend (hh : A.handled = none) (D : ZipApart z TI TO i1 i2 l1 l2) (L : Low z TI TO i1 i2 l1 l2 S) {n : Nat} (hn : n = min xs.size ys.size) (hm : n ≤ sizeLine) (res : Value) (c₀ : Nat) (hS : s.heap.get? S = some { cls := .type "list", data := .seq #[] c₀ }) (t : Zs z TI TO i1 i2 l1 l2 xs ys S 0 s.heap) (e0 : IsZip s.heap z TI TO .none)
    (hR : ∀ h' acc c as, (∀ b o, b ≠ S → b ≠ z → b ≠ TO → b ≠ i1 → b ≠ i2 → s.heap.get? b = some o → h'.get? b = some o) → h'.get? S = some { cls := .type "list", dict := none, data := .seq acc c, slots := #[] } → as.length = n → Got xs ys S h' as → acc.toList = as.map Value.ref → R (.ok (.ret res)) { s with heap := h' }) :
    wpAny (model prog w) A.in1 (Builtin.List.listExtendWith (.ref S) (.ref z) res)
      (fun fin s' => match fin with | .done f => R (.ok f) s' | .again c' => c'.quiet = true ∧ codeAny (model prog w) A c' R s') (fun e s' => R (.error e) s') s := by
  have go : ∀ (h : Heap) (c : Nat), (∀ b o, b ≠ S → s.heap.get? b = some o → h.get? b = some o) → h.get? S = some { cls := .type "list", data := .seq #[] c } → codeAny (model prog w) A (.builtin "list.extend.loop" ⟨[.ref S, .ref z, res], []⟩) R { s with heap := h } := fun h c k e =>
    loop (s := s) (h₁ := s.heap) hh D L hn hm res hR n 0 h c #[] [] (Nat.sub_zero _) (Nat.zero_le _) (t.off L k) (fun b o n0 _ _ _ _ e => k b o n0 e) e rfl rfl ⟨List.Pairwise.nil, nofun, fun j a hj => by simp at hj⟩
  have hT : s.TypeIs (.ref z) "zip" := ⟨_, e0, rfl⟩
  unfold Builtin.List.listExtendWith
  refine wpAny_bind (wpAny_typeOf (T := "zip") hT ?_)
  simp only [show Builtin.List.listSameRef (.ref S) (.ref z) = false by simp [Builtin.List.listSameRef, Nat.ne_of_gt L.z_], show (Value.type "zip" == Value.type "list") = false by decide, show (Value.type "zip" == Value.type "tuple") = false by decide, Bool.or_false, Bool.false_eq_true, if_false]
  refine wpAny_bind (wpAny_pyIter_zip e0 ?_)
  refine wpAny_bind (wpAny_holding (hint hT ?_))
  refine wpAny_ite_split (fun _ => ?_) (fun _ => wpAny_pure ⟨plainId_quiet PySem.F.plain_extend_loop _, go _ c₀ (fun b o _ e => e) hS⟩)
  refine wpAny_bind (wpAny_rule ?_)
  refine wpAny_bind ?_
  show wpAny _ _ (updateSeq S (·.push .none) >>= fun _ => updateSeq S (·.pop)) _ _ _
  refine wpAny_bind (wpAny_updateSeq hS rfl ?_)
  have u2 := Heap.get?_update_self (Obj.mapSeq (·.push Value.none)) hS rfl
  refine wpAny_updateSeq (hz := by seq_fits) u2 rfl ?_
  have u3 := Heap.get?_update_self (Obj.mapSeq (·.pop)) u2 rfl
  exact wpAny_pure ⟨plainId_quiet PySem.F.plain_extend_loop _, go _ _ (fun b o hb e => (Heap.get?_update_other _ _ (Ne.symm hb)).trans ((Heap.get?_update_other _ _ (Ne.symm hb)).trans e)) u3⟩
theorem init (hh : A.handled = none) (D : ZipApart z TI TO i1 i2 l1 l2) (L : Low z TI TO i1 i2 l1 l2 S) {n : Nat} (hn : n = min xs.size ys.size) (hm : n ≤ sizeLine) (hS : s.heap.get? S = some { cls := .type "list", data := .seq #[] }) (t : Zs z TI TO i1 i2 l1 l2 xs ys S 0 s.heap) (e0 : IsZip s.heap z TI TO .none)
    (hR : ∀ h' acc c as, (∀ b o, b ≠ S → b ≠ z → b ≠ TO → b ≠ i1 → b ≠ i2 → s.heap.get? b = some o → h'.get? b = some o) → h'.get? S = some { cls := .type "list", dict := none, data := .seq acc c, slots := #[] } → as.length = n → Got xs ys S h' as → acc.toList = as.map Value.ref → R (.ok (.ret .none)) { s with heap := h' }) :
    wpAny (model prog w) A.in1 (Builtin.«list.__init__» ⟨[.ref S, .ref z], []⟩)
      (fun fin s' => match fin with | .done f => R (.ok f) s' | .again c' => c'.quiet = true ∧ codeAny (model prog w) A c' R s') (fun e s' => R (.error e) s') s := by
  show wpAny _ _ (Builtin.List.listItems (.ref S) >>= fun old => (Builtin.List.listUpdate (.ref S) (fun _ => #[]) >>= fun _ => (letGo old.toList.reverse >>= fun _ => Builtin.List.listExtendWith (.ref S) (.ref z) .none))) _ _ s
  refine wpAny_bind ?_
  unfold Builtin.List.listItems
  refine wpAny_bind (wpAny_seqItems hS rfl (wpAny_pure ?_))
  show wpAny _ _ (updateSeq S (fun _ => #[]) >>= fun _ => (letGo (#[] : Array Value).toList.reverse >>= fun _ => Builtin.List.listExtendWith (.ref S) (.ref z) .none)) _ _ s
  refine wpAny_bind (wpAny_updateSeq hS rfl ?_)
  have u2 := Heap.get?_update_self (Obj.mapSeq (fun _ => (#[] : Array Value))) hS rfl
  have k : ∀ b o, b ≠ S → s.heap.get? b = some o → (s.heap.update S (Obj.mapSeq (fun _ => (#[] : Array Value)))).get? b = some o := fun b o hb e => (Heap.get?_update_other _ _ (Ne.symm hb)).trans e
  refine wpAny_bind (wpAny_letGo ?_)
  refine extend hh D L hn hm .none _ u2 (t.off L k) (k _ _ (Nat.ne_of_lt L.z_) e0) fun h' acc c as kp => hR h' acc c as fun b o n0 n1 n2 n3 n4 e => kp b o n0 n1 n2 n3 n4 (k b o n0 e)
end
section
variable {prog : Program} {w : World} {A : Around} {E : Value → Shared → Prop} {s : Shared} {z TI TO i1 i2 l1 l2 : Addr} {xs ys : Array Value}
theorem call {Q : Value → Shared → Prop} (hh : A.handled = none) (D : ZipApart z TI TO i1 i2 l1 l2) (L : Low z TI TO i1 i2 l1 l2 s.heap.objs.size) {n : Nat} (hn : n = min xs.size ys.size) (hm : n ≤ sizeLine) (t : Zs z TI TO i1 i2 l1 l2 xs ys s.heap.objs.size 0 s.heap) (e0 : IsZip s.heap z TI TO .none)
    (hQ : ∀ h' acc c as, (∀ b o, b ≠ z → b ≠ TO → b ≠ i1 → b ≠ i2 → s.heap.get? b = some o → h'.get? b = some o) → h'.get? s.heap.objs.size = some { cls := .type "list", dict := none, data := .seq acc c, slots := #[] } → as.length = n → Got xs ys s.heap.objs.size h' as → acc.toList = as.map Value.ref → Q (.ref s.heap.objs.size) { s with heap := h' }) :
    wpAny (model prog w) A (call (.type "list") [.ref z]) Q E s := by
  refine callType_codes (Q₁ := fun obj s₁ => obj = .ref s.heap.objs.size ∧ s₁ = { s with heap := s.heap.push { cls := .type "list", data := .seq #[] } }) PySem.F.called_list (PySem.F.typeCall_list_1 _) PySem.F.entry_list_init
    (code_list_new _ ⟨rfl, rfl⟩) fun obj s₁ h₁ => ?_
  obtain ⟨rfl, rfl⟩ := h₁
  have hS : (s.heap.push { cls := .type "list", data := .seq #[] }).get? s.heap.objs.size = some { cls := .type "list", data := .seq #[] } := Heap.get?_push_size _ rfl
  refine ⟨⟨_, hS, rfl⟩, PySem.F.args_list_init_2 _ _, init (A := A.in1) hh D L hn hm hS (t.off L fun b o _ e => Heap.get?_push_of_some _ e) (Heap.get?_push_of_some _ e0) fun h' acc c as kp eS el g ea => ⟨rfl, hQ h' acc c as (fun b o n1 n2 n3 n4 e => kp b o (Nat.ne_of_lt (Heap.lt_size e)) n1 n2 n3 n4 (Heap.get?_push_of_some _ e)) eS el g ea⟩⟩
end
end ZL
namespace RX
open PySem PySem.Spec PyProof.Rows L2
/-- the tuples tracked at their addresses -/
def putP (H : Hp) (as : List Addr) (ps : List (V × V)) : Hp := fun b => match (as.zip ps).lookup b with
  | some p => some (.tup [p.1, p.2])
  | none => H b
theorem zip_off {b : Addr} : ∀ {as : List Addr} {ps : List (V × V)}, b ∉ as → (as.zip ps).lookup b = none
  | [], _, _ => rfl
  | _ :: _, [], _ => rfl
  | a :: as, p :: ps, h => by
    rw [List.zip_cons_cons, List.lookup_cons, show (b == a) = false from beq_eq_false_iff_ne.mpr fun e => h (e ▸ List.mem_cons_self)]
    exact zip_off fun z => h (List.mem_cons_of_mem _ z)
theorem zip_at : ∀ {as : List Addr} {ps : List (V × V)} {j : Nat} {a : Addr} {p : V × V}, as.Nodup → as[j]? = some a → ps[j]? = some p → (as.zip ps).lookup a = some p
  | [], _, _, _, _, _, h, _ => by simp at h
  | _ :: _, [], _, _, _, _, _, h => by simp at h
  | b :: as, q :: ps, 0, a, p, nd, h1, h2 => by
    cases h1; cases h2
    rw [List.zip_cons_cons, List.lookup_cons, beq_self_eq_true]
  | b :: as, q :: ps, j + 1, a, p, nd, h1, h2 => by
    obtain ⟨n1, n2⟩ := List.nodup_cons.mp nd
    have h1 : as[j]? = some a := h1
    rw [List.zip_cons_cons, List.lookup_cons, show (a == b) = false from beq_eq_false_iff_ne.mpr fun e => n1 (e ▸ List.mem_of_getElem? h1)]
    exact zip_at n2 h1 h2
theorem zip_mem {b : Addr} {p : V × V} : ∀ {as : List Addr} {ps : List (V × V)}, (as.zip ps).lookup b = some p → ∃ j : Nat, as[j]? = some b ∧ ps[j]? = some p
  | [], _, h => by simp at h
  | _ :: _, [], h => by simp at h
  | a :: as, q :: ps, h => by
    rw [List.zip_cons_cons, List.lookup_cons] at h
    split at h
    · rename_i e
      cases h
      exact ⟨0, by rw [eq_of_beq e]; rfl, rfl⟩
    · obtain ⟨j, e1, e2⟩ := zip_mem h
      exact ⟨j + 1, e1, e2⟩
/-- new objects, laid and tracked at once -/
theorem adopt {X : Cx} {pins : List (Addr × Obj)} {σ : L2.St} {H H' : Hp} {s : Shared} {h' : Heap} {tk : Nat} (I : Inv X pins σ H s) (hk : ∀ b o, s.heap.get? b = some o → h'.get? b = some o) (kp : ∀ b u, H b = some u → H' b = some u)
    (nw : ∀ b u, H' b = some u → H b = some u ∨ (s.heap.objs.size ≤ b ∧ ObjOk X.prog X.w H' h' b u)) : Inv X pins σ H' { s with heap := h', toks := tk } := by
  refine I.call' (ch := []) rfl ⟨fun b o q _ _ _ => hk b o q, fun b o q _ _ _ => ⟨o.slots, hk b o q⟩, fun b o q n _ => ?_, fun b o q _ => ⟨o, hk b o q⟩, fun b xs q => kp b _ q, fun b o u q => kp b _ q, fun b ps q => ⟨#[], by rw [kp b _ q]; simp⟩⟩ (fun b u q => ?_) I.bare (fun b z => nomatch z)
  · cases e : H' b with
    | none => rfl
    | some u => exact (nw b u e).elim (fun z => n.symm.trans z |>.symm ▸ rfl) fun z => absurd (Heap.lt_size q) (Nat.not_lt.mpr z.1)
  · rcases nw b u q with z | z
    · exact (I.hok b u z).stay (fun d v _ y => hk d v y) (fun d y => kp d _ y) fun d xs y => kp d _ y
    · exact z.2
end RX

namespace RX
open PySem PySem.Spec PyProof.Rows L2
def tListZip (K : PySem.W.Frag) (ta : TA) : TE := fun σ H Q => ta σ H fun vs H1 => ∃ (a b : Addr) (xs ys : List V), vs = [.ref a, .ref b] ∧ SqL K H1 a xs ∧ SqL K H1 b ys ∧
  ∀ (p : Addr) (ts : List Addr), H1 p = none → (∀ t ∈ ts, H1 t = none) → p ∉ ts → ts.Nodup → ts.length = (xs.zip ys).length → Q (.ref p) (upd (putP H1 ts (xs.zip ys)) p (.lst (ts.map V.ref)))
theorem zip_get {α β : Type} {xs : List α} {ys : List β} {j : Nat} {p : α × β} (h : (xs.zip ys)[j]? = some p) : xs[j]? = some p.1 ∧ ys[j]? = some p.2 := List.getElem?_zip_eq_some.mp h
section
variable {X : Cx} {e e2 : Expr} {ta : TA} {p q pos pos2 : Pos}
theorem pe_listZip (hc : X.calm = true) (hg : Gl X "list") (hm : X.mg "list" = none) (hg2 : Gl X "zip") (hm2 : X.mg "zip" = none) (ha : PA X [e, e2] ta)
    (hs : starEach [.Call (.Name "zip" q) [e, e2] [] pos2] X.env = (false, eval (.Call (.Name "zip" q) [e, e2] [] pos2) X.env) :: starEach [] X.env := by rfl)
    (hs2 : starEach [e, e2] X.env = (false, eval e X.env) :: starEach [e2] X.env := by rfl) (hpl : (backTo pos2 (starEach [e2] X.env)).any (·.1) = false := by rfl) :
    PE X (.Call (.Name "list" p) [.Call (.Name "zip" q) [e, e2] [] pos2] [] pos) (tListZip X.K ta) := by
  refine ⟨fun pins s σ H Q I hq => ?_⟩
  refine wpAny_Call_Name_kw (ld_blt I hg hm rfl ?_)
  refine PyProof.Rows.callWith_type1 ?_ hs rfl
  rw [hs]
  show wpAny _ _ (spliced ((false, eval (.Call (.Name "zip" q) [e, e2] [] pos2) X.env) :: backTo pos (starEach [] X.env))) _ _ s
  refine Calls.spliced_cons ?_
  refine Call_ (ld_blt I hg2 hm2 PyProof.Rows.boot_zip (PyProof.Rows.callWith_type1 (thn (ha.run pos2 pins s σ H _ I hq) fun us s1 ⟨vs, H1, I1, r1, q1⟩ => ?_) hs2 hpl))
  obtain ⟨a, b, xs, ys, ex, hqx, hqy, q1⟩ := q1
  subst ex
  cases r1 with
  | cons r rr =>
    cases rr with
    | cons r' rr =>
      cases rr
      cases r
      cases r'
      obtain ⟨its, rv, p1, z1⟩ := I1.list hqx
      obtain ⟨its2, rv2, p2, z2⟩ := I1.list hqy
      have la : a < s1.heap.objs.size := p1.lt
      have lb : b < s1.heap.objs.size := p2.lt
      have l1 := Paired.length rv
      have l2 := Paired.length rv2
      refine call_zip_2 p1.isList p2.isList fun h' hz hTI hTO h1 h2 hsz hk => Calls.spliced_nil ?_
      have sz : s1.heap.objs.size ≤ h'.objs.size := by rw [hsz]; exact Nat.le_add_right _ _
      have low7 : ZL.Low (s1.heap.objs.size + 4) (s1.heap.objs.size + 2) (s1.heap.objs.size + 3) s1.heap.objs.size (s1.heap.objs.size + 1) a b h'.objs.size := by
        refine ⟨?_, ?_, ?_, ?_, ?_, Nat.lt_of_lt_of_le la sz, Nat.lt_of_lt_of_le lb sz⟩
        · rw [hsz]; exact Nat.add_lt_add_left (by decide) _
        · rw [hsz]; exact Nat.add_lt_add_left (by decide) _
        · rw [hsz]; exact Nat.add_lt_add_left (by decide) _
        · rw [hsz]; exact Nat.lt_add_of_pos_right (by decide)
        · rw [hsz]; exact Nat.add_lt_add_left (by decide) _
      refine ZL.call (s := { s1 with heap := h' }) (n := min its.length its2.length) (I1.ok.hd hc) (PySem.W.ktu_apart s1.heap.objs.size a b la lb) low7 (by rw [List.size_toArray, List.size_toArray]) (by omega)
        ⟨hTI, h1, h2, p1.isList.at fun o e => hk _ o e, p2.isList.at fun o e => hk _ o e, .inl ⟨hz, _, _, hTO⟩⟩ hz fun h2 acc c as kp eS el g ea => ?_
      have nd : as.Nodup := g.up.imp fun h => Nat.ne_of_lt h
      have hn : h'.objs.size ∉ as := fun m => Nat.lt_irrefl _ (g.over _ m)
      have low : ∀ {c}, s1.heap.objs.size ≤ c → H1 c = none := fun h => I1.hok.fresh h
      have nas : ∀ t ∈ as, H1 t = none := fun t ht => low (Nat.le_trans sz (Nat.le_of_lt (g.over t ht)))
      have hl : as.length = (xs.zip ys).length := by rw [el, List.length_zip, l1, l2]
      have hk2 : ∀ b o, s1.heap.get? b = some o → h2.get? b = some o := fun b o e => by
        have := Heap.lt_size e
        exact kp b o (Nat.ne_of_lt (Nat.lt_of_lt_of_le this (Nat.le_add_right _ _))) (Nat.ne_of_lt (Nat.lt_of_lt_of_le this (Nat.le_add_right _ _))) (Nat.ne_of_lt this) (Nat.ne_of_lt (Nat.lt_of_lt_of_le this (Nat.le_add_right _ _))) (hk b o e)
      refine ⟨.ref _, _, adopt (s := s1) (H' := upd (putP H1 as (xs.zip ys)) h'.objs.size (.lst (as.map V.ref))) (tk := s1.toks) I1 hk2 (fun b u e => ?_) fun b u e => ?_, rfl, q1 h'.objs.size as (low sz) nas hn nd hl⟩
      · have n1 : b ≠ h'.objs.size := fun z => by rw [z, low sz] at e; cases e
        rw [upd_ne n1]
        unfold putP
        rw [zip_off fun z => by rw [nas b z] at e; cases e]
        exact e
      · by_cases n1 : b = h'.objs.size
        · subst n1
          rw [upd_same] at e
          cases e
          refine .inr ⟨sz, by rw [List.length_map, hl, List.length_zip]; omega, acc.toList, c, by rw [ea]; exact LiI.vals_refs as, ?_⟩
          rw [Array.toArray_toList]
          exact eS
        · rw [upd_ne n1] at e
          unfold putP at e
          split at e
          · rename_i pr ep
            obtain ⟨j, e1, e2⟩ := zip_mem ep
            cases e
            obtain ⟨x, y, f1, f2, f3⟩ := g.at_ j b e1
            obtain ⟨g1, g2⟩ := zip_get e2
            obtain ⟨u1, w1, w2⟩ := Vals.get rv g1
            obtain ⟨u2, w3, w4⟩ := Vals.get rv2 g2
            rw [List.getElem?_toArray, w1] at f1
            rw [List.getElem?_toArray, w3] at f2
            cases f1
            cases f2
            exact .inr ⟨Nat.le_trans sz (Nat.le_of_lt (g.over b (List.mem_of_getElem? e1))), by show 2 ≤ sizeLine; decide, [_, _], .cons w2 (.cons w4 .nil), ⟨_, f3, rfl, _, rfl⟩⟩
          · exact .inl e
end
theorem kListZip {X : Cx} {K : PySem.W.Frag} (h : X.K = K) {e e2 : Expr} {ta : TA} {p q pos pos2 : Pos} (hc : X.calm = true) (hg : Gl X "list") (hm : X.mg "list" = none) (hg2 : Gl X "zip") (hm2 : X.mg "zip" = none) (ha : PA X [e, e2] ta)
    (hs : starEach [.Call (.Name "zip" q) [e, e2] [] pos2] X.env = (false, eval (.Call (.Name "zip" q) [e, e2] [] pos2) X.env) :: starEach [] X.env := by rfl)
    (hs2 : starEach [e, e2] X.env = (false, eval e X.env) :: starEach [e2] X.env := by rfl) (hpl : (backTo pos2 (starEach [e2] X.env)).any (·.1) = false := by rfl) :
    PE X (.Call (.Name "list" p) [.Call (.Name "zip" q) [e, e2] [] pos2] [] pos) (tListZip K ta) := h ▸ pe_listZip hc hg hm hg2 hm2 ha hs hs2 hpl
end RX

/-! d.pop(k), k a tuple that stands there -/
namespace RX
open PySem PySem.Spec PyProof.Rows L2
section
variable {prog : Program} {w : World} {L : Type} [DecidableEq L] {knd : HeapKind prog w L}
theorem meets_pop1 {d b : Addr} {k : L} : MeetsIn prog w (Builtin.«dict.pop» ⟨[.ref d, .ref b], []⟩) (fun A R s => ∃ xs, knd.room A.in1 ∧ knd.is s.heap k b ∧ s.heap.DictOfH knd d xs ∧ xs.length ≤ sizeLine ∧ ∃ p, atKey xs k = some p ∧
    ∀ h' tk, h'.DictOfH knd d (DT.dropH xs k) → Heap.SameBut d s.heap h' → R (.ok (.ret p.2)) { s with heap := h', toks := tk }) := by
  refine .of_wp fun A R s ⟨xs, room, key, dict, small, p, there, want⟩ => ?_
  obtain ⟨o, es, ep, ho, hc, hdat, he, his, hn⟩ := id dict
  have hsz : es.size = xs.length := size_of_entries he
  have hp : (keyPart (Value.ref b)).isSome = false := rfl
  unfold Builtin.«dict.pop»
  refine wpAny_bind ?_
  unfold Builtin.Dict.keyAndDefault
  refine wpAny_bind (wpAny_notOrdered_dict dict.typeIs ?_)
  show wpAny _ _ (pure (d, Value.ref b, none)) _ _ s
  refine wpAny_pure ?_
  simp only [hp, Bool.false_eq_true, if_false]
  refine wpAny_bind (wpAny_dictEntries ho hdat (wpAny_bind (wpAny_pure ?_)))
  cases hem : es.isEmpty with
  | true =>
    have z : es.size = 0 := by simpa using hem
    have : xs = [] := List.length_eq_zero_iff.mp (by omega)
    subst this
    exact nomatch there
  | false =>
    simp only [Bool.false_eq_true, if_false]
    refine wpAny_bind (DT.takeH room key dict small (fun no => absurd there (by rw [no]; exact fun z => nomatch z)) fun q e hq ev h2 d2 sb => ?_)
    cases there.symm.trans hq
    simp only [Option.isNone_some, Bool.false_eq_true, if_false]
    exact wpAny_bind (wpAny_letGo (wpAny_pure ⟨e.val, rfl, by rw [ev]; exact want h2 _ d2 sb⟩))
end
def tDPopT (td ty : TE) : TE := fun σ H Q => td σ H fun x H1 => ∃ a, x = .ref a ∧ IsD H1 a ∧ ty σ H1 fun y H2 => ∃ (kvs : List (List L2.Key × V)) (k : List L2.Key) (b : Addr) (v : V), H2 a = some (.dT kvs) ∧ y = .ref b ∧ H2 b = some (.tup (k.map kV)) ∧ valV kvs k = some v ∧ Q v (upd H2 a (.dT (dropK kvs k)))
theorem pe_dpopT {X : Cx} {o e : Expr} {td ty : TE} {apos cpos : Pos} (hu : X.A.units + 1 < cLine) (ho : PE X o td) (he : PE X e ty) (m : M1 X o "pop" apos e cpos) : PE X (.Call (.Attribute o "pop" apos) [e] [] cpos) (tDPopT td ty) := by
  constructor
  intro pins s σ H Q I h
  refine wpAny_Call_method m.base m.few m.line PySem.F.plainAttrs_dict PySem.F.slot_dict_pop PySem.F.type_dict_pop (thn (ho.run pins s σ H _ I h) fun u s1 ⟨x, H1, I1, rx, a, ex, d, q1⟩ => ?_)
  subst ex
  obtain rfl : u = Value.ref a := rx
  obtain ⟨t1, t2, _⟩ := isD_at I1 d
  refine ⟨t1, t2, ?_⟩
  rw [m.trees]
  refine Calls.callWith_builtin rfl (Calls.evalArgs_plain (Calls.spliced_cons (thn (he.run pins s1 σ H1 _ I1 q1) fun iv s2 ⟨y, H2, I2, ry, kvs, k, b, v, ea, ey, eb, l, q2⟩ => Calls.spliced_nil ?_)))
  subst ey
  obtain rfl : iv = Value.ref b := ry
  obtain ⟨z, hd, xs, rel, dd⟩ := dt_of I2.hok ea
  have hz : xs.length ≤ sizeLine := by rw [← Paired.length rel]; exact z
  have r := rel.val k
  rw [l] at r
  obtain ⟨p, ep, rp⟩ : ∃ p, atKey xs k = some p ∧ RelV v p.2 := by
    cases q : atKey xs k with
    | none => rw [q] at r; exact r.elim
    | some p => rw [q] at r; exact ⟨p, rfl, r⟩
  refine call_meetsIn PySem.F.slot_dict_pop dd.typeIs PySem.F.entry_dict_pop (PySem.F.args_dict_pop_2 _ _) (meets_pop1 (knd := tupleKind (mixKind X.prog X.w)) (k := k)) ⟨xs, tupleKind_room_in1 hu, key_of I2.hok eb, dd, hz, p, ep, fun h' tk dd' hs => ?_⟩
  obtain ⟨o, es, ep', hq, h2, h3, h4, _, h5⟩ := dd'
  have I3 : Inv X pins σ (upd H2 a (.dT (dropK kvs k))) { s2 with heap := h', toks := tk } :=
    d_write I2 (by rw [ea]; exact True.intro) hs ⟨o, hq⟩ ⟨Nat.le_trans (dropK_le kvs k) z, hd, _, (DX.KT_drop k rel).keeps (fun c ys ec => (by rw [upd_ne (ne_of ec ea (fun z => nomatch z))]; exact ec)), o, es, ep', hq, h2, h3, h4, h5⟩
  show EP X pins σ Q p.2 _
  exact ⟨v, _, I3, rp, q2⟩
end RX

/-! X() that is raised: an own exception without values, its __init__ writing a constant -/
namespace HK
open PySem PySem.Spec PyProof.Rows L2 HotX L2H
theorem pmk0 {X : Cx} {Z : CXT} {x : Str} {p pos : Pos} {C q : Addr} {k : Nat} {fd : FuncData} {ps : List Str} {sp : Sp} (T : OexC X.K C) (iC : PySem.W.findIn X.K (.ref C) "__init__" = some (some (.ref q)))
    (tI : PySem.W.typeIn X.K (.ref q) = some (.type "function")) (G : FnOk X.prog X.w X.K X.mg X.base Z k q fd ps sp) (room : Room (k + 1) X.A) (bi : Binds X.K fd ps []) (pass : Passes Z X fun _ _ _ => False) (hg : Gl X x) (hm : X.mg x = some (.ref C))
    (hdb : (x == ("__debug__" : Str)) = false := by decide) :
    PMk5 X (.Call (.Name x p) [] [] pos) (tMkO C sp [] tNil) := fun pins s σ H Q I h => by
  obtain ⟨nm, qn, N, bs, bm, sn, sub, ab, col, dd, k0, k1, k2, k3, k5, hC, hbm⟩ := T.cls
  refine wpAny_Call_Name_kw (ld_glob I hg hm ?_ hdb)
  refine PySem.W.callWith_K0 I.kIn T.kC ?_
  obtain ⟨us, hus⟩ : ∃ us : List Value, us = [] := ⟨_, rfl⟩
  rw [show (([] : List Value) ++ []) = [] ++ us from by rw [hus]]
  obtain ⟨vs, hvs⟩ : ∃ vs : List V, vs = [] := ⟨_, rfl⟩
  have rv : Vals vs us := by rw [hus, hvs]; exact .nil
  obtain ⟨H1, I1, want⟩ : ∃ H1, Inv X pins σ H1 s ∧ (vs.length ≤ 1000 ∧ ∀ a, H1 a = none → sp (.ref a :: (vs ++ [])) (upd H1 a (exo a C none))
      (fun v H2 => v = .non ∧ ∃ (d : Addr) (fs : List (Str × V)), H2 a = some (exo a C (some d)) ∧ H2 d = some (exd d fs) ∧ H1 d = none ∧ Q (.ref C) (some d) (upd (del H2 a) d (.xd fs))) (fun _ _ _ => False)) := ⟨H, I, by rw [hvs]; exact h⟩
  obtain ⟨small, want⟩ := want
  obtain ⟨h1, gens, dr, tk, os⟩ := s
  generalize hn : h1.objs.size + 1 = n at *
  have le : h1.objs.size ≤ n := by rw [← hn]; exact Nat.le_succ _
  have wants := want n (I1.hok.fresh le)
  rw [List.append_nil] at wants
  generalize hh2 : (h1.push (PySem.W.kdv_tup us)).push (PySem.HandSPX.excO C h1.objs.size) = h2 at *
  have kept : ∀ b o, h1.get? b = some o → h2.get? b = some o := fun b o z => by rw [← hh2]; exact Heap.get?_push_of_some _ (Heap.get?_push_of_some _ z)
  have at_n : h2.get? n = some (PySem.HandSPX.excO C h1.objs.size) := by rw [← hh2, ← hn]; heap_get
  have J : Inv X pins σ (upd H1 n (exo n C none)) ⟨h2, gens, dr, tk, os⟩ := I1.laid (t' := tk) kept le (exo_ok at_n)
  have rv2 : Vals (V.ref n :: vs) (Value.ref n :: us) := .cons rfl rv
  have ll : (Value.ref n :: us).length = ps.length := rv2.length.symm.trans (G.len _ _ _ _ wants)
  have bt := bi ⟨h2, gens, dr, tk, os⟩ (Value.ref n :: us) J.kIn (by rw [List.append_nil]; exact ll)
  rw [List.append_nil] at bt
  have ul : us.length ≤ sizeLine := by
    have := Paired.length rv
    rw [sizeLine_eq]
    omega
  have run := G.run _ X.stack _ _ ⟨Value.ref n :: us, []⟩ _ _ _ (fun _ _ _ => False) (room.make C us []) (J.env0.make C us []) bt rv2 wants
  refine wpAny_call (PySem.HandSPX.call_own F.excBase_ValueError (fun Y => PySem.HandSPX.refsVE_contains Y bm hbm) (I1.kIn _ _ hC) (PySem.W.looks_findIn I1.kIn iC) (fun self => PySem.W.bind_fn I1.kIn self tI) ul ?_)
  rw [hn, List.nil_append, hh2]
  refine codeAny_mono run fun r s2 back => ?_
  match r, back with
  | .error er, back => exact pass pins σ _ _ er s2 J back
  | .ok (.ret u), ⟨v, H2, os2, bare2, un2, hok2, ru, ⟨ev, d, fs, ea, ed, dn, wq⟩⟩ =>
    subst ev
    obtain ⟨g1, gens2, dr2, tk2, os3⟩ := s2
    obtain ⟨t0, G, JG, kG, new, rec, na⟩ := mk_end0 (d2 := dr2) (t2 := tk2) I1 le kept un2 hok2 os2 bare2 ea ed dn
    refine ⟨ru, ⟨n, _, _, ⟨G, gens2, dr2, tk2, os3⟩, _, .ref C, some d, rfl, JG, kG, new, rec, ⟨rfl, rfl, ?_⟩, rfl, rfl, na, rfl, bare2, raises_own T.exC T.tyC, wq⟩, ?_⟩
    · intro gs e; cases e; rfl
    · intro b ob gs e z zd
      cases e
      obtain rfl := Option.some.inj (rec.symm.trans z)
      cases zd
      exact (by decide : (4 : Nat) < 6)

end HK
namespace RX
open PySem PySem.Spec PyProof.Rows L2
section
variable {X : Cx} {x : Str} {p pos : Pos} {C f : Addr} {k : Nat} {ps : List Str} {sp : Sp}
theorem pmk_ox0 (T : OexC X.K C) (iC : PySem.W.findIn X.K (.ref C) "__init__" = some (some (.ref f))) (tI : PySem.W.typeIn X.K (.ref f) = some (.type "function"))
    (G : OkD X.prog X.w X.K X.mg X.base k f ps sp) (hr : Room (k + 1) X.A) (hg : Gl X x) (hm : X.mg x = some (.ref C))
    (hdb : (x == ("__debug__" : Str)) = false := by decide) : L2N.PMk X (.Call (.Name x p) [] [] pos) (tMkO C sp [] tNil) := by
  obtain ⟨kp, fd, hb, F, _⟩ := G
  exact (HK.pmk0 T iC tI F hr hb HK.passF hg hm hdb).pmk
end
def spX0 (C : Addr) (f : Str) (v : V) : Sp := fun vs H Q _ => ∃ (a : Addr), vs = [.ref a] ∧ H a = some (exo a C none) ∧ ∀ d, H d = none → d ≠ a → Q .non (upd (upd H d (exd d [(f, v)])) a (exo a C (some d)))
end RX

/-! len(own object) by its own __len__ -/
namespace RX
open PySem PySem.Spec PyProof.Rows L2 PySem.Builtin
def spLen (sp : Sp) : Sp := fun vs H Q E => sp vs H (fun v H' => (∃ n : Int, v = .int n ∧ 0 ≤ n ∧ n < 2 ^ 63) ∧ Q v H') E
def LenOwn (C : Addr) (sp : Sp) (E : XK) : List V → Hp → VK → Prop := fun xs H Q => ∃ a dx fs, xs = [.ref a] ∧ H a = some (.ins C dx fs) ∧ spLen sp [.ref a] H Q E
theorem call_lenOwn {X : Cx} {k : Nat} {C f : Addr} {ps : List Str} {sp : Sp} {E : XK} (G : OkD X.prog X.w X.K X.mg X.base k f ps sp) (hr : Room (k + 1) X.A)
    (hs : PySem.W.findIn X.K (.ref C) "__len__" = some (some (.ref f))) (hf : PySem.W.isFn X.K (.ref f) = true) (hx : Passes (HK.CX X.prog X.w) X E) : CallR X (.builtin "len") (LenOwn C sp E) := by
  intro pins s σ H xs us Q I r h
  obtain ⟨a, dx, fs, rfl, ha, q⟩ := h
  obtain ⟨kp, fd, hb, F, _⟩ := G
  obtain ⟨u, rfl, hu⟩ := vals1 r
  cases hu
  obtain ⟨mA, J, _⟩ := ins_get I.hok ha
  obtain ⟨od, J, _⟩ := J.look
  have hr2 : Room k X.A.in1 := hr.in1
  have e0 : Env0 X.prog X.w X.K X.mg X.base X.A.in1 X.stack s H := by
    have e := I.env0
    exact ⟨e.frames, e.mod, e.bs, e.bsz, e.funs, e.frf, e.hok, e.bare⟩
  have hl := F.len _ _ _ _ q
  have r2 : Vals [V.ref a] [Value.ref a] := .cons rfl .nil
  refine PySem.Calls.call_function_entry kind_len plain_len entry_len (args_len1 _) ?_
  unfold Builtin.«len»
  refine wpAny_bind (m := oneArg "len" _) (wpAny_pure ?_)
  refine wpAny_bind (m := callSpecial? (.ref a) (Str.ofString "__len__")) (PySem.W.special_fn I.kIn J hs (beq_iff_eq.mp hf) ?_)
  refine wpAny_call (codeAny_mono (F.run X.A.in1 X.stack s H ⟨[.ref a], []⟩ [.ref a] [.ref a] _ E hr2 e0 (by
    have := hb s [.ref a] I.kIn (by simpa using hl)
    simpa using this) r2 q) fun r s' hq => ?_)
  cases r with
  | error e => exact hx pins σ H s e s' I hq
  | ok fl =>
    cases fl with
    | ret w =>
      obtain ⟨z, H', I', rz, ⟨n, en, h0, h1⟩, q'⟩ := I.after hq
      subst en
      obtain ⟨t, rfl⟩ := rz
      refine wpAny_bind (wpAny_holding (wpAny_pure ?_))
      refine wpAny_bind (wpAny_letGo ?_)
      show wpAny _ _ (if n < 0 then _ else _) _ _ _
      rw [if_neg (by omega)]
      show wpAny _ _ (if n ≥ 2 ^ 63 then _ else _) _ _ _
      rw [if_neg (by omega)]
      exact wpAny_bind (wpAny_mkInt (wpAny_pure ⟨_, rfl, .int n, H', I'.tok _, ⟨_, rfl⟩, q'⟩))
    | next => exact False.elim hq
    | brk => exact False.elim hq
    | cont => exact False.elim hq
end RX

/-! a dict of the module, texts to defs: the head with tables; in, [..]; a call of what was found -/
namespace RX
open PySem PySem.Spec PyProof.Rows L2 ItX
/-! ### the table's entries -/
theorem ent_find {z : Str} : ∀ {l : List DictEntry} {kvs : List (Str × Addr)}, l.map entT = (kvs.map fun q => (some q.1, Value.ref q.2)) →
    (match l.find? (·.key.isStr z) with
      | some e => some (some e.val)
      | none => if l.any (·.refKey) then none else some none) = some ((kvs.lookup z).map Value.ref)
  | [], [], _ => rfl
  | [], _ :: _, h => by cases h
  | _ :: _, [], h => by cases h
  | e :: l, (x, f) :: kvs, h => by
    have h1 : entT e :: l.map entT = (some x, Value.ref f) :: (kvs.map fun q => (some q.1, Value.ref q.2)) := h
    injection h1 with h2 h3
    obtain ⟨k2, v2⟩ := Prod.mk.inj h2
    have ih := ent_find (z := z) h3
    have hk : ∃ t, e.key = .str x t := by
      revert k2
      cases e.key <;> intro k2 <;> first | exact ⟨_, by rw [Option.some.inj k2]⟩ | cases k2
    obtain ⟨t, hk⟩ := hk
    rw [List.find?_cons, List.lookup_cons]
    have ei : e.key.isStr z = (z == x) := by
      rw [hk]
      show (x == z) = (z == x)
      exact Bool.eq_iff_iff.mpr ⟨fun q => by rw [beq_iff_eq] at q ⊢; exact q.symm, fun q => by rw [beq_iff_eq] at q ⊢; exact q.symm⟩
    rw [ei]
    cases q : (z == x) with
    | true => show some (some e.val) = _; rw [v2]; rfl
    | false =>
      have er : e.refKey = false := by unfold DictEntry.refKey; rw [hk]
      rw [List.any_cons, er, Bool.false_or]
      exact ih
theorem tabV_ok {K : PySem.W.Frag} {a : Addr} {kvs : List (Str × Addr)} (h : tabV K a kvs = true) (z : Str) : PySem.W.nsIn K a z = some ((kvs.lookup z).map Value.ref) := by
  unfold tabV at h
  unfold PySem.W.nsIn
  split at h
  · rename_i es _ _ e
    rw [e]
    exact ent_find (of_decide_eq_true h)
  · cases h
/-! ### the head with tables -/
theorem SaysW.tab {fa : List He.Fa} {fn : List He.DefD} {ex : PySem.W.Frag → Bool} {ts : List He.Tab} {w : World} {K : PySem.W.Frag} (c : SaysW fa fn ex ts w K) (i : Nat) {t : He.Tab} (h : ts[i]? = some t := by rfl) : ∃ es n, KDict K w (t.1 K) es n := by
  have e2 : (ts.map fun t => He.dicW K (t.1 K))[i]? = (ts.map fun t => some (He.keysIn w.params t.2))[i]? := by rw [c.t]
  rw [List.getElem?_map, List.getElem?_map, h] at e2
  exact He.dicW_ok (Option.some.inj e2)
/-- a table of defs at a -/
structure TabAt (K : PySem.W.Frag) (w : World) (a : Addr) (kvs : List (Str × Addr)) : Prop where
  d : ∃ es n, KDict K w a es n
  v : tabV K a kvs = true
def rInT (a : Addr) (kvs : List (Str × Addr)) : R2 := fun x y H Q => ∃ z, x = .str z ∧ y = .ref a ∧ Q (.bl (kvs.lookup z).isSome) H
def rNotInT (a : Addr) (kvs : List (Str × Addr)) : R2 := fun x y H Q => ∃ z, x = .str z ∧ y = .ref a ∧ Q (.bl (!(kvs.lookup z).isSome)) H
def rIxT (a : Addr) (kvs : List (Str × Addr)) : R2 := fun x y H Q => ∃ z f, x = .ref a ∧ y = .str z ∧ kvs.lookup z = some f ∧ Q (.ref f) H
section
variable {X : Cx} {a : Addr} {kvs : List (Str × Addr)}
theorem op_inT (t : TabAt X.K X.w a kvs) : OpR X (compareOp .In) (rInT a kvs) := by
  intro pins s σ H x y v u Q I rx ry ⟨z, ex, ey, q⟩
  obtain ⟨es, n, D⟩ := t.d
  refine op_in_kd D pins s σ H x y v u Q I rx ry ⟨z, _, ex, ey, tabV_ok t.v z, ?_⟩
  rw [Option.isSome_map]
  exact q
theorem op_notInT (t : TabAt X.K X.w a kvs) : OpR X (compareOp .NotIn) (rNotInT a kvs) := by
  intro pins s σ H x y v u Q I rx ry ⟨z, ex, ey, q⟩
  obtain ⟨es, n, D⟩ := t.d
  refine op_notIn_kd D pins s σ H x y v u Q I rx ry ⟨z, _, ex, ey, tabV_ok t.v z, ?_⟩
  rw [Option.isSome_map]
  exact q
theorem ix_T (t : TabAt X.K X.w a kvs) : IxR X (rIxT a kvs) := by
  intro value slice pins s σ H x y v u Q I rx ry ⟨z, f, ex, ey, e, q⟩ hs
  obtain ⟨es, n, D⟩ := t.d
  refine ix_kdict value slice pins s σ H x y v u Q I rx ry ⟨a, z, .ref f, ex, ey, ⟨es, n, .ref f, D.at_, D.lit, ?_, rfl⟩, q⟩ hs
  rw [tabV_ok t.v z, e]
  rfl
end
section
variable {X : Cx} {k i : Nat} {f : Addr} {ps : List Str} {sp : Sp} {E : XK} {x : Str} {e : Expr} {es : List Expr} {t : TA} {p pos : Pos}
theorem pe_callV (G : OkD X.prog X.w X.K X.mg X.base k f ps sp) (hr : Room k X.A) (hx : Passes (HK.CX X.prog X.w) X E) (hN : X.N[i]? = some x) (hv : Vis X.env.scope x) (ha : PA X (e :: es) t)
    (hd : (x == ("__debug__" : Str)) = false := by decide) (hcd : (x == ("__classdict__" : Str)) = false := by decide)
    (he : starEach (e :: es) X.env = (false, eval e X.env) :: starEach es X.env := by rfl) (hpl : (backTo pos (starEach es X.env)).any (·.1) = false := by rfl) : PE X (.Call (.Name x p) (e :: es) [] pos) (tCallV i f sp E t) := by
  obtain ⟨kp, fd, hb, F, _⟩ := G
  have F2 : FnR X.prog X.w X.K X.mg X.base (HK.CX X.prog X.w) k f sp := (F.raw hb .nil).imp fun vs H Q E h => by rw [List.append_nil]; exact h
  exact ItX.pe_callV F2 hr kp hx hN hv ha hd hcd he hpl
end
end RX

/-! zip of a list and a tuple, in a for -/
namespace RX
open PySem PySem.Spec PyProof.Rows L2 RZ
theorem sepZ {z TI TO c d a b : Addr} (S : ZipApart z TI TO c d a b) : ZipSep2 z TI TO c d [c, a] [d, b] where
  TIz := S.TIz
  TOz := S.TOz
  TITO := S.TITO
  TIi1 := S.TIi1
  TIi2 := S.TIi2
  mem1 := List.mem_cons_self
  mem2 := List.mem_cons_self
  zf1 := by simp [Ne.symm S.i1z, Ne.symm S.l1z]
  zf2 := by simp [Ne.symm S.i2z, Ne.symm S.l2z]
  Tf1 := by simp [S.TOi1, Ne.symm S.l1TO]
  Tf2 := by simp [S.TOi2, Ne.symm S.l2TO]
  sep1_2 := by simp [S.i12, Ne.symm S.l2i1]
  sep2_1 := by simp [Ne.symm S.i12, Ne.symm S.l1i2]
/-- the list at a, the tuple at b, turn by turn -/
def ItzM (K : PySem.W.Frag) (a b : Addr) : It where
  go := fun n H => ∃ (p q : List V) (u v : V), SqL K H a p ∧ SqT K H b q ∧ p[n]? = some u ∧ q[n]? = some v
  yld := fun n H r G => ∃ N u v, r = .ref N ∧ H N = none ∧ G = upd H N (.tup [u, v]) ∧ (∀ p, SqL K H a p → p[n]? = some u) ∧ ∀ q, SqT K H b q → q[n]? = some v
  stop := fun n H => ∃ p q : List V, SqL K H a p ∧ SqT K H b q ∧ n = min p.length q.length
/-- where its five cells stand at turn n -/
def ZipM (a b z TI TO c d : Addr) (n : Nat) (g : Heap) : Prop := IsZip g z TI TO .none ∧ IsPair g TI (.ref c) (.ref d) ∧ (∃ x y, IsPair g TO x y) ∧ g.IsListIter c a n ∧ g.IsTupleIter d b n
theorem five {z p q c d x : Addr} (h : x ∈ [z, p, q, c, d]) : x = z ∨ x = p ∨ x = q ∨ x = c ∨ x = d := by simpa using h
theorem nfive {z p q c d x : Addr} (h : x ∉ [z, p, q, c, d]) : x ≠ z ∧ x ≠ p ∧ x ≠ q ∧ x ≠ c ∧ x ≠ d := by simpa using h
theorem turn_zipM {P : Program} {w : World} {K : PySem.W.Frag} {es : List Expr} {kk : Nat} {tp : Pos} {a b z TI TO c d : Addr} (S : ZipApart z TI TO c d a b) :
    Turn P w K (.Tuple es kk tp) (ItzM K a b) [z, TI, TO, c, d] z (ZipM a b z TI TO c d) where
  mem := List.mem_cons_self
  obj := fun n g st x hx => by
    obtain ⟨k1, k2, ⟨u, v, k3⟩, ⟨ol, g1, _, f1⟩, ⟨ot, g2, _, f2⟩⟩ := st
    rcases five hx with rfl | rfl | rfl | rfl | rfl
    · exact ⟨_, k1, nofun⟩
    · exact ⟨_, k2, nofun⟩
    · exact ⟨_, k3, nofun⟩
    · exact ⟨ol, g1, fun v e => (nomatch f1.symm.trans e)⟩
    · exact ⟨ot, g2, fun v e => (nomatch f2.symm.trans e)⟩
  keep := fun n g g' st keep => by
    obtain ⟨k1, k2, ⟨u, v, k3⟩, k4, k5⟩ := st
    have kp : ∀ x ∈ [z, TI, TO, c, d], ∀ o, g.get? x = some o → g'.get? x = some o := keep
    exact ⟨kp z (by simp) _ k1, kp TI (by simp) _ k2, ⟨u, v, kp TO (by simp) _ k3⟩, k4.at fun o e => kp c (by simp) o e, k5.at fun o e => kp d (by simp) o e⟩
  item := by
    intro X eP ew eK calm n pins s σ H E I fp st go
    subst eP ew eK
    obtain ⟨k1, k2, ⟨u0, v0, k3⟩, k4, k5⟩ := st
    obtain ⟨p, q, u, v, hp, hq, hu, hv⟩ := go
    obtain ⟨li, rl, pl, _⟩ := I.list hp
    obtain ⟨ti, rt, pt, _⟩ := I.tuple hq
    obtain ⟨lu, elu, ru⟩ := rl.get hu
    obtain ⟨tv, etv, rv⟩ := rt.get hv
    have cool : X.A.in1.handled = none := I.ok.hd calm
    have zl : z < s.heap.objs.size := Heap.lt_size k1
    have n1 : n < li.toArray.size := by rw [List.size_toArray]; exact (List.getElem?_eq_some_iff.mp elu).1
    have n2 : n < ti.toArray.size := by rw [List.size_toArray]; exact (List.getElem?_eq_some_iff.mp etv).1
    refine wpAny_pyNext_zipD2_item (sepZ S) (Draws.list cool c a S.l1i1 li.toArray) (Draws.tuple cool d b S.l2i2 ti.toArray) k1 k2 k3 ⟨k4, pl.isList⟩ ⟨k5, pt⟩ n1 n2 fun x y g tk ex ey g1 g2 g3 g4 g5 gs gk => ?_
    have ex' : x = lu := by
      have ex : li.toArray[n]? = some x := ex
      rw [List.getElem?_toArray, elu] at ex
      exact (Option.some.inj ex).symm
    have ey' : y = tv := by
      have ey : ti.toArray[n]? = some y := ey
      rw [List.getElem?_toArray, etv] at ey
      exact (Option.some.inj ey).symm
    subst ex' ey'
    refine ⟨_, rfl, wpAny_letOwnedTupleGo_zip (s := { s with heap := g, toks := tk }) g1 fun g' gz sb => ?_⟩
    have made : g'.get? s.heap.objs.size = some { cls := .type "tuple", data := .seq #[x, y] } := (sb.2 _ (Nat.ne_of_gt zl)).trans g5
    have nw : ObjOk X.prog X.w (upd H s.heap.objs.size (.tup [u, v])) g' s.heap.objs.size (.tup [u, v]) := ⟨by show 2 ≤ sizeLine; decide, [x, y], .cons ru (.cons rv .nil), ⟨_, made, rfl, _, rfl⟩⟩
    have J : Inv X pins σ (upd H s.heap.objs.size (.tup [u, v])) { s with heap := g', toks := tk } := by
      refine I.turnedNew (ch := [z, TI, TO, c, d]) (fun x o hx e => ?_) fp (Nat.le_refl _) nw
      obtain ⟨a1, a2, a3, a4, a5⟩ := nfive hx
      exact (sb.2 x a1).trans (gk x o a1 a3 a4 a5 e)
    refine ⟨.ref s.heap.objs.size, _, J, rfl, ⟨_, u, v, rfl, I.hok.fresh (Nat.le_refl _), rfl, fun p' h' => by rw [I.list_inj h' hp]; exact hu, fun q' h' => by rw [I.tuple_inj h' hq]; exact hv⟩, ?_, fun x hx => ?_⟩
    · have kTI : g.get? TI = some { cls := .type "tuple", data := .seq #[.ref c, .ref d] } := gk TI _ S.TIz S.TITO S.TIi1 S.TIi2 k2
      exact ⟨gz, (sb.2 TI S.TIz).trans kTI, ⟨_, _, (sb.2 TO S.TOz).trans g2⟩, g3.1.at fun o e => (sb.2 c S.i1z).trans e, g4.1.at fun o e => (sb.2 d S.i2z).trans e⟩
    · have lt : x < s.heap.objs.size := by
        rcases five hx with rfl | rfl | rfl | rfl | rfl
        · exact zl
        · exact Heap.lt_size k2
        · exact Heap.lt_size k3
        · obtain ⟨_, e, _⟩ := k4; exact Heap.lt_size e
        · obtain ⟨_, e, _⟩ := k5; exact Heap.lt_size e
      rw [upd_ne (Nat.ne_of_lt lt)]
      exact (fp x hx).1
  done := by
    intro X eP ew eK calm n pins s σ H E I fp st stop
    subst eP ew eK
    obtain ⟨k1, k2, ⟨u0, v0, k3⟩, k4, k5⟩ := st
    obtain ⟨p, q, hp, hq, hend⟩ := stop
    obtain ⟨li, rl, pl, _⟩ := I.list hp
    obtain ⟨ti, rt, pt, _⟩ := I.tuple hq
    have cool : X.A.in1.handled = none := I.ok.hd calm
    have l1 : li.toArray.size = p.length := by rw [List.size_toArray]; exact rl.length.symm
    have l2 : ti.toArray.size = q.length := by rw [List.size_toArray]; exact rt.length.symm
    refine wpAny_pyNext_zipD2_end (sepZ S) (Draws.list cool c a S.l1i1 li.toArray) (Draws.tuple cool d b S.l2i2 ti.toArray) k1 k2 k3 ⟨k4, pl.isList⟩ ⟨k5, pt⟩ (by omega) (by omega) (by omega) fun g tk gk => ⟨rfl, ?_⟩
    refine I.turnedL (ch := [z, TI, TO, c, d]) (fun x o hx e => ?_) fp
    obtain ⟨a1, a2, a3, a4, a5⟩ := nfive hx
    exact gk x o a1 a3 a4 a5 e
  self := fun A n s Q E st h => wpAny_pyIter_zip st.1 h
/-- zip(x, y) of a list and a tuple -/
def iZipM (K : PySem.W.Frag) (ta : TA) : TI := fun σ H R => ta σ H fun vs G => ∃ a b p q, vs = [.ref a, .ref b] ∧ SqL K G a p ∧ SqT K G b q ∧ R (ItzM K a b) G
theorem pi_zipM {X : Cx} {e f : Expr} {ta : TA} {np cp tp : Pos} {es : List Expr} {kk : Nat} (gl : Gl X "zip") (free : X.mg "zip" = none) (pa : PA X [e, f] ta)
    (st : starEach [e, f] X.env = (false, eval e X.env) :: starEach [f] X.env := by rfl) (pl : (backTo cp (starEach [f] X.env)).any (·.1) = false := by rfl) : PI X (.Tuple es kk tp) (.Call (.Name "zip" np) [e, f] [] cp) (iZipM X.K ta) where
  run := fun pins s σ H R I h => by
    refine Call_ (ld_blt I gl free PyProof.Rows.boot_zip (PyProof.Rows.callWith_type1 (thn (pa.run cp pins s σ H _ I h) fun us t ⟨vs, G, J, rv, hv⟩ => ?_) st pl))
    obtain ⟨a, b, p, q, rfl, hp, hq, r⟩ := hv
    obtain ⟨u1, u2, rfl, r1, r2⟩ : ∃ u1 u2, us = [u1, u2] ∧ RelV (.ref a) u1 ∧ RelV (.ref b) u2 := by
      cases rv with | cons r1 rv => cases rv with | cons r2 rv => cases rv; exact ⟨_, _, rfl, r1, r2⟩
    obtain rfl := r1
    obtain rfl := r2
    obtain ⟨li, rl, pl, _⟩ := J.list hp
    obtain ⟨ti, rt, pt, _⟩ := J.tuple hq
    obtain ⟨ot, got, _⟩ := id pt
    refine zip_begins2 (begins_list a li.toArray) (begins_tuple b ti.toArray) pl.isList pt fun g k1 k2 k3 k4 k5 gs gk => wpAny_pyIter_zip k1 ?_
    have J2 : Inv X pins σ G { t with heap := g } := J.kept (t' := t.toks) gk
    refine ⟨t.heap.objs.size + 4, [t.heap.objs.size + 4, t.heap.objs.size + 2, t.heap.objs.size + 3, t.heap.objs.size, t.heap.objs.size + 1], _, _, G, rfl, J2, turn_zipM (PySem.W.ktu_apart t.heap.objs.size a b pl.lt (Heap.lt_size got)), ⟨k1, k2, ⟨_, _, k3⟩, ⟨_, k4, rfl, rfl⟩, ⟨_, k5, rfl, rfl⟩⟩, fun x hx => ?_, r⟩
    have low : t.heap.objs.size ≤ x := by
      rcases five hx with rfl | rfl | rfl | rfl | rfl <;> omega
    exact J.fpOk low (J.hok.fresh low)
end RX

/-! tuple * 0, tuple * 1 -/
namespace RX
open PySem PySem.Spec PyProof.Rows L2
theorem tuple_mul0 (l : Addr) (items : Array Value) (n : Nat) (dd : Option Addr) (sl : Array (Option Value)) (u : Tok) (c1 : items.isEmpty = false) :
    Meets (Builtin.«tuple.__mul__» ⟨[.ref l, .int 0 u], []⟩) (fun _ R s => s.heap.get? l = some { cls := .type "tuple", dict := dd, data := .seq items n, slots := sl } ∧
      R (.ok (.ret (Value.ref s.heap.objs.size))) { s with heap := s.heap.push { cls := Value.type "tuple", data := Data.seq #[] }, toks := s.toks }) :=
  .of_wp fun prog w A R s h => by
    obtain ⟨hp, g, d, tk, os⟩ := s
    obtain ⟨hl, h⟩ := h
    have f1 := AutoSeq1.idx_int
    wp_walk using wpAny_loadPart' hl
    repeat (first
      | (refine wpAny_ite_false (by decide) ?_; wp_walk using wpAny_loadPart' hl)
      | (refine wpAny_ite_true (by decide) ?_; wp_walk using wpAny_loadPart' hl)
      | (refine wpAny_ite_false (by simp [c1]) ?_; wp_walk using wpAny_loadPart' hl)
      | (refine wpAny_ite_true (by simp [c1]) ?_; wp_walk using wpAny_loadPart' hl))
    exact ⟨_, rfl, h⟩
theorem tuple_mul1 (l : Addr) (items : Array Value) (n : Nat) (dd : Option Addr) (sl : Array (Option Value)) (u : Tok) :
    Meets (Builtin.«tuple.__mul__» ⟨[.ref l, .int 1 u], []⟩) (fun _ R s => s.heap.get? l = some { cls := .type "tuple", dict := dd, data := .seq items n, slots := sl } ∧
      R (.ok (.ret (Value.ref l))) s) :=
  .of_wp fun prog w A R s h => by
    obtain ⟨hp, g, d, tk, os⟩ := s
    obtain ⟨hl, h⟩ := h
    have f1 := AutoSeq1.idx_int
    wp_walk using wpAny_loadPart' hl
    repeat (first
      | (refine wpAny_ite_false (by decide) ?_; wp_walk using wpAny_loadPart' hl)
      | (refine wpAny_ite_true (by simp) ?_; wp_walk using wpAny_loadPart' hl))
    exact ⟨_, rfl, h⟩
def rRep01 (K : PySem.W.Frag) : R2 := fun x y H Q => ∃ l xs, x = .ref l ∧ SqT K H l xs ∧ xs ≠ [] ∧ (y = .int 0 ∧ (∀ p, H p = none → Q (.ref p) (upd H p (.tup []))) ∨ y = .int 1 ∧ Q (.ref l) H)
theorem op_rep01 {X : Cx} : OpR X (binaryOp .Mult) (rRep01 X.K) := by
  intro pins s σ H x y v u Q I rx ry h
  obtain ⟨l, xs, rfl, hT, hne, h⟩ := h
  cases rx
  obtain ⟨its, r, ⟨⟨cls, dd, data, sl⟩, ho, hc, n, hd⟩, hs⟩ := I.tuple hT
  simp only at hc hd
  subst hc hd
  have hn : its ≠ [] := fun e => hne (by
    have hle : its.length = xs.length := r.length.symm
    rw [e] at hle
    exact List.eq_nil_of_length_eq_zero hle.symm)
  have hi : its.toArray.isEmpty = false := by
    cases its with
    | nil => exact absurd rfl hn
    | cons a b => rfl
  rcases h with ⟨rfl, q⟩ | ⟨rfl, q⟩
  · obtain ⟨t, rfl⟩ := ry
    refine wpAny_binaryOp_repeat_ref (T := "tuple") (U := "int") (by decide) ⟨_, ho, rfl⟩ (fun s' => typeIs_int s' 0 t) noFill_tuple_mul F.fills_int_mul F.slot_int_rmul repeat_tuple F.slot_int_index.lookup
      (call_meets F.slot_int_rmul (typeIs_int s 0 t) F.entry_int_rmul (F.args_int_rmul_2 _ _) (int_rmul_tuple 0 t l its.toArray n dd sl)
        ⟨ho, rfl, ⟨_, ho, rfl⟩, call_meets F.slot_tuple_mul ⟨_, ho, rfl⟩ F.entry_tuple_mul (F.args_tuple_mul_2 _ _) (tuple_mul0 l its.toArray n dd sl t hi) ⟨ho, ?_⟩⟩)
    refine ⟨.ref s.heap.objs.size, _, I.laid (t' := s.toks) (o := .tup []) (fun b ob q => Heap.get?_push_of_some _ q) (Nat.le_refl _) ?_, rfl, q _ (I.hok.fresh (Nat.le_refl _))⟩
    exact ⟨Nat.zero_le _, [], .nil, IsTup.new _ _⟩
  · obtain ⟨t, rfl⟩ := ry
    refine wpAny_binaryOp_repeat_ref (T := "tuple") (U := "int") (by decide) ⟨_, ho, rfl⟩ (fun s' => typeIs_int s' 1 t) noFill_tuple_mul F.fills_int_mul F.slot_int_rmul repeat_tuple F.slot_int_index.lookup
      (call_meets F.slot_int_rmul (typeIs_int s 1 t) F.entry_int_rmul (F.args_int_rmul_2 _ _) (int_rmul_tuple 1 t l its.toArray n dd sl)
        ⟨ho, rfl, ⟨_, ho, rfl⟩, call_meets F.slot_tuple_mul ⟨_, ho, rfl⟩ F.entry_tuple_mul (F.args_tuple_mul_2 _ _) (tuple_mul1 l its.toArray n dd sl t) ⟨ho, ?_⟩⟩)
    exact ⟨.ref l, H, I, rfl, q⟩
theorem kRep01 {X : Cx} {K : PySem.W.Frag} (h : X.K = K) : OpR X (binaryOp .Mult) (rRep01 K) := h ▸ op_rep01
end RX

/-! xs.count(y) of flat values; tuple + tuple, the left one empty, too -/
namespace RX
open PySem PySem.Spec PyProof.Rows L2
def rCntF (K : PySem.W.Frag) : V → List V → Hp → VK → Prop := fun x xs H Q => ∃ (p : Addr) (vs : List V) (y : V), x = .ref p ∧ xs = [y] ∧ SqL K H p vs ∧ flatV y = true ∧ vs.all flatV = true ∧ Q (.int ((vs.countP fun z => eqV z y : Nat) : Int)) H
theorem countP_eqU {x : V} : ∀ {xs : List V} {us : List Value}, Vals xs us → xs.all flatV = true → us.countP (eqU x) = xs.countP fun y => eqV y x
  | _, _, .nil, _ => rfl
  | y :: xs, u :: us, .cons r t, f => by
    rw [List.all_cons, Bool.and_eq_true] at f
    rw [List.countP_cons, List.countP_cons, eqU_of r f.1, countP_eqU t f.2]
theorem mt_countF {X : Cx} : MtR X "list.count" (rCntF X.K) := by
  intro pins s σ H x xs v us Q I rx rxs h
  obtain ⟨p, vs, y, rfl, rfl, hs, fy, fs, q⟩ := h
  cases rx
  obtain ⟨u, rfl, ru⟩ := rxs.one
  obtain ⟨its, rv, ⟨⟨cls, dd, data, sl⟩, n, ho, hc, hdn, hd⟩, hlen⟩ := I.list hs
  simp only at hc hd
  subst hc hd
  refine call_meets PySem.F.slot_list_count ⟨_, ho, rfl⟩ PySem.F.entry_list_count (PySem.F.args_list_count_2 _ _)
    (SeqAt.list_countAt p its.toArray n dd sl u (eqU y)) ⟨ho, fun z hz => mem_eqAt ru fy rv fs z (by simpa using hz), ?_⟩
  refine ⟨.int ((vs.countP fun z => eqV z y : Nat) : Int), H, I.tok _, ⟨s.toks, ?_⟩, q⟩
  show Value.int ((its.toArray.toList.countP (eqU y) : Nat) : Int) s.toks = _
  rw [show its.toArray.toList = its from rfl, countP_eqU rv fs]
theorem kMtCount {X : Cx} {K : PySem.W.Frag} (h : X.K = K) : MtR X "list.count" (rCntF K) := h ▸ mt_countF
theorem kCatA {X : Cx} {K : PySem.W.Frag} (h : X.K = K) : OpR X (binaryOp .Add) (rCatA K) := h ▸ op_catA
end RX

/-! VL: values by their data. D: what is never written any more; handles: what a def owns and writes. -/
namespace VL
open PySem PySem.Spec PyProof.Rows L2 RX

inductive D where
  | non | bl (b : Bool) | int (i : Int) | str (x : Str)
  | tup (xs : List D) | lst (xs : List D) | scr (xs : List D)
  | obj (C : Addr) (fs : List (Str × D))
  | dK (kvs : List (Key × D))
  | exn (a C dd : Addr) (fs : List (Str × D))
  | cst (v : V)
inductive A where
  | d (x : D) | ref (n : Nat)
inductive Ob where
  | lst (xs : List D) | lsR (xs : List A) | tpR (xs : List A)
  | dK (kvs : List (Key × D)) | dT (kvs : List (List Key × D))
  | dR (kvs : List (Key × A)) | dS (kvs : List (List Key × A))
  | ins (C : Addr) (fs : List (Str × A))
  | fz (x : D)

mutual
inductive Rp (K : PySem.W.Frag) (F : Hp) : D → V → Prop
  | non : Rp K F .non .non
  | bl (b : Bool) : Rp K F (.bl b) (.bl b)
  | int (i : Int) : Rp K F (.int i) (.int i)
  | str {x : Str} : Cp x → Rp K F (.str x) (.str x)
  | tup {a : Addr} {xs : List D} {vs : List V} : F a = some (.tup vs) → RpL K F xs vs → Rp K F (.tup xs) (.ref a)
  | lst {a : Addr} {xs : List D} {vs : List V} : F a = some (.lst vs) → RpL K F xs vs → Rp K F (.lst xs) (.ref a)
  | scr {a : Addr} {xs : List D} {vs : List V} : SqL K F a vs → RpL K F xs vs → Rp K F (.scr xs) (.ref a)
  | obj {a C dx : Addr} {fs : List (Str × D)} {gs : List (Str × V)} : F a = some (.ins C dx gs) → RpF K F fs gs → Rp K F (.obj C fs) (.ref a)
  | dK {a : Addr} {kvs : List (Key × D)} {gs : List (Key × V)} : F a = some (.dK gs) → RpK K F kvs gs → Rp K F (.dK kvs) (.ref a)
  | exn {a C dd : Addr} {fs : List (Str × D)} {gs : List (Str × V)} : F dd = some (.xd gs) → RpF K F fs gs → Rp K F (.exn a C dd fs) (.ref a)
  | cst (v : V) : Rp K F (.cst v) v
inductive RpL (K : PySem.W.Frag) (F : Hp) : List D → List V → Prop
  | nil : RpL K F [] []
  | cons {x : D} {xs : List D} {v : V} {vs : List V} : Rp K F x v → RpL K F xs vs → RpL K F (x :: xs) (v :: vs)
inductive RpF (K : PySem.W.Frag) (F : Hp) : List (Str × D) → List (Str × V) → Prop
  | nil : RpF K F [] []
  | cons {f : Str} {x : D} {xs : List (Str × D)} {v : V} {vs : List (Str × V)} : Rp K F x v → RpF K F xs vs → RpF K F ((f, x) :: xs) ((f, v) :: vs)
inductive RpK (K : PySem.W.Frag) (F : Hp) : List (Key × D) → List (Key × V) → Prop
  | nil : RpK K F [] []
  | cons {f : Key} {x : D} {xs : List (Key × D)} {v : V} {vs : List (Key × V)} : Rp K F x v → RpK K F xs vs → RpK K F ((f, x) :: xs) ((f, v) :: vs)
end
section
variable {K : PySem.W.Frag} {F F' H : Hp}
mutual
theorem Rp.mono (k : Same F F') : ∀ {x : D} {v : V}, Rp K F x v → Rp K F' x v
  | _, _, .non => .non
  | _, _, .bl b => .bl b
  | _, _, .int i => .int i
  | _, _, .str h => .str h
  | _, _, .tup h t => .tup (k _ _ h) (RpL.mono k t)
  | _, _, .lst h t => .lst (k _ _ h) (RpL.mono k t)
  | _, _, .scr h t => .scr (Same.seq k h) (RpL.mono k t)
  | _, _, .obj h t => .obj (k _ _ h) (RpF.mono k t)
  | _, _, .dK h t => .dK (k _ _ h) (RpK.mono k t)
  | _, _, .exn h t => .exn (k _ _ h) (RpF.mono k t)
  | _, _, .cst v => .cst v
theorem RpL.mono (k : Same F F') : ∀ {xs : List D} {vs : List V}, RpL K F xs vs → RpL K F' xs vs
  | _, _, .nil => .nil
  | _, _, .cons h t => .cons (Rp.mono k h) (RpL.mono k t)
theorem RpF.mono (k : Same F F') : ∀ {xs : List (Str × D)} {vs : List (Str × V)}, RpF K F xs vs → RpF K F' xs vs
  | _, _, .nil => .nil
  | _, _, .cons h t => .cons (Rp.mono k h) (RpF.mono k t)
theorem RpK.mono (k : Same F F') : ∀ {xs : List (Key × D)} {vs : List (Key × V)}, RpK K F xs vs → RpK K F' xs vs
  | _, _, .nil => .nil
  | _, _, .cons h t => .cons (Rp.mono k h) (RpK.mono k t)
end
theorem RpL.length : ∀ {xs : List D} {vs : List V}, RpL K F xs vs → xs.length = vs.length
  | _, _, .nil => rfl
  | _, _, .cons _ t => congrArg Nat.succ (RpL.length t)
theorem RpL.get : ∀ {xs : List D} {vs : List V} {i : Nat} {x : D}, RpL K F xs vs → xs[i]? = some x → ∃ v, vs[i]? = some v ∧ Rp K F x v
  | _, _, 0, _, .cons h _, e => ⟨_, rfl, by simp at e; subst e; exact h⟩
  | _, _, i + 1, v, .cons _ t, e => by
    obtain ⟨d, h1, h2⟩ := RpL.get (i := i) (x := v) t (by simpa using e)
    exact ⟨d, by simpa using h1, h2⟩
  | _, _, _, _, .nil, e => by simp at e
theorem RpL.append : ∀ {xs ys : List D} {vs ws : List V}, RpL K F xs vs → RpL K F ys ws → RpL K F (xs ++ ys) (vs ++ ws)
  | _, _, _, _, .nil, b => b
  | _, _, _, _, .cons h t, b => .cons h (RpL.append t b)
theorem RpL.take : ∀ {xs : List D} {vs : List V} (n : Nat), RpL K F xs vs → RpL K F (xs.take n) (vs.take n)
  | _, _, 0, _ => .nil
  | _, _, _ + 1, .nil => .nil
  | _, _, n + 1, .cons r t => .cons r (RpL.take n t)
theorem RpL.drop : ∀ {xs : List D} {vs : List V} (n : Nat), RpL K F xs vs → RpL K F (xs.drop n) (vs.drop n)
  | _, _, 0, r => r
  | _, _, _ + 1, .nil => .nil
  | _, _, n + 1, .cons _ t => RpL.drop n t
theorem RpL.set {x : D} {u : V} (r : Rp K F x u) : ∀ {xs : List D} {us : List V} (i : Nat), RpL K F xs us → RpL K F (xs.set i x) (us.set i u)
  | _, _, _, .nil => .nil
  | _, _, 0, .cons _ t => .cons r t
  | _, _, i + 1, .cons q t => .cons q (RpL.set r i t)
theorem RpL.reverse : ∀ {xs : List D} {vs : List V}, RpL K F xs vs → RpL K F xs.reverse vs.reverse
  | _, _, .nil => .nil
  | _, _, .cons r t => by
    rw [List.reverse_cons, List.reverse_cons]
    exact (RpL.reverse t).append (.cons r .nil)
theorem RpL.replicate {xs : List D} {vs : List V} (h : RpL K F xs vs) : ∀ n : Nat, RpL K F (List.replicate n xs).flatten (List.replicate n vs).flatten
  | 0 => .nil
  | n + 1 => by
    rw [List.replicate_succ, List.replicate_succ, List.flatten_cons, List.flatten_cons]
    exact h.append (RpL.replicate h n)
theorem RpF.look {f : Str} {x : D} : ∀ {xs : List (Str × D)} {vs : List (Str × V)}, RpF K F xs vs → xs.lookup f = some x → ∃ v, vs.lookup f = some v ∧ Rp K F x v
  | _, _, .nil, e => by cases e
  | (g, y) :: xs, _, .cons (v := v) h t, e => by
    rw [List.lookup_cons] at e ⊢
    cases q : f == g with
    | true => rw [q] at e; cases e; exact ⟨v, rfl, h⟩
    | false => rw [q] at e; exact RpF.look t e
theorem RpF.nolook {f : Str} : ∀ {xs : List (Str × D)} {vs : List (Str × V)}, RpF K F xs vs → xs.lookup f = none → vs.lookup f = none
  | _, _, .nil, e => rfl
  | (g, y) :: xs, _, .cons (v := v) h t, e => by
    rw [List.lookup_cons] at e ⊢
    cases q : f == g with
    | true => rw [q] at e; cases e
    | false => rw [q] at e; exact RpF.nolook t e
theorem RpF.length : ∀ {xs : List (Str × D)} {vs : List (Str × V)}, RpF K F xs vs → xs.length = vs.length
  | _, _, .nil => rfl
  | _, _, .cons _ t => congrArg Nat.succ (RpF.length t)
end

/-- an atom -/
def RpA (K : PySem.W.Frag) (F : Hp) (as : List Addr) : A → V → Prop
  | .d x, v => Rp K F x v
  | .ref n, v => ∃ a, as[n]? = some a ∧ v = .ref a
abbrev RaL (K : PySem.W.Frag) (F : Hp) (as : List Addr) : List A → List V → Prop := Paired (RpA K F as)
abbrev RaF (K : PySem.W.Frag) (F : Hp) (as : List Addr) : List (Str × A) → List (Str × V) → Prop := Paired fun p q => p.1 = q.1 ∧ RpA K F as p.2 q.2
/-- a dict of atoms -/
abbrev RaG {κ : Type} (K : PySem.W.Frag) (F : Hp) (as : List Addr) : List (κ × A) → List (κ × V) → Prop := Paired fun p q => p.1 = q.1 ∧ RpA K F as p.2 q.2
/-- keys that are tuples -/
abbrev RpT (K : PySem.W.Frag) (F : Hp) : List (List Key × D) → List (List Key × V) → Prop := Paired fun p q => p.1 = q.1 ∧ Rp K F p.2 q.2
def ObR (K : PySem.W.Frag) (H F : Hp) (as : List Addr) (a : Addr) : Ob → Prop
  | .lst xs => F a = none ∧ ∃ vs, H a = some (.lst vs) ∧ RpL K F xs vs
  | .lsR xs => F a = none ∧ ∃ vs, H a = some (.lst vs) ∧ RaL K F as xs vs
  | .tpR xs => ∃ vs, RaL K F as xs vs ∧ (F a = none ∧ H a = some (.tup vs) ∨ F a = some (.tup vs))
  | .dK kvs => F a = none ∧ ∃ gs, H a = some (.dK gs) ∧ RpK K F kvs gs
  | .dT kvs => F a = none ∧ ∃ gs, H a = some (.dT gs) ∧ RpT K F kvs gs
  | .dR kvs => F a = none ∧ ∃ gs, H a = some (.dK gs) ∧ RaG K F as kvs gs
  | .dS kvs => F a = none ∧ ∃ gs, H a = some (.dT gs) ∧ RaG K F as kvs gs
  | .ins C fs => F a = none ∧ ∃ dx gs, H a = some (.ins C dx gs) ∧ RaF K F as fs gs
  | .fz x => (∃ u, F a = some u) ∧ Rp K F x (.ref a)
/-- what stays through a def: B what is not reached, F the data, as the first handles -/
structure Cd where
  B : Hp
  F : Hp
  as : List Addr
structure SR (K : PySem.W.Frag) (c : Cd) (H F : Hp) (as : List Addr) (S : List Ob) : Prop where
  len : as.length = S.length
  nd : as.Nodup
  fs : Same F H
  bs : Same c.B H
  bf : ∀ a, c.B a = none ∨ F a = none ∨ ∃ xs, F a = some (.tup xs)
  ba : ∀ (n : Nat) (a : Addr), as[n]? = some a → c.B a = none
  ob : ∀ (n : Nat) (a : Addr) (o : Ob), as[n]? = some a → S[n]? = some o → ObR K H F as a o
  f0 : Same c.F F
  a0 : c.as <+: as
  nw : ∀ (n : Nat) (a : Addr), c.as.length ≤ n → as[n]? = some a → c.F a = none
section
variable {K : PySem.W.Frag} {F F' H H' : Hp} {as as' : List Addr}
theorem pre_get {n : Nat} {a : Addr} (p : as <+: as') (h : as[n]? = some a) : as'[n]? = some a := by
  obtain ⟨t, rfl⟩ := p
  rw [List.getElem?_append_left (List.getElem?_eq_some_iff.mp h).1]
  exact h
theorem RpA.mono {x : A} {v : V} (k : Same F F') (p : as <+: as') (h : RpA K F as x v) : RpA K F' as' x v := by
  cases x with
  | d x => exact Rp.mono k h
  | ref n =>
    obtain ⟨a, h, e⟩ := h
    exact ⟨a, pre_get p h, e⟩
theorem RaL.mono {x : List A} {v : List V} (k : Same F F') (p : as <+: as') (h : RaL K F as x v) : RaL K F' as' x v := Paired.mono (fun _ _ => RpA.mono k p) h
theorem RaF.mono {x : List (Str × A)} {v : List (Str × V)} (k : Same F F') (p : as <+: as') (h : RaF K F as x v) : RaF K F' as' x v := Paired.mono (fun _ _ z => ⟨z.1, RpA.mono k p z.2⟩) h
theorem RaG.mono {κ : Type} {x : List (κ × A)} {v : List (κ × V)} (k : Same F F') (p : as <+: as') (h : RaG K F as x v) : RaG K F' as' x v := Paired.mono (fun _ _ z => ⟨z.1, RpA.mono k p z.2⟩) h
theorem RpT.mono {x : List (List Key × D)} {v : List (List Key × V)} (k : Same F F') (h : RpT K F x v) : RpT K F' x v := Paired.mono (fun _ _ z => ⟨z.1, Rp.mono k z.2⟩) h
theorem ObR.mono {a : Addr} {o : Ob} (k : Same F F') (p : as <+: as') (hF : F a = none → F' a = none) (hH : F a = none → H' a = H a) (h : ObR K H F as a o) : ObR K H' F' as' a o := by
  cases o with
  | lst xs => obtain ⟨h1, vs, h2, h3⟩ := h; exact ⟨hF h1, vs, (hH h1).trans h2, h3.mono k⟩
  | lsR xs => obtain ⟨h1, vs, h2, h3⟩ := h; exact ⟨hF h1, vs, (hH h1).trans h2, h3.mono k p⟩
  | tpR xs =>
    obtain ⟨vs, h3, h | h⟩ := h
    · exact ⟨vs, h3.mono k p, .inl ⟨hF h.1, (hH h.1).trans h.2⟩⟩
    · exact ⟨vs, h3.mono k p, .inr (k _ _ h)⟩
  | dK xs => obtain ⟨h1, vs, h2, h3⟩ := h; exact ⟨hF h1, vs, (hH h1).trans h2, h3.mono k⟩
  | dT xs => obtain ⟨h1, vs, h2, h3⟩ := h; exact ⟨hF h1, vs, (hH h1).trans h2, h3.mono k⟩
  | dR xs => obtain ⟨h1, vs, h2, h3⟩ := h; exact ⟨hF h1, vs, (hH h1).trans h2, RaG.mono k p h3⟩
  | dS xs => obtain ⟨h1, vs, h2, h3⟩ := h; exact ⟨hF h1, vs, (hH h1).trans h2, RaG.mono k p h3⟩
  | ins C fs => obtain ⟨h1, dx, gs, h2, h3⟩ := h; exact ⟨hF h1, dx, gs, (hH h1).trans h2, h3.mono k p⟩
  | fz x => obtain ⟨⟨u, h1⟩, h2⟩ := h; exact ⟨⟨u, k _ _ h1⟩, Rp.mono k h2⟩
theorem ObR.there {a : Addr} {o : Ob} (h : ObR K H F as a o) (fs : Same F H) : ∃ u, H a = some u := by
  cases o with
  | lst xs => obtain ⟨h1, vs, h2, h3⟩ := h; exact ⟨_, h2⟩
  | lsR xs => obtain ⟨h1, vs, h2, h3⟩ := h; exact ⟨_, h2⟩
  | tpR xs =>
    obtain ⟨vs, h3, h | h⟩ := h
    · exact ⟨_, h.2⟩
    · exact ⟨_, fs _ _ h⟩
  | dK xs => obtain ⟨h1, vs, h2, h3⟩ := h; exact ⟨_, h2⟩
  | dT xs => obtain ⟨h1, vs, h2, h3⟩ := h; exact ⟨_, h2⟩
  | dR xs => obtain ⟨h1, vs, h2, h3⟩ := h; exact ⟨_, h2⟩
  | dS xs => obtain ⟨h1, vs, h2, h3⟩ := h; exact ⟨_, h2⟩
  | ins C fs => obtain ⟨h1, dx, gs, h2, h3⟩ := h; exact ⟨_, h2⟩
  | fz x => obtain ⟨⟨u, h1⟩, _⟩ := h; exact ⟨u, fs _ _ h1⟩
theorem SR.bfn {c : Cd} {S : List Ob} (r : SR K c H F as S) {a : Addr} {o : HO} (h : c.B a = some o) (no : ∀ xs, o ≠ .tup xs) : F a = none := by
  rcases r.bf a with e | e | ⟨xs, e⟩
  · rw [h] at e; cases e
  · exact e
  · have := r.fs _ _ e
    rw [r.bs _ _ h] at this
    exact absurd (Option.some.inj this) (no xs)
/-- an owned one is no tuple, or one that holds handles -/
theorem ObR.notup {a : Addr} {o : Ob} (h : ObR K H F as a o) (hF : F a = none) {u : HO} (hu : H a = some u) (no : ∀ ys, o ≠ .tpR ys) : ∀ xs, u ≠ .tup xs := by
  intro xs e
  subst e
  cases o with
  | lst ys => obtain ⟨_, vs, h2, _⟩ := h; rw [hu] at h2; cases h2
  | lsR ys => obtain ⟨_, vs, h2, _⟩ := h; rw [hu] at h2; cases h2
  | tpR ys => exact no ys rfl
  | dK ys => obtain ⟨_, vs, h2, _⟩ := h; rw [hu] at h2; cases h2
  | dT ys => obtain ⟨_, vs, h2, _⟩ := h; rw [hu] at h2; cases h2
  | dR ys => obtain ⟨_, vs, h2, _⟩ := h; rw [hu] at h2; cases h2
  | dS ys => obtain ⟨_, vs, h2, _⟩ := h; rw [hu] at h2; cases h2
  | ins C fs => obtain ⟨_, dx, vs, h2, _⟩ := h; rw [hu] at h2; cases h2
  | fz x => obtain ⟨⟨u, h1⟩, _⟩ := h; rw [hF] at h1; cases h1
theorem SR.none_F {c : Cd} {S : List Ob} (r : SR K c H F as S) {p : Addr} (h : H p = none) : F p = none := by
  cases e : F p with
  | none => rfl
  | some o => rw [r.fs _ _ e] at h; cases h
theorem SR.none_B {c : Cd} {S : List Ob} (r : SR K c H F as S) {p : Addr} (h : H p = none) : c.B p = none := by
  cases e : c.B p with
  | none => rfl
  | some o => rw [r.bs _ _ e] at h; cases h
theorem SR.at {c : Cd} {S : List Ob} (r : SR K c H F as S) {n : Nat} {a : Addr} (h : as[n]? = some a) : ∃ o, S[n]? = some o ∧ ObR K H F as a o := by
  have hl : n < S.length := by rw [← r.len]; exact (List.getElem?_eq_some_iff.mp h).1
  exact ⟨S[n], List.getElem?_eq_getElem hl, r.ob n a _ h (List.getElem?_eq_getElem hl)⟩
theorem SR.adr {c : Cd} {S : List Ob} (r : SR K c H F as S) {n : Nat} {o : Ob} (h : S[n]? = some o) : ∃ a, as[n]? = some a ∧ ObR K H F as a o := by
  have hl : n < as.length := by rw [r.len]; exact (List.getElem?_eq_some_iff.mp h).1
  exact ⟨as[n], List.getElem?_eq_getElem hl, r.ob n _ o (List.getElem?_eq_getElem hl) h⟩
theorem SR.ne_new {c : Cd} {S : List Ob} (r : SR K c H F as S) {n : Nat} {a p : Addr} (h : as[n]? = some a) (hp : H p = none) : a ≠ p := by
  obtain ⟨o, _, h2⟩ := r.at h
  obtain ⟨u, h3⟩ := h2.there r.fs
  exact ne_of_none h3 hp
/-- new data -/
theorem SR.newD {c : Cd} {S : List Ob} (r : SR K c H F as S) {p : Addr} {o : HO} (hp : H p = none) : SR K c (upd H p o) (upd F p o) as S ∧ Same F (upd F p o) := by
  have nF := r.none_F hp
  have nB := r.none_B hp
  have sF : Same F (upd F p o) := Same.nw nF
  refine ⟨⟨r.len, r.nd, ?_, fun a u e => ?_, fun a => ?_, r.ba, fun n a b h1 h2 => ?_, r.f0.trans sF, r.a0, r.nw⟩, sF⟩
  · intro a u e
    by_cases z : a = p
    · rw [z, upd_same] at e ⊢; exact e
    · rw [upd_ne z] at e ⊢; exact r.fs _ _ e
  · rw [upd_ne (ne_of_none e nB)]; exact r.bs _ _ e
  · by_cases z : a = p
    · rw [z]; exact .inl nB
    · rw [upd_ne z]; exact r.bf a
  · have z := r.ne_new h1 hp
    exact (r.ob n a b h1 h2).mono sF (List.prefix_refl _) (fun e => by rw [upd_ne z]; exact e) (fun _ => by rw [upd_ne z])
theorem nodup_snoc {as : List Addr} {p : Addr} (h : as.Nodup) (n : p ∉ as) : (as ++ [p]).Nodup := by
  rw [List.nodup_append]
  exact ⟨h, by simp, fun a ha b hb z => by rw [List.mem_singleton.mp hb] at z; exact n (z ▸ ha)⟩
theorem SR.newO {c : Cd} {S : List Ob} (r : SR K c H F as S) {p : Addr} {o : HO} {b : Ob} (hp : H p = none) (hb : ObR K (upd H p o) F (as ++ [p]) p b) : SR K c (upd H p o) F (as ++ [p]) (S ++ [b]) := by
  have nF := r.none_F hp
  have nB := r.none_B hp
  have pre : as <+: as ++ [p] := List.prefix_append _ _
  refine ⟨by rw [List.length_append, List.length_append, r.len]; rfl, nodup_snoc r.nd fun m => ?_, fun a u e => ?_, fun a u e => ?_, r.bf, fun n a h => ?_, fun n a u h1 h2 => ?_, r.f0, r.a0.trans pre, fun n a hn h => ?_⟩
  · obtain ⟨n, h⟩ := List.getElem?_of_mem m
    exact r.ne_new h hp rfl
  · rw [upd_ne (ne_of_none e nF)]; exact r.fs _ _ e
  · rw [upd_ne (ne_of_none e nB)]; exact r.bs _ _ e
  · by_cases q : n < as.length
    · rw [List.getElem?_append_left q] at h; exact r.ba n a h
    · rw [List.getElem?_append_right (by omega), List.getElem?_singleton] at h
      split at h
      · cases h; exact nB
      · cases h
  · by_cases q : n < as.length
    · rw [List.getElem?_append_left q] at h1
      rw [List.getElem?_append_left (by rw [← r.len]; exact q)] at h2
      have z := r.ne_new h1 hp
      exact (r.ob n a u h1 h2).mono (Same.refl _) pre (fun e => e) (fun _ => by rw [upd_ne z])
    · rw [List.getElem?_append_right (by omega), List.getElem?_singleton] at h1
      rw [List.getElem?_append_right (by rw [← r.len]; omega), List.getElem?_singleton, ← r.len] at h2
      split at h1
      · rename_i e0
        rw [if_pos e0] at h2
        cases h1; cases h2; exact hb
      · cases h1
  · by_cases q : n < as.length
    · rw [List.getElem?_append_left q] at h; exact r.nw n a hn h
    · rw [List.getElem?_append_right (by omega), List.getElem?_singleton] at h
      split at h
      · cases h
        cases e : c.F p with
        | none => rfl
        | some o => rw [r.f0 _ _ e] at nF; cases nF
      · cases h
theorem nodup_ix {l : List Addr} (nd : l.Nodup) {i j : Nat} {a : Addr} (h1 : l[i]? = some a) (h2 : l[j]? = some a) : i = j := by
  obtain ⟨l1, e1⟩ := List.getElem?_eq_some_iff.mp h1
  obtain ⟨l2, e2⟩ := List.getElem?_eq_some_iff.mp h2
  have p := List.pairwise_iff_getElem.mp nd
  rcases Nat.lt_trichotomy i j with z | z | z
  · exact absurd (e1.trans e2.symm) (p i j l1 l2 z)
  · exact z
  · exact absurd (e2.trans e1.symm) (p j i l2 l1 z)
/-- an owned object is written -/
theorem SR.put {c : Cd} {S : List Ob} (r : SR K c H F as S) {n : Nat} {p : Addr} {o : HO} {b : Ob} (hp : as[n]? = some p) (hF : F p = none) (hb : ObR K (upd H p o) F as p b) : SR K c (upd H p o) F as (S.set n b) := by
  have nB := r.ba n p hp
  refine ⟨by rw [List.length_set, r.len], r.nd, fun a u e => ?_, fun a u e => ?_, r.bf, r.ba, fun m a u h1 h2 => ?_, r.f0, r.a0, r.nw⟩
  · rw [upd_ne (ne_of_none e hF)]; exact r.fs _ _ e
  · rw [upd_ne (ne_of_none e nB)]; exact r.bs _ _ e
  · by_cases z : m = n
    · subst z
      rw [hp] at h1; cases h1
      rw [List.getElem?_set_self (by rw [← r.len]; exact (List.getElem?_eq_some_iff.mp hp).1)] at h2
      cases h2; exact hb
    · rw [List.getElem?_set_ne (Ne.symm z)] at h2
      have ne : a ≠ p := fun e => z (nodup_ix r.nd (e ▸ h1) hp)
      exact (r.ob m a u h1 h2).mono (Same.refl _) (List.prefix_refl _) (fun e => e) (fun _ => by rw [upd_ne ne])
/-- an owned object will not be written any more -/
theorem SR.freeze {c : Cd} {S : List Ob} (r : SR K c H F as S) {n : Nat} {p : Addr} {o : HO} {x : D} (hp : as[n]? = some p) (hF : F p = none) (ho : H p = some o) (hb : Rp K (upd F p o) x (.ref p)) : SR K c H (upd F p o) as (S.set n (.fz x)) ∧ Same F (upd F p o) := by
  have nB := r.ba n p hp
  have sF : Same F (upd F p o) := Same.nw hF
  refine ⟨⟨by rw [List.length_set, r.len], r.nd, fun a u e => ?_, r.bs, fun a => ?_, r.ba, fun m a u h1 h2 => ?_, r.f0.trans sF, r.a0, r.nw⟩, sF⟩
  · by_cases z : a = p
    · rw [z, upd_same] at e; cases e; rw [z]; exact ho
    · rw [upd_ne z] at e; exact r.fs _ _ e
  · by_cases z : a = p
    · rw [z]; exact .inl nB
    · rw [upd_ne z]; exact r.bf a
  · by_cases z : m = n
    · subst z
      rw [hp] at h1; cases h1
      rw [List.getElem?_set_self (by rw [← r.len]; exact (List.getElem?_eq_some_iff.mp hp).1)] at h2
      cases h2
      exact ⟨⟨_, upd_same⟩, hb⟩
    · rw [List.getElem?_set_ne (Ne.symm z)] at h2
      have ne : a ≠ p := fun e => z (nodup_ix r.nd (e ▸ h1) hp)
      exact (r.ob m a u h1 h2).mono sF (List.prefix_refl _) (fun e => by rw [upd_ne ne]; exact e) (fun _ => rfl)
/-- the last handles are forgotten -/
theorem SR.drop {c : Cd} {S : List Ob} (r : SR K c H F as S) (k : Nat) (hk : c.as.length ≤ k) (h0 : ∀ n o, n < k → S[n]? = some o → ∀ a, ObR K H F as a o → ObR K H F (as.take k) a o) : SR K c H F (as.take k) (S.take k) := by
  refine ⟨by rw [List.length_take, List.length_take, r.len], r.nd.sublist (List.take_sublist _ _), r.fs, r.bs, r.bf, fun n a h => ?_, fun n a o h1 h2 => ?_, r.f0, ?_, fun n a hn h => ?_⟩
  · rw [List.getElem?_take] at h
    split at h
    · exact r.ba n a h
    · cases h
  · rw [List.getElem?_take] at h1 h2
    split at h1
    · rename_i e; rw [if_pos e] at h2; exact h0 n o e h2 a (r.ob n a o h1 h2)
    · cases h1
  · exact List.prefix_take_iff.mpr ⟨r.a0, hk⟩
  · rw [List.getElem?_take] at h
    split at h
    · exact r.nw n a hn h
    · cases h
/-- a tuple that stands is data -/
theorem SR.addT {c : Cd} {S : List Ob} (r : SR K c H F as S) {b : Addr} {vs : List V} (hb : H b = some (.tup vs)) : ∃ F', SR K c H F' as S ∧ Same F F' ∧ F' b = some (.tup vs) := by
  cases e : F b with
  | some o =>
    have := r.fs _ _ e
    rw [hb] at this
    cases this
    exact ⟨F, r, Same.refl _, e⟩
  | none =>
    have sF : Same F (upd F b (.tup vs)) := Same.nw e
    refine ⟨upd F b (.tup vs), ⟨r.len, r.nd, fun a u h => ?_, r.bs, fun a => ?_, r.ba, fun n a o h1 h2 => ?_, r.f0.trans sF, r.a0, r.nw⟩, sF, upd_same⟩
    · by_cases z : a = b
      · rw [z, upd_same] at h; cases h; rw [z]; exact hb
      · rw [upd_ne z] at h; exact r.fs _ _ h
    · by_cases z : a = b
      · rw [z]; exact .inr (.inr ⟨vs, upd_same⟩)
      · rw [upd_ne z]; exact r.bf a
    · by_cases z : a = b
      · subst z
        have q := r.ob n a o h1 h2
        cases o with
        | tpR ys =>
          obtain ⟨ws, h3, h | h⟩ := q
          · have h4 := h.2
            rw [hb] at h4
            cases h4
            exact ⟨vs, h3.mono sF (List.prefix_refl _), .inr upd_same⟩
          · rw [e] at h; cases h
        | _ => exact absurd rfl (q.notup e hb (fun _ z => nomatch z) vs)
      · exact (r.ob n a o h1 h2).mono sF (List.prefix_refl _) (fun q => by rw [upd_ne z]; exact q) (fun _ => rfl)
end
end VL

namespace VL
open PySem PySem.Spec PyProof.Rows L2 RX

abbrev Env := List (Option A)
abbrev Sto := List Ob
abbrev WQ := A → Sto → Prop
abbrev WE := Env → Sto → WQ → Prop
abbrev WT := Env → Sto → (Bool → Sto → Prop) → Prop
abbrev WA := Env → Sto → (List A → Sto → Prop) → Prop
abbrev WO := Env → Sto → (Option Int → Sto → Prop) → Prop
/-- what is wanted of an exception: its class, its fields -/
abbrev WX := Addr → List (Str × D) → Sto → Prop
def EnvR (K : PySem.W.Frag) (F : Hp) (as : List Addr) (ρ : Env) (σ : L2.St) : Prop := ρ.length = σ.length ∧ ∀ (i : Nat) (a : A), ρ[i]? = some (some a) → ∃ v, σ[i]? = some (some v) ∧ RpA K F as a v
def KtE (K : PySem.W.Frag) (c : Cd) (F : Hp) (as : List Addr) (Q : WQ) (R : VK) : Prop :=
  ∀ (a : A) (v : V) (H' F' : Hp) (as' : List Addr) (S' : Sto), SR K c H' F' as' S' → Same F F' → as <+: as' → RpA K F' as' a v → Q a S' → R v H'
def KtT (K : PySem.W.Frag) (c : Cd) (F : Hp) (as : List Addr) (Q : Bool → Sto → Prop) (R : Bool → Hp → Prop) : Prop :=
  ∀ (b : Bool) (H' F' : Hp) (as' : List Addr) (S' : Sto), SR K c H' F' as' S' → Same F F' → as <+: as' → Q b S' → R b H'
def KtA (K : PySem.W.Frag) (c : Cd) (F : Hp) (as : List Addr) (Q : List A → Sto → Prop) (R : List V → Hp → Prop) : Prop :=
  ∀ (a : List A) (v : List V) (H' F' : Hp) (as' : List Addr) (S' : Sto), SR K c H' F' as' S' → Same F F' → as <+: as' → RaL K F' as' a v → Q a S' → R v H'
def KtO (K : PySem.W.Frag) (c : Cd) (F : Hp) (as : List Addr) (Q : Option Int → Sto → Prop) (R : Option Int → Hp → Prop) : Prop :=
  ∀ (b : Option Int) (H' F' : Hp) (as' : List Addr) (S' : Sto), SR K c H' F' as' S' → Same F F' → as <+: as' → Q b S' → R b H'
/-- the exceptions that may leave: E by the heap, X by the data -/
structure UpX (K : PySem.W.Frag) (c : Cd) (E : L2.St → XK) (X : Env → WX) : Prop where
  dct : ∀ (ρ : Env) (σ : L2.St) (C dd : Addr) (fs : List (Str × D)) (gs : List (Str × V)) (H F : Hp) (as : List Addr) (S : Sto), SR K c H F as S → EnvR K F as ρ σ → H dd = some (.xd gs) → F dd = some (.xd gs) → RpF K F fs gs → X ρ C fs S → E σ (.ref C) (some dd) H
  non : ∀ (ρ : Env) (σ : L2.St) (C : Addr) (H F : Hp) (as : List Addr) (S : Sto), SR K c H F as S → EnvR K F as ρ σ → X ρ C [] S → E σ (.ref C) none H
class UpE (K : PySem.W.Frag) (E : L2.St → XK) (X : Env → WX) (t : TE) (w : outParam WE) : Prop where
  up : ∀ c, UpX K c E X → ∀ (ρ : Env) (S : Sto) (Q : WQ) (σ : L2.St) (H F : Hp) (as : List Addr) (R : VK), SR K c H F as S → EnvR K F as ρ σ → w ρ S Q → KtE K c F as Q R → t σ H R
class UpT (K : PySem.W.Frag) (E : L2.St → XK) (X : Env → WX) (t : TT) (w : outParam WT) : Prop where
  up : ∀ c, UpX K c E X → ∀ (ρ : Env) (S : Sto) (Q : Bool → Sto → Prop) (σ : L2.St) (H F : Hp) (as : List Addr) (R : Bool → Hp → Prop), SR K c H F as S → EnvR K F as ρ σ → w ρ S Q → KtT K c F as Q R → t σ H R
class UpA (K : PySem.W.Frag) (E : L2.St → XK) (X : Env → WX) (t : TA) (w : outParam WA) : Prop where
  up : ∀ c, UpX K c E X → ∀ (ρ : Env) (S : Sto) (Q : List A → Sto → Prop) (σ : L2.St) (H F : Hp) (as : List Addr) (R : List V → Hp → Prop), SR K c H F as S → EnvR K F as ρ σ → w ρ S Q → KtA K c F as Q R → t σ H R
class UpO (K : PySem.W.Frag) (E : L2.St → XK) (X : Env → WX) (t : TO) (w : outParam WO) : Prop where
  up : ∀ c, UpX K c E X → ∀ (ρ : Env) (S : Sto) (Q : Option Int → Sto → Prop) (σ : L2.St) (H F : Hp) (as : List Addr) (R : Option Int → Hp → Prop), SR K c H F as S → EnvR K F as ρ σ → w ρ S Q → KtO K c F as Q R → t σ H R
/-- an operation by values -/
class UpR (K : PySem.W.Frag) (r : R2) (w : outParam (A → A → Sto → WQ → Prop)) : Prop where
  up : ∀ (c : Cd) (S : Sto) (Q : WQ) (H F : Hp) (as : List Addr) (R : VK) (x y : A) (v u : V), SR K c H F as S → RpA K F as x v → RpA K F as y u → w x y S Q → KtE K c F as Q R → r v u H R
class UpU (K : PySem.W.Frag) (r : V → Hp → VK → Prop) (w : outParam (A → Sto → WQ → Prop)) : Prop where
  up : ∀ (c : Cd) (S : Sto) (Q : WQ) (H F : Hp) (as : List Addr) (R : VK) (x : A) (v : V), SR K c H F as S → RpA K F as x v → w x S Q → KtE K c F as Q R → r v H R
class UpC (K : PySem.W.Frag) (r : List V → Hp → VK → Prop) (w : outParam (List A → Sto → WQ → Prop)) : Prop where
  up : ∀ (c : Cd) (S : Sto) (Q : WQ) (H F : Hp) (as : List Addr) (R : VK) (x : List A) (v : List V), SR K c H F as S → RaL K F as x v → w x S Q → KtE K c F as Q R → r v H R
class UpM (K : PySem.W.Frag) (r : V → List V → Hp → VK → Prop) (w : outParam (A → List A → Sto → WQ → Prop)) : Prop where
  up : ∀ (c : Cd) (S : Sto) (Q : WQ) (H F : Hp) (as : List Addr) (R : VK) (o : A) (ov : V) (x : List A) (v : List V), SR K c H F as S → RpA K F as o ov → RaL K F as x v → w o x S Q → KtE K c F as Q R → r ov v H R
class UpV (v : V) (a : outParam D) : Prop where
  up : ∀ K F, Rp K F a v
section
variable {K : PySem.W.Frag} {c : Cd} {F F' H H' : Hp} {as as' : List Addr} {S S' : Sto}
theorem EnvR.mono {ρ : Env} {σ : L2.St} (k : Same F F') (p : as <+: as') (h : EnvR K F as ρ σ) : EnvR K F' as' ρ σ :=
  ⟨h.1, fun i a e => by obtain ⟨v, h1, h2⟩ := h.2 i a e; exact ⟨v, h1, h2.mono k p⟩⟩
theorem KtE.mono {Q : WQ} {R : VK} (h : KtE K c F as Q R) (k : Same F F') (p : as <+: as') : KtE K c F' as' Q R := fun a v H1 F1 as1 S1 r s q => h a v H1 F1 as1 S1 r (k.trans s) (p.trans q)
theorem KtT.mono {Q : Bool → Sto → Prop} {R : Bool → Hp → Prop} (h : KtT K c F as Q R) (k : Same F F') (p : as <+: as') : KtT K c F' as' Q R := fun a H1 F1 as1 S1 r s q => h a H1 F1 as1 S1 r (k.trans s) (p.trans q)
theorem KtA.mono {Q : List A → Sto → Prop} {R : List V → Hp → Prop} (h : KtA K c F as Q R) (k : Same F F') (p : as <+: as') : KtA K c F' as' Q R := fun a v H1 F1 as1 S1 r s q => h a v H1 F1 as1 S1 r (k.trans s) (p.trans q)
theorem KtO.mono {Q : Option Int → Sto → Prop} {R : Option Int → Hp → Prop} (h : KtO K c F as Q R) (k : Same F F') (p : as <+: as') : KtO K c F' as' Q R := fun a H1 F1 as1 S1 r s q => h a H1 F1 as1 S1 r (k.trans s) (p.trans q)
theorem KtE.here {Q : WQ} {R : VK} {a : A} {v : V} (h : KtE K c F as Q R) (r : SR K c H F as S) (x : RpA K F as a v) (q : Q a S) : R v H := h a v H F as S r (Same.refl _) (List.prefix_refl _) x q
theorem KtE.here' {Q : WQ} {R : VK} {a : D} {v : V} (h : KtE K c F as Q R) (r : SR K c H' F as S') (x : Rp K F a v) (q : Q (.d a) S') : R v H' := h (.d a) v H' F as S' r (Same.refl _) (List.prefix_refl _) x q
theorem KtE.newD {Q : WQ} {R : VK} {p : Addr} {o : HO} {x : D} (h : KtE K c F as Q R) (r : SR K c H F as S) (hp : H p = none) (hx : ∀ F', Same F F' → F' p = some o → Rp K F' x (.ref p)) (q : Q (.d x) S) : R (.ref p) (upd H p o) := by
  obtain ⟨r', s⟩ := r.newD (o := o) hp
  exact h (.d x) _ _ _ _ _ r' s (List.prefix_refl _) (hx _ s upd_same) q
theorem KtE.newO {Q : WQ} {R : VK} {p : Addr} {o : HO} {b : Ob} (h : KtE K c F as Q R) (r : SR K c H F as S) (hp : H p = none) (hb : ObR K (upd H p o) F (as ++ [p]) p b) (q : Q (.ref S.length) (S ++ [b])) : R (.ref p) (upd H p o) := by
  have r' := r.newO hp hb
  refine h (.ref S.length) _ _ _ _ _ r' (Same.refl _) (List.prefix_append _ _) ⟨p, ?_, rfl⟩ q
  rw [← r.len, List.getElem?_append_right (Nat.le_refl _), Nat.sub_self]
  rfl
end

/-! ### expressions -/
section
variable {K : PySem.W.Frag} {E : L2.St → XK} {X : Env → WX}
def wVar (i : Nat) : WE := fun ρ S Q => match ρ[i]? with
  | some (some a) => Q a S
  | _ => False
instance {i : Nat} : UpE K E X (tVar i) (wVar i) where
  up := fun c ux ρ S Q σ H F as R r e h k => by
    unfold wVar at h
    split at h
    · rename_i a ea
      obtain ⟨v, h1, h2⟩ := e.2 i a ea
      exact ⟨v, h1, k.here r h2 h⟩
    · exact h.elim
def wC (a : D) : WE := fun _ S Q => Q (.d a) S
def wStr (x : Str) : WE := fun _ S Q => PyData.strOk x = true ∧ Q (.d (.str x)) S
instance {b : Bool} : UpV (.bl b) (.bl b) where up := fun _ _ => .bl b
instance {b : Int} : UpV (.int b) (.int b) where up := fun _ _ => .int b
instance : UpV .non .non where up := fun _ _ => .non
instance {a : Addr} : UpV (.ref a) (.cst (.ref a)) where up := fun _ _ => .cst _
instance {a : String} : UpV (.ty a) (.cst (.ty a)) where up := fun _ _ => .cst _
instance {v : V} {a : D} [i : UpV v a] : UpE K E X (tC v) (wC a) where
  up := fun c ux ρ S Q σ H F as R r e h k => k.here (a := .d a) r (i.up K F) h
theorem cp_ok {x : Str} (h : PyData.strOk x = true) : Cp x := fun c hc => by
  unfold PyData.strOk at h
  rw [← Array.all_toList, List.all_eq_true] at h
  exact of_decide_eq_true (h c hc)
instance {x : Str} : UpE K E X (tC (.str x)) (wStr x) where
  up := fun c ux ρ S Q σ H F as R r e h k => k.here (a := .d (.str x)) r (.str (cp_ok h.1)) h.2
def wOp (wr : A → A → Sto → WQ → Prop) (wa wb : WE) : WE := fun ρ S Q => wa ρ S fun x S1 => wb ρ S1 fun y S2 => wr x y S2 Q
instance {r : R2} {ta tb : TE} {wr : A → A → Sto → WQ → Prop} {wa wb : WE} [ir : UpR K r wr] [ia : UpE K E X ta wa] [ib : UpE K E X tb wb] : UpE K E X (tOp r ta tb) (wOp wr wa wb) where
  up := fun c ux ρ S Q σ H F as R r e h k => ia.up c ux ρ S _ σ H F as _ r e h fun x v H1 F1 as1 S1 r1 s1 p1 rx q1 =>
    ib.up c ux ρ S1 _ σ H1 F1 as1 _ r1 (e.mono s1 p1) q1 fun y u H2 F2 as2 S2 r2 s2 p2 ry q2 =>
      ir.up c S2 Q H2 F2 as2 R x y v u r2 (rx.mono s2 p2) ry q2 (k.mono (s1.trans s2) (p1.trans p2))
def wUn (wr : A → Sto → WQ → Prop) (wa : WE) : WE := fun ρ S Q => wa ρ S fun x S1 => wr x S1 Q
instance {r : V → Hp → VK → Prop} {ta : TE} {wr : A → Sto → WQ → Prop} {wa : WE} [ir : UpU K r wr] [ia : UpE K E X ta wa] : UpE K E X (tUn r ta) (wUn wr wa) where
  up := fun c ux ρ S Q σ H F as R r e h k => ia.up c ux ρ S _ σ H F as _ r e h fun x v H1 F1 as1 S1 r1 s1 p1 rx q1 =>
    ir.up c S1 Q H1 F1 as1 R x v r1 rx q1 (k.mono s1 p1)
def wCB (wr : List A → Sto → WQ → Prop) (wa : WA) : WE := fun ρ S Q => wa ρ S fun x S1 => wr x S1 Q
instance {r : List V → Hp → VK → Prop} {ta : TA} {wr : List A → Sto → WQ → Prop} {wa : WA} [ir : UpC K r wr] [ia : UpA K E X ta wa] : UpE K E X (tCB r ta) (wCB wr wa) where
  up := fun c ux ρ S Q σ H F as R r e h k => ia.up c ux ρ S _ σ H F as _ r e h fun x v H1 F1 as1 S1 r1 s1 p1 rx q1 =>
    ir.up c S1 Q H1 F1 as1 R x v r1 rx q1 (k.mono s1 p1)
def wNil : WA := fun _ S Q => Q [] S
def wCons (wa : WE) (wr : WA) : WA := fun ρ S Q => wa ρ S fun x S1 => wr ρ S1 fun xs S2 => Q (x :: xs) S2
instance : UpA K E X tNil wNil where
  up := fun c ux ρ S Q σ H F as R r e h k => k [] [] H F as S r (Same.refl _) (List.prefix_refl _) .nil h
instance {ta : TE} {tr : TA} {wa : WE} {wr : WA} [ia : UpE K E X ta wa] [ib : UpA K E X tr wr] : UpA K E X (tCons ta tr) (wCons wa wr) where
  up := fun c ux ρ S Q σ H F as R r e h k => ia.up c ux ρ S _ σ H F as _ r e h fun x v H1 F1 as1 S1 r1 s1 p1 rx q1 =>
    ib.up c ux ρ S1 _ σ H1 F1 as1 _ r1 (e.mono s1 p1) q1 fun y u H2 F2 as2 S2 r2 s2 p2 ry q2 =>
      k _ _ H2 F2 as2 S2 r2 (s1.trans s2) (p1.trans p2) (.cons (rx.mono s2 p2) ry) q2
/-! truth, tests -/
def asB (Q : Bool → Sto → Prop) : WQ := fun a S => match a with
  | .d (.bl b) => Q b S
  | _ => False
theorem asB_ok {K : PySem.W.Frag} {F : Hp} {as : List Addr} {a : A} {v : V} {S : Sto} {Q : Bool → Sto → Prop} (h : RpA K F as a v) (q : asB Q a S) : ∃ b, v = .bl b ∧ Q b S := by
  unfold asB at q
  split at q
  · cases h; exact ⟨_, rfl, q⟩
  · exact q.elim
def wTest (wa : WE) : WT := fun ρ S Q => wa ρ S (asB Q)
instance {ta : TE} {wa : WE} [ia : UpE K E X ta wa] : UpT K E X (tTest ta) (wTest wa) where
  up := fun c ux ρ S Q σ H F as R r e h k => ia.up c ux ρ S _ σ H F as _ r e h fun x v H1 F1 as1 S1 r1 s1 p1 rx q1 => by
    obtain ⟨b, rfl, q⟩ := asB_ok rx q1
    exact ⟨b, rfl, k b H1 F1 as1 S1 r1 s1 p1 q⟩
instance {ta : TE} {wa : WE} [ia : UpE K E X ta wa] : UpT K E X (tB ta) (wTest wa) where
  up := fun c ux ρ S Q σ H F as R r e h k => ia.up c ux ρ S _ σ H F as _ r e h fun x v H1 F1 as1 S1 r1 s1 p1 rx q1 => by
    obtain ⟨b, rfl, q⟩ := asB_ok rx q1
    exact ⟨b, rfl, k b H1 F1 as1 S1 r1 s1 p1 q⟩
/-- the two ways -/
structure Br (b : Bool) (P Q : Prop) : Prop where
  intro ::
  t : b = true → P
  f : b = false → Q
theorem Br.ok {b : Bool} {P Q : Prop} (h : Br b P Q) : if b = true then P else Q := rd_ite h.1 h.2
theorem Br.T {b : Bool} {P Q : Prop} (e : b = true) (h : P) : Br b P Q := ⟨fun _ => h, fun z => by rw [e] at z; cases z⟩
theorem Br.F {b : Bool} {P Q : Prop} (e : b = false) (h : Q) : Br b P Q := ⟨fun z => (by rw [e] at z; cases z), fun _ => h⟩
/-- there is such a one, and it does -/
inductive OnS {α : Type} (o : Option α) (P : α → Prop) : Prop
  | mk (x : α) (e : o = some x) (h : P x)
theorem OnS.lk {β : Type} {f : Str} {fs : List (Str × β)} {o : Option β} {P : β → Prop} (e : List.lookup f fs = o) (h : OnS o P) : OnS (List.lookup f fs) P := e ▸ h
theorem OnS.hit {α : Type} {o : Option α} {x : α} {P : α → Prop} (e : o = some x) (h : P x) : OnS o P := ⟨x, e, h⟩
def wAnd (wt wu : WT) : WT := fun ρ S Q => wt ρ S fun b S1 => Br b (wu ρ S1 Q) (Q false S1)
def wOr (wt wu : WT) : WT := fun ρ S Q => wt ρ S fun b S1 => Br b (Q true S1) (wu ρ S1 Q)
def wNot (wt : WT) : WT := fun ρ S Q => wt ρ S fun b S1 => Q (!b) S1
def wYes : WT := fun ρ S Q => Q true S
instance : UpT K E X tYes wYes where
  up := fun c ux ρ S Q σ H F as R r e h k => k _ H F as S r (Same.refl _) (List.prefix_refl _) h
instance {t u : TT} {wt wu : WT} [ia : UpT K E X t wt] [ib : UpT K E X u wu] : UpT K E X (tAnd t u) (wAnd wt wu) where
  up := fun c ux ρ S Q σ H F as R r e h k => ia.up c ux ρ S _ σ H F as _ r e h fun b H1 F1 as1 S1 r1 s1 p1 q1 =>
    rd_ite (fun z => ib.up c ux ρ S1 _ σ H1 F1 as1 _ r1 (e.mono s1 p1) (q1.1 z) (k.mono s1 p1)) fun z => k _ H1 F1 as1 S1 r1 s1 p1 (q1.2 z)
instance {t u : TT} {wt wu : WT} [ia : UpT K E X t wt] [ib : UpT K E X u wu] : UpT K E X (tOr t u) (wOr wt wu) where
  up := fun c ux ρ S Q σ H F as R r e h k => ia.up c ux ρ S _ σ H F as _ r e h fun b H1 F1 as1 S1 r1 s1 p1 q1 =>
    rd_ite (fun z => k _ H1 F1 as1 S1 r1 s1 p1 (q1.1 z)) (fun z => ib.up c ux ρ S1 _ σ H1 F1 as1 _ r1 (e.mono s1 p1) (q1.2 z) (k.mono s1 p1))
instance {t : TT} {wt : WT} [ia : UpT K E X t wt] : UpT K E X (tNot t) (wNot wt) where
  up := fun c ux ρ S Q σ H F as R r e h k => ia.up c ux ρ S _ σ H F as _ r e h fun b H1 F1 as1 S1 r1 s1 p1 q1 => k _ H1 F1 as1 S1 r1 s1 p1 q1
def wAndV (wa wb : WE) : WE := fun ρ S Q => wa ρ S (asB fun b S1 => Br b (wb ρ S1 Q) (Q (.d (.bl false)) S1))
def wOrV (wa wb : WE) : WE := fun ρ S Q => wa ρ S (asB fun b S1 => Br b (Q (.d (.bl true)) S1) (wb ρ S1 Q))
def wNotV (wa : WE) : WE := fun ρ S Q => wa ρ S (asB fun b S1 => Q (.d (.bl !b)) S1)
instance {ta tb : TE} {wa wb : WE} [ia : UpE K E X ta wa] [ib : UpE K E X tb wb] : UpE K E X (tAndV ta tb) (wAndV wa wb) where
  up := fun c ux ρ S Q σ H F as R r e h k => ia.up c ux ρ S _ σ H F as _ r e h fun x v H1 F1 as1 S1 r1 s1 p1 rx q1 => by
    obtain ⟨b, rfl, q⟩ := asB_ok rx q1
    exact ⟨b, rfl, rd_ite (fun z => ib.up c ux ρ S1 _ σ H1 F1 as1 _ r1 (e.mono s1 p1) (q.1 z) (k.mono s1 p1)) fun z => k (.d (.bl false)) _ H1 F1 as1 S1 r1 s1 p1 (.bl _) (q.2 z)⟩
instance {ta tb : TE} {wa wb : WE} [ia : UpE K E X ta wa] [ib : UpE K E X tb wb] : UpE K E X (tOrV ta tb) (wOrV wa wb) where
  up := fun c ux ρ S Q σ H F as R r e h k => ia.up c ux ρ S _ σ H F as _ r e h fun x v H1 F1 as1 S1 r1 s1 p1 rx q1 => by
    obtain ⟨b, rfl, q⟩ := asB_ok rx q1
    exact ⟨b, rfl, rd_ite (fun z => k (.d (.bl true)) _ H1 F1 as1 S1 r1 s1 p1 (.bl _) (q.1 z)) (fun z => ib.up c ux ρ S1 _ σ H1 F1 as1 _ r1 (e.mono s1 p1) (q.2 z) (k.mono s1 p1))⟩
instance {ta : TE} {wa : WE} [ia : UpE K E X ta wa] : UpE K E X (tNotV ta) (wNotV wa) where
  up := fun c ux ρ S Q σ H F as R r e h k => ia.up c ux ρ S _ σ H F as _ r e h fun x v H1 F1 as1 S1 r1 s1 p1 rx q1 => by
    obtain ⟨b, rfl, q⟩ := asB_ok rx q1
    exact ⟨b, rfl, k (.d (.bl !b)) _ H1 F1 as1 S1 r1 s1 p1 (.bl _) q⟩
def wIf (wt : WT) (wa wb : WE) : WE := fun ρ S Q => wt ρ S fun b S1 => Br b (wa ρ S1 Q) (wb ρ S1 Q)
instance {t : TT} {ta tb : TE} {wt : WT} {wa wb : WE} [it : UpT K E X t wt] [ia : UpE K E X ta wa] [ib : UpE K E X tb wb] : UpE K E X (tIf t ta tb) (wIf wt wa wb) where
  up := fun c ux ρ S Q σ H F as R r e h k => it.up c ux ρ S _ σ H F as _ r e h fun b H1 F1 as1 S1 r1 s1 p1 q1 =>
    rd_ite (fun z => ia.up c ux ρ S1 _ σ H1 F1 as1 _ r1 (e.mono s1 p1) (q1.1 z) (k.mono s1 p1)) (fun z => ib.up c ux ρ S1 _ σ H1 F1 as1 _ r1 (e.mono s1 p1) (q1.2 z) (k.mono s1 p1))
def wChain (wr wr' : A → A → Sto → WQ → Prop) (wa wb wc : WE) : WE := fun ρ S Q => wa ρ S fun x S1 => wb ρ S1 fun y S2 => wr x y S2 (asB fun b S3 => Br b (wc ρ S3 fun z S4 => wr' y z S4 Q) (Q (.d (.bl false)) S3))
instance {r r' : R2} {ta tb tc : TE} {wr wr' : A → A → Sto → WQ → Prop} {wa wb wc : WE} [ir : UpR K r wr] [ir' : UpR K r' wr'] [ia : UpE K E X ta wa] [ib : UpE K E X tb wb] [ic : UpE K E X tc wc] : UpE K E X (tChain r r' ta tb tc) (wChain wr wr' wa wb wc) where
  up := fun c ux ρ S Q σ H F as R r e h k => ia.up c ux ρ S _ σ H F as _ r e h fun x v H1 F1 as1 S1 r1 s1 p1 rx q1 =>
    ib.up c ux ρ S1 _ σ H1 F1 as1 _ r1 (e.mono s1 p1) q1 fun y u H2 F2 as2 S2 r2 s2 p2 ry q2 =>
      ir.up c S2 _ H2 F2 as2 _ x y v u r2 (rx.mono s2 p2) ry q2 fun z v3 H3 F3 as3 S3 r3 s3 p3 rz q3 => by
        obtain ⟨b, rfl, q⟩ := asB_ok rz q3
        have s03 := (s1.trans s2).trans s3
        have p03 := (p1.trans p2).trans p3
        exact ⟨b, rfl, rd_ite (fun z => ic.up c ux ρ S3 _ σ H3 F3 as3 _ r3 (e.mono s03 p03) (q.1 z) fun w v4 H4 F4 as4 S4 r4 s4 p4 rw q4 => ir'.up c S4 Q H4 F4 as4 R y w u v4 r4 (ry.mono (s3.trans s4) (p3.trans p4)) rw q4 (k.mono (s03.trans s4) (p03.trans p4))) fun z => k (.d (.bl false)) _ H3 F3 as3 S3 r3 s03 p03 (.bl _) (q.2 z)⟩
/-! what an atom is, by the whole heap -/
def pureA (S : Sto) : A → Option D
  | .d x => some x
  | .ref n => match S[n]? with
    | some (.fz x) => some x
    | _ => none
def pures (S : Sto) : List A → Option (List D)
  | [] => some []
  | a :: r => match pureA S a, pures S r with
    | some x, some xs => some (x :: xs)
    | _, _ => none
theorem pureA_ok {K : PySem.W.Frag} {c : Cd} {H F : Hp} {as : List Addr} {S : Sto} (r : SR K c H F as S) {a : A} {v : V} {x : D} (h : RpA K F as a v) (e : pureA S a = some x) : Rp K F x v := by
  cases a with
  | d y => cases e; exact h
  | ref n =>
    obtain ⟨p, hp, rfl⟩ := h
    have e : (match S[n]? with
      | some (.fz x) => some x
      | _ => none) = some x := e
    split at e
    · rename_i y ey
      cases e
      exact (r.ob n p _ hp ey).2
    · cases e
theorem pures_ok {K : PySem.W.Frag} {c : Cd} {H F : Hp} {as : List Addr} {S : Sto} (r : SR K c H F as S) : ∀ {a : List A} {v : List V} {x : List D}, RaL K F as a v → pures S a = some x → RpL K F x v
  | [], _, _, .nil, e => by cases e; exact .nil
  | a :: l, _, _, .cons h t, e => by
    unfold pures at e
    split at e
    · rename_i y ys e1 e2
      cases e
      exact .cons (pureA_ok r h e1) (pures_ok r t e2)
    · cases e
abbrev withP (S : Sto) (xs : List A) (k : List D → Prop) : Prop := OnS (pures S xs) k
theorem withP_ok {S : Sto} {xs : List A} {k : List D → Prop} (h : withP S xs k) : ∃ ds, pures S xs = some ds ∧ k ds := by
  obtain ⟨ds, e, h⟩ := h
  exact ⟨ds, e, h⟩
theorem obL {K : PySem.W.Frag} {H F : Hp} {as : List Addr} {p : Addr} {vs : List V} {xs : List D} (h : F p = none) (h2 : H p = some (.lst vs)) (h3 : RpL K F xs vs) : ObR K H F as p (.lst xs) := ⟨h, vs, h2, h3⟩
theorem obR {K : PySem.W.Frag} {H F : Hp} {as : List Addr} {p : Addr} {vs : List V} {xs : List A} (h : F p = none) (h2 : H p = some (.lst vs)) (h3 : RaL K F as xs vs) : ObR K H F as p (.lsR xs) := ⟨h, vs, h2, h3⟩
theorem obK {K : PySem.W.Frag} {H F : Hp} {as : List Addr} {p : Addr} {vs : List (Key × V)} {xs : List (Key × D)} (h : F p = none) (h2 : H p = some (.dK vs)) (h3 : RpK K F xs vs) : ObR K H F as p (.dK xs) := ⟨h, vs, h2, h3⟩
theorem obT {K : PySem.W.Frag} {H F : Hp} {as : List Addr} {p : Addr} {vs : List (List Key × V)} {xs : List (List Key × D)} (h : F p = none) (h2 : H p = some (.dT vs)) (h3 : RpT K F xs vs) : ObR K H F as p (.dT xs) := ⟨h, vs, h2, h3⟩
theorem obDR {K : PySem.W.Frag} {H F : Hp} {as : List Addr} {p : Addr} {vs : List (Key × V)} {xs : List (Key × A)} (h : F p = none) (h2 : H p = some (.dK vs)) (h3 : RaG K F as xs vs) : ObR K H F as p (.dR xs) := ⟨h, vs, h2, h3⟩
theorem obDS {K : PySem.W.Frag} {H F : Hp} {as : List Addr} {p : Addr} {vs : List (List Key × V)} {xs : List (List Key × A)} (h : F p = none) (h2 : H p = some (.dT vs)) (h3 : RaG K F as xs vs) : ObR K H F as p (.dS xs) := ⟨h, vs, h2, h3⟩
theorem obI {K : PySem.W.Frag} {H F : Hp} {as : List Addr} {p C dx : Addr} {vs : List (Str × V)} {xs : List (Str × A)} (h : F p = none) (h2 : H p = some (.ins C dx vs)) (h3 : RaF K F as xs vs) : ObR K H F as p (.ins C xs) := ⟨h, dx, vs, h2, h3⟩
def wTup (wa : WA) : WE := fun ρ S Q => wa ρ S fun xs S1 => withP S1 xs fun ds => ds.length ≤ 100000 ∧ Q (.d (.tup ds)) S1
instance {t : TA} {wa : WA} [ia : UpA K E X t wa] : UpE K E X (tTup t) (wTup wa) where
  up := fun c ux ρ S Q σ H F as R r e h k => ia.up c ux ρ S _ σ H F as _ r e h fun x v H1 F1 as1 S1 r1 s1 p1 rx q1 => by
    obtain ⟨ds, eds, q1⟩ := withP_ok q1
    have rp := pures_ok r1 rx eds
    exact ⟨le_size (by rw [← rp.length]; omega), fun p hp => (k.mono s1 p1).newD r1 hp (fun F' s' e' => .tup e' (rp.mono s')) q1.2⟩
def wLst (wa : WA) : WE := fun ρ S Q => wa ρ S fun xs S1 => withP S1 xs fun ds => ds.length ≤ 100000 ∧ Q (.d (.lst ds)) S1
instance {t : TA} {wa : WA} [ia : UpA K E X t wa] : UpE K E X (tLst t) (wLst wa) where
  up := fun c ux ρ S Q σ H F as R r e h k => ia.up c ux ρ S _ σ H F as _ r e h fun x v H1 F1 as1 S1 r1 s1 p1 rx q1 => by
    obtain ⟨ds, eds, q1⟩ := withP_ok q1
    have rp := pures_ok r1 rx eds
    exact ⟨le_size (by rw [← rp.length]; omega), fun p hp => (k.mono s1 p1).newD r1 hp (fun F' s' e' => .lst e' (rp.mono s')) q1.2⟩
/-- an owned one -/
def tOwn (t : TE) : TE := t
def wLstO (wa : WA) : WE := fun ρ S Q => wa ρ S fun xs S1 => withP S1 xs fun ds => ds.length ≤ 100000 ∧ Q (.ref S1.length) (S1 ++ [.lst ds])
instance {t : TA} {wa : WA} [ia : UpA K E X t wa] : UpE K E X (tOwn (tLst t)) (wLstO wa) where
  up := fun c ux ρ S Q σ H F as R r e h k => ia.up c ux ρ S _ σ H F as _ r e h fun x v H1 F1 as1 S1 r1 s1 p1 rx q1 => by
    obtain ⟨ds, eds, q1⟩ := withP_ok q1
    have rp := pures_ok r1 rx eds
    exact ⟨le_size (by rw [← rp.length]; omega), fun p hp => (k.mono s1 p1).newO r1 hp (obL (r1.none_F hp) upd_same rp) q1.2⟩
/-- a list of handles -/
def tOwR (t : TE) : TE := t
def wLstR (wa : WA) : WE := fun ρ S Q => wa ρ S fun xs S1 => xs.length ≤ 100000 ∧ Q (.ref S1.length) (S1 ++ [.lsR xs])
instance {t : TA} {wa : WA} [ia : UpA K E X t wa] : UpE K E X (tOwR (tLst t)) (wLstR wa) where
  up := fun c ux ρ S Q σ H F as R r e h k => ia.up c ux ρ S _ σ H F as _ r e h fun x v H1 F1 as1 S1 r1 s1 p1 rx q1 => by
    have hl := rx.length
    exact ⟨le_size (by omega), fun p hp => (k.mono s1 p1).newO r1 hp (obR (r1.none_F hp) upd_same (rx.mono (Same.refl _) (List.prefix_append _ _))) q1.2⟩
end
theorem pe_own {X : Cx} {e : Expr} {t : TE} (h : PE X e t) : PE X e (tOwn t) := h
theorem pe_owR {X : Cx} {e : Expr} {t : TE} (h : PE X e t) : PE X e (tOwR t) := h
end VL

namespace VL
open PySem PySem.Spec PyProof.Rows L2 RX

/-! ### texts that are written -/
theorem ofS_inj {a b : String} (h : Str.ofString a = Str.ofString b) : a = b := by
  rw [Str.ofString_eq_toList, Str.ofString_eq_toList] at h
  have h1 : a.toList.map Char.toNat = b.toList.map Char.toNat := by
    have := congrArg (fun z : Str => z.cps.toList) h
    simpa using this
  have inj : ∀ {x y : List Char}, x.map Char.toNat = y.map Char.toNat → x = y := by
    intro x
    induction x with
    | nil => intro y e; cases y with
      | nil => rfl
      | cons _ _ => cases e
    | cons c r ih => intro y e; cases y with
      | nil => cases e
      | cons d q =>
        rw [List.map_cons, List.map_cons] at e
        injection e with e1 e2
        rw [ih e2, Char.toNat_inj.mp e1]
  exact String.toList_inj.mp (inj h1)
theorem ofS_eq (a b : String) : (Str.ofString a = Str.ofString b) = (a = b) := propext ⟨ofS_inj, fun h => by rw [h]⟩
theorem ofS_beq (a b : String) : (Str.ofString a == Str.ofString b) = (a == b) := by
  rw [Bool.eq_iff_iff, beq_iff_eq, beq_iff_eq, ofS_eq]
/-! ### plain data -/
mutual
def toPy : D → PyData
  | .non => .none
  | .bl b => .bool b
  | .int i => .int i
  | .str x => .str x
  | .tup xs => .tuple (toPyL xs)
  | .lst xs => .list (toPyL xs)
  | .scr xs => .list (toPyL xs)
  | _ => .none
def toPyL : List D → List PyData
  | [] => []
  | x :: r => toPy x :: toPyL r
end
mutual
def Ed : Nat → D → Prop
  | _, .non => True
  | _, .bl _ => True
  | _, .int _ => True
  | _, .str _ => True
  | 0, .tup _ => False
  | 0, .lst _ => False
  | 0, .scr _ => False
  | k + 1, .tup xs => EdL k xs
  | k + 1, .lst xs => EdL k xs
  | k + 1, .scr xs => EdL k xs
  | _, _ => False
def EdL : Nat → List D → Prop
  | _, [] => True
  | k, x :: r => Ed k x ∧ EdL k r
end
def D.eqv (x y : D) : Bool := PyData.eqv (toPy x) (toPy y)
def D.eqvL (x y : List D) : Bool := PyData.eqvAll (toPyL x) (toPyL y)
theorem Ed.mono : ∀ {k j : Nat} {x : D}, k ≤ j → Ed k x → Ed j x := by
  have main : ∀ (k : Nat), (∀ (x : D) (j : Nat), k ≤ j → Ed k x → Ed j x) := by
    intro k
    induction k with
    | zero =>
      intro x j _ h
      cases x <;> first | exact h | (simp only [Ed] at h ⊢) | (simp [Ed] at h)
    | succ k ih =>
      intro x j hj h
      have aux : ∀ (l : List D) (j : Nat), k ≤ j → EdL k l → EdL j l := by
        intro l
        induction l with
        | nil => intro j _ _; simp only [EdL]
        | cons y r ihr =>
          intro j hj h
          simp only [EdL] at h ⊢
          exact ⟨ih y j hj h.1, ihr j hj h.2⟩
      cases j with
      | zero => omega
      | succ j =>
        cases x <;> simp only [Ed] at h ⊢ <;> exact aux _ j (by omega) h
  intro k j x a b
  exact main k x j a b
theorem EdL.strs (k : Nat) : ∀ (xs : List Str), EdL k (xs.map D.str)
  | [] => by simp only [List.map_nil, EdL]
  | x :: r => by
    simp only [List.map_cons, EdL]
    exact ⟨by cases k <;> simp only [Ed], EdL.strs k r⟩
theorem EdL.all {k : Nat} : ∀ {xs : List D}, (∀ x ∈ xs, Ed k x) → EdL k xs
  | [], _ => by simp only [EdL]
  | x :: r, h => by
    simp only [EdL]
    exact ⟨h x List.mem_cons_self, EdL.all fun y hy => h y (List.mem_cons_of_mem _ hy)⟩
theorem EdL.maps {α : Type} {k : Nat} {f : α → D} (h : ∀ x, Ed k (f x)) (xs : List α) : EdL k (xs.map f) := EdL.all fun x hx => by
  obtain ⟨y, _, rfl⟩ := List.mem_map.mp hx
  exact h y
mutual
theorem Ed.depth : ∀ {k : Nat} {x : D}, Ed k x → (toPy x).depth ≤ k
  | k, .non, _ => by simp [toPy, PyData.depth]
  | k, .bl _, _ => by simp [toPy, PyData.depth]
  | k, .int _, _ => by simp [toPy, PyData.depth]
  | k, .str _, _ => by simp [toPy, PyData.depth]
  | 0, .tup _, h => by simp [Ed] at h
  | 0, .lst _, h => by simp [Ed] at h
  | 0, .scr _, h => by simp [Ed] at h
  | k + 1, .tup xs, h => by
    simp only [Ed] at h
    have := EdL.depth h
    simp only [toPy, PyData.depth]
    omega
  | k + 1, .lst xs, h => by
    simp only [Ed] at h
    have := EdL.depth h
    simp only [toPy, PyData.depth]
    omega
  | k + 1, .scr xs, h => by
    simp only [Ed] at h
    have := EdL.depth h
    simp only [toPy, PyData.depth]
    omega
  | k, .obj _ _, h => by cases k <;> simp [Ed] at h
  | k, .dK _, h => by cases k <;> simp [Ed] at h
  | k, .exn _ _ _ _, h => by cases k <;> simp [Ed] at h
  | k, .cst _, h => by cases k <;> simp [Ed] at h
theorem EdL.depth : ∀ {k : Nat} {xs : List D}, EdL k xs → PyData.depthAll (toPyL xs) ≤ k
  | k, [], _ => by simp [toPyL, PyData.depthAll]
  | k, x :: r, h => by
    simp only [EdL] at h
    have h1 := Ed.depth h.1
    have h2 := EdL.depth h.2
    simp only [toPyL, PyData.depthAll]
    omega
end
mutual
theorem Ed.dp {K : PySem.W.Frag} {H : Hp} : ∀ {k : Nat} {x : D} {v : V}, Ed k x → Rp K H x v → Dp K H v (toPy x) ∧ (toPy x).canLay0 = true
  | k, .non, _, _, .non => ⟨by simp only [toPy]; exact .non, by simp [toPy, PyData.canLay0]⟩
  | k, .bl _, _, _, .bl _ => ⟨by simp only [toPy]; exact .bl _, by simp [toPy, PyData.canLay0]⟩
  | k, .int _, _, _, .int _ => ⟨by simp only [toPy]; exact .int _, by simp [toPy, PyData.canLay0]⟩
  | k, .str _, _, _, .str c => ⟨by simp only [toPy]; exact .str _, by simp [toPy, PyData.canLay0, c.ok]⟩
  | 0, .tup _, _, h, _ => by simp [Ed] at h
  | 0, .lst _, _, h, _ => by simp [Ed] at h
  | 0, .scr _, _, h, _ => by simp [Ed] at h
  | k + 1, .tup xs, _, h, .tup e t => by
    simp only [Ed] at h
    obtain ⟨a, b⟩ := EdL.dp h t
    simp only [toPy, PyData.canLay0]
    exact ⟨.tup (.inl (.inl e)) a, b⟩
  | k + 1, .lst xs, _, h, .lst e t => by
    simp only [Ed] at h
    obtain ⟨a, b⟩ := EdL.dp h t
    simp only [toPy, PyData.canLay0]
    exact ⟨.lst (.inl (.inl e)) a, b⟩
  | k + 1, .scr xs, _, h, .scr e t => by
    simp only [Ed] at h
    obtain ⟨a, b⟩ := EdL.dp h t
    simp only [toPy, PyData.canLay0]
    exact ⟨.lst e a, b⟩
  | k, .obj _ _, _, h, _ => by cases k <;> simp [Ed] at h
  | k, .dK _, _, h, _ => by cases k <;> simp [Ed] at h
  | k, .exn _ _ _ _, _, h, _ => by cases k <;> simp [Ed] at h
  | k, .cst _, _, h, _ => by cases k <;> simp [Ed] at h
theorem EdL.dp {K : PySem.W.Frag} {H : Hp} : ∀ {k : Nat} {x : List D} {v : List V}, EdL k x → RpL K H x v → DpAll K H v (toPyL x) ∧ PyData.canLayAll0 (toPyL x) = true
  | k, [], _, _, .nil => ⟨by simp only [toPyL]; exact .nil, by simp [toPyL, PyData.canLayAll0]⟩
  | k, x :: r, _, h, .cons e t => by
    simp only [EdL] at h
    obtain ⟨a, b⟩ := Ed.dp h.1 e
    obtain ⟨a', b'⟩ := EdL.dp h.2 t
    simp only [toPyL, PyData.canLayAll0]
    exact ⟨.cons a a', by rw [b, b']; rfl⟩
end
theorem Ed.shaped {K : PySem.W.Frag} {H : Hp} {x : D} {v : V} (h : Ed 60 x) (r : Rp K H x v) : Dp K H v (toPy x) ∧ SeqAt.shaped (toPy x) = true := by
  obtain ⟨a, b⟩ := h.dp r
  have := h.depth
  refine ⟨a, ?_⟩
  unfold SeqAt.shaped
  rw [b, decide_eq_true (by omega)]
  rfl
/-! ### the whole of an atom -/
def look1 (S : Sto) : A → Option D
  | .d x => some x
  | .ref n => match S[n]? with
    | some (.fz x) => some x
    | some (.lst xs) => some (.lst xs)
    | some (.dK kvs) => some (.dK kvs)
    | _ => none
def looks (S : Sto) : List A → Option (List D)
  | [] => some []
  | a :: r => match look1 S a, looks S r with
    | some x, some xs => some (x :: xs)
    | _, _ => none
def look (S : Sto) : A → Option D
  | .d x => some x
  | .ref n => match S[n]? with
    | some (.fz x) => some x
    | some (.lst xs) => some (.lst xs)
    | some (.dK kvs) => some (.dK kvs)
    | some (.lsR xs) => (looks S xs).map .lst
    | some (.tpR xs) => (looks S xs).map .tup
    | _ => none
section
variable {K : PySem.W.Frag} {c : Cd} {H F : Hp} {as : List Addr} {S : Sto}
theorem look1_ok (r : SR K c H F as S) {a : A} {v : V} {x : D} (h : RpA K F as a v) (e : look1 S a = some x) : Rp K H x v := by
  cases a with
  | d y => cases e; exact Rp.mono r.fs h
  | ref n =>
    obtain ⟨p, hp, rfl⟩ := h
    have e : (match S[n]? with
      | some (.fz x) => some x
      | some (.lst xs) => some (.lst xs)
      | some (.dK kvs) => some (.dK kvs)
      | _ => none) = some x := e
    split at e
    · rename_i y ey
      cases e
      exact Rp.mono r.fs (r.ob n p _ hp ey).2
    · rename_i y ey
      cases e
      obtain ⟨_, vs, h1, h2⟩ := r.ob n p _ hp ey
      exact .lst h1 (h2.mono r.fs)
    · rename_i y ey
      cases e
      obtain ⟨_, vs, h1, h2⟩ := r.ob n p _ hp ey
      exact .dK h1 (h2.mono r.fs)
    · cases e
theorem looks_ok (r : SR K c H F as S) : ∀ {a : List A} {v : List V} {x : List D}, RaL K F as a v → looks S a = some x → RpL K H x v
  | [], _, _, .nil, e => by cases e; exact .nil
  | a :: l, _, _, .cons h t, e => by
    unfold looks at e
    split at e
    · rename_i y ys e1 e2
      cases e
      exact .cons (look1_ok r h e1) (looks_ok r t e2)
    · cases e
theorem look_ok (r : SR K c H F as S) {a : A} {v : V} {x : D} (h : RpA K F as a v) (e : look S a = some x) : Rp K H x v := by
  cases a with
  | d y => cases e; exact Rp.mono r.fs h
  | ref n =>
    obtain ⟨p, hp, rfl⟩ := h
    have e : (match S[n]? with
      | some (.fz x) => some x
      | some (.lst xs) => some (.lst xs)
      | some (.dK kvs) => some (.dK kvs)
      | some (.lsR xs) => (looks S xs).map D.lst
      | some (.tpR xs) => (looks S xs).map D.tup
      | _ => none) = some x := e
    split at e
    · rename_i y ey
      cases e
      exact Rp.mono r.fs (r.ob n p _ hp ey).2
    · rename_i y ey
      cases e
      obtain ⟨_, vs, h1, h2⟩ := r.ob n p _ hp ey
      exact .lst h1 (h2.mono r.fs)
    · rename_i y ey
      cases e
      obtain ⟨_, vs, h1, h2⟩ := r.ob n p _ hp ey
      exact .dK h1 (h2.mono r.fs)
    · rename_i xs ey
      obtain ⟨ys, e1, e2⟩ := Option.map_eq_some_iff.mp e
      cases e2
      obtain ⟨_, vs, h1, h2⟩ := r.ob n p _ hp ey
      exact .lst h1 (looks_ok r h2 e1)
    · rename_i xs ey
      obtain ⟨ys, e1, e2⟩ := Option.map_eq_some_iff.mp e
      cases e2
      obtain ⟨vs, h2, h⟩ := r.ob n p _ hp ey
      exact .tup (h.elim (fun h => h.2) (fun h => r.fs _ _ h)) (looks_ok r h2 e1)
    · cases e
/-- the items of a sequence -/
def seqA (S : Sto) : A → Option (List A)
  | .d (.lst xs) => some (xs.map .d)
  | .d (.tup xs) => some (xs.map .d)
  | .d (.scr xs) => some (xs.map .d)
  | .ref n => match S[n]? with
    | some (.lst xs) => some (xs.map .d)
    | some (.lsR xs) => some xs
    | some (.fz (.lst xs)) => some (xs.map .d)
    | _ => none
  | _ => none
def seqD (S : Sto) : A → Option (List D)
  | .d (.lst xs) => some xs
  | .d (.tup xs) => some xs
  | .d (.scr xs) => some xs
  | .ref n => match S[n]? with
    | some (.lst xs) => some xs
    | some (.fz (.lst xs)) => some xs
    | _ => none
  | _ => none
theorem seqD_ok (r : SR K c H F as S) {a : A} {v : V} {xs : List D} (h : RpA K F as a v) (e : seqD S a = some xs) : ∃ p vs, v = .ref p ∧ SqA K H p vs ∧ RpL K F xs vs := by
  cases a with
  | d y =>
    cases y with
    | lst ys => cases e; cases h with | lst h t => exact ⟨_, _, rfl, .inl (.inl (.inl (r.fs _ _ h))), t⟩
    | tup ys => cases e; cases h with | tup h t => exact ⟨_, _, rfl, .inr (.inl (.inl (r.fs _ _ h))), t⟩
    | scr ys => cases e; cases h with | scr h t => exact ⟨_, _, rfl, .inl (Same.seq r.fs h), t⟩
    | _ => cases e
  | ref n =>
    obtain ⟨p, hp, rfl⟩ := h
    have e : (match S[n]? with
      | some (.lst xs) => some xs
      | some (.fz (.lst xs)) => some xs
      | _ => none) = some xs := e
    split at e
    · rename_i y ey
      cases e
      obtain ⟨_, vs, h1, h2⟩ := r.ob n p _ hp ey
      exact ⟨_, _, rfl, .inl (.inl (.inl h1)), h2⟩
    · rename_i y ey
      cases e
      obtain ⟨_, h2⟩ := r.ob n p _ hp ey
      cases h2 with | lst h t => exact ⟨_, _, rfl, .inl (.inl (.inl (r.fs _ _ h))), t⟩
    · cases e
end
/-! ### operations -/
section
variable {K : PySem.W.Frag}
/-- a scalar that an operation gives -/
class UpG (g : Int → Int → V) (h : outParam (Int → Int → D)) : Prop where
  up : ∀ i j K F, Rp K F (h i j) (g i j)
instance {f : Int → Int → Int} : UpG (fun i j => V.int (f i j)) (fun i j => D.int (f i j)) where up := fun _ _ _ _ => .int _
instance {f : Int → Int → Bool} : UpG (fun i j => V.bl (f i j)) (fun i j => D.bl (f i j)) where up := fun _ _ _ _ => .bl _
def asII (k : Int → Int → Prop) : A → A → Prop := fun x y => match x, y with
  | .d (.int i), .d (.int j) => k i j
  | _, _ => False
theorem asII_ok {F : Hp} {as : List Addr} {k : Int → Int → Prop} {x y : A} {v u : V} (hx : RpA K F as x v) (hy : RpA K F as y u) (h : asII k x y) : ∃ i j, v = .int i ∧ u = .int j ∧ k i j := by
  unfold asII at h
  split at h
  · cases hx; cases hy; exact ⟨_, _, rfl, rfl, h⟩
  · exact h.elim
def wI0 (g : Int → Int → D) : A → A → Sto → WQ → Prop := fun x y S Q => asII (fun i j => Q (.d (g i j)) S) x y
instance {g : Int → Int → V} {h : Int → Int → D} [u : UpG g h] : UpR K (rI0 g) (wI0 h) where
  up := fun c S Q H F as R x y v w r hx hy q k => by
    obtain ⟨i, j, rfl, rfl, q⟩ := asII_ok hx hy q
    exact ⟨i, j, rfl, rfl, k.here (a := .d (h i j)) r (u.up i j K F) q⟩
def wI (C : Int → Int → Prop) (g : Int → Int → D) : A → A → Sto → WQ → Prop := fun x y S Q => asII (fun i j => C i j ∧ Q (.d (g i j)) S) x y
instance {C : Int → Int → Prop} {g : Int → Int → V} {h : Int → Int → D} [u : UpG g h] : UpR K (rI C g) (wI C h) where
  up := fun c S Q H F as R x y v w r hx hy q k => by
    obtain ⟨i, j, rfl, rfl, q⟩ := asII_ok hx hy q
    exact ⟨i, j, rfl, rfl, q.1, k.here (a := .d (h i j)) r (u.up i j K F) q.2⟩
instance : UpU K (rU fun i => V.int (-i)) (fun x S Q => match x with
    | .d (.int i) => Q (.d (.int (-i))) S
    | _ => False) where
  up := fun c S Q H F as R x v r hx q k => by
    split at q
    · cases hx; exact ⟨_, rfl, k.here (a := .d (.int _)) r (.int _) q⟩
    · exact q.elim
end
def lstD (S : Sto) : A → Option (List D)
  | .d (.lst xs) => some xs
  | .d (.scr xs) => some xs
  | .ref n => match S[n]? with
    | some (.lst xs) => some xs
    | some (.fz (.lst xs)) => some xs
    | _ => none
  | _ => none
section
variable {K : PySem.W.Frag} {c : Cd} {H F : Hp} {as : List Addr} {S : Sto}
theorem lstD_ok (r : SR K c H F as S) {a : A} {v : V} {xs : List D} (h : RpA K F as a v) (e : lstD S a = some xs) : ∃ p vs, v = .ref p ∧ SqL K H p vs ∧ RpL K F xs vs := by
  cases a with
  | d y =>
    cases y with
    | lst ys => cases e; cases h with | lst h t => exact ⟨_, _, rfl, .inl (.inl (r.fs _ _ h)), t⟩
    | scr ys => cases e; cases h with | scr h t => exact ⟨_, _, rfl, Same.seq r.fs h, t⟩
    | _ => cases e
  | ref n =>
    obtain ⟨p, hp, rfl⟩ := h
    have e : (match S[n]? with
      | some (.lst xs) => some xs
      | some (.fz (.lst xs)) => some xs
      | _ => none) = some xs := e
    split at e
    · rename_i y ey
      cases e
      obtain ⟨_, vs, h1, h2⟩ := r.ob n p _ hp ey
      exact ⟨_, _, rfl, .inl (.inl h1), h2⟩
    · rename_i y ey
      cases e
      obtain ⟨_, h2⟩ := r.ob n p _ hp ey
      cases h2 with | lst h t => exact ⟨_, _, rfl, .inl (.inl (r.fs _ _ h)), t⟩
    · cases e
/-- an owned list -/
theorem ownL_ok (r : SR K c H F as S) {n : Nat} {p : Addr} {xs : List D} (hp : as[n]? = some p) (e : S[n]? = some (.lst xs)) : F p = none ∧ ∃ vs, H p = some (.lst vs) ∧ RpL K F xs vs := r.ob n p _ hp e
end
section
variable {K : PySem.W.Frag}
theorem RpL.nil_iff {F : Hp} {xs : List D} {vs : List V} (h : RpL K F xs vs) : xs = [] ↔ vs = [] := by
  cases h with
  | nil => simp
  | cons _ _ => simp
/-- + -/
def wAdd : A → A → Sto → WQ → Prop := fun x y S Q => match x, y with
  | .d (.int i), .d (.int j) => Q (.d (.int (i + j))) S
  | .d (.str a), .d (.str b) => a.length + b.length ≤ 1000000 ∧ Q (.d (.str (a ++ b))) S
  | .d (.tup xs), .d (.tup ys) => xs ≠ [] ∧ xs.length + ys.length ≤ 1000000 ∧ Q (.d (.tup (xs ++ ys))) S
  | x, y => OnS (lstD S x) fun xs => OnS (lstD S y) fun ys => xs.length + ys.length ≤ 1000000 ∧ Q (.d (.lst (xs ++ ys))) S
instance : UpR K (rAddU K) wAdd where
  up := fun c S Q H F as R x y v w r hx hy q k => by
    unfold wAdd at q
    split at q
    · cases hx; cases hy; exact k.here (a := .d (.int _)) r (.int _) q
    · cases hx with | str c1 => cases hy with | str c2 => exact ⟨le_size q.1, k.here (a := .d (.str _)) r (.str (c1.app c2)) q.2⟩
    · obtain ⟨hn, hl, q⟩ := q
      cases hx with | tup e1 t1 => cases hy with | tup e2 t2 =>
      rename_i xs ys a vs b ws
      refine .inr ⟨_, _, vs, ws, rfl, rfl, .inl (.inl (r.fs _ _ e1)), .inl (.inl (r.fs _ _ e2)), fun z => hn (t1.nil_iff.mpr z), le_size (by rw [← t1.length, ← t2.length]; exact hl), fun z => ?_, fun z p hp => ?_⟩
      · have z' := t2.nil_iff.mpr z
        subst z'
        rw [List.append_nil] at q
        exact k.here (a := .d (.tup _)) r (.tup e1 t1) q
      · exact k.newD r hp (fun F' s' e' => .tup e' ((t1.append t2).mono s')) q
    · obtain ⟨xs, e1, ys, e2, hl, q⟩ := q
      obtain ⟨p1, vs, rfl, h1, t1⟩ := lstD_ok r hx e1
      obtain ⟨p2, ws, rfl, h2, t2⟩ := lstD_ok r hy e2
      exact .inl ⟨vs, ws, h1, h2, le_size (by rw [← t1.length, ← t2.length]; exact hl), fun p hp => k.newD r hp (fun F' s' e' => .lst e' ((t1.append t2).mono s')) q⟩
/-- the scripts' list is never multiplied -/
def mulD (S : Sto) : A → Option (List D)
  | .d (.lst xs) => some xs
  | .ref n => match S[n]? with
    | some (.lst xs) => some xs
    | _ => none
  | _ => none
theorem mulD_ok {c : Cd} {H F : Hp} {as : List Addr} {S : Sto} (r : SR K c H F as S) {a : A} {v : V} {xs : List D} (h : RpA K F as a v) (e : mulD S a = some xs) : ∃ p vs, v = .ref p ∧ H p = some (.lst vs) ∧ RpL K F xs vs := by
  cases a with
  | d y =>
    cases y with
    | lst ys => cases e; cases h with | lst h t => exact ⟨_, _, rfl, r.fs _ _ h, t⟩
    | _ => cases e
  | ref n =>
    obtain ⟨p, hp, rfl⟩ := h
    have e : (match S[n]? with
      | some (.lst xs) => some xs
      | _ => none) = some xs := e
    split at e
    · rename_i y ey
      cases e
      obtain ⟨_, vs, h1, h2⟩ := r.ob n p _ hp ey
      exact ⟨_, _, rfl, h1, h2⟩
    · cases e
def wMulU : A → A → Sto → WQ → Prop := fun x y S Q => match x, y with
  | .d (.int i), .d (.int j) => (CMulW i j ∨ CMul i j) ∧ Q (.d (.int (i * j))) S
  | x, .d (.int k) => OnS (mulD S x) fun xs => -(2 ^ 63) ≤ k ∧ k < 2 ^ 63 ∧ xs.length * k.toNat ≤ 1000000 ∧ Q (.d (.lst (List.replicate k.toNat xs).flatten)) S
  | _, _ => False
instance : UpR K rMulU wMulU where
  up := fun c S Q H F as R x y v w r hx hy q k => by
    unfold wMulU at q
    split at q
    · cases hx; cases hy; exact ⟨q.1, k.here (a := .d (.int _)) r (.int _) q.2⟩
    · obtain ⟨xs, e1, h2, h3, h4, q⟩ := q
      obtain ⟨p1, vs, rfl, h1, t1⟩ := mulD_ok r hx e1
      cases hy
      exact ⟨vs, h1, h2, h3, le_size (by rw [← t1.length]; exact h4), fun p hp => k.newD r hp (fun F' s' e' => .lst e' ((t1.replicate _).mono s')) q⟩
    · exact q.elim
/-- ==, != -/
def wEq (neg : Bool) : A → A → Sto → WQ → Prop := fun x y S Q => OnS (look S x) fun d => OnS (look S y) fun e => Ed 60 d ∧ Ed 60 e ∧ Q (.d (.bl (if neg = true then !d.eqv e else d.eqv e))) S
instance : UpR K (rEqU K) (wEq false) where
  up := fun c S Q H F as R x y v w r hx hy q k => by
    obtain ⟨d, e1, e, e2, f1, f2, q⟩ := q
    obtain ⟨p1, s1⟩ := f1.shaped (look_ok r hx e1)
    obtain ⟨p2, s2⟩ := f2.shaped (look_ok r hy e2)
    exact .inr ⟨_, _, p1, p2, s1, s2, k.here (a := .d (.bl _)) r (.bl _) q⟩
instance : UpR K (rNeU K) (wEq true) where
  up := fun c S Q H F as R x y v w r hx hy q k => by
    obtain ⟨d, e1, e, e2, f1, f2, q⟩ := q
    obtain ⟨p1, s1⟩ := f1.shaped (look_ok r hx e1)
    obtain ⟨p2, s2⟩ := f2.shaped (look_ok r hy e2)
    exact .inr ⟨_, _, p1, p2, s1, s2, k.here (a := .d (.bl _)) r (.bl _) q⟩
/-- flat data -/
def D.fl : D → Bool
  | .non => true
  | .bl _ => true
  | .int _ => true
  | .str _ => true
  | _ => false
def inD (x : D) (xs : List D) : Bool := xs.any fun y => D.eqv y x
theorem fl_ok {F : Hp} {x : D} {v : V} (h : Rp K F x v) (e : x.fl = true) : flatV v = true := by
  cases h <;> first | rfl | cases e
theorem eqV_ok {F : Hp} {x y : D} {v u : V} (h : Rp K F x v) (h' : Rp K F y u) (e : x.fl = true) (e' : y.fl = true) : eqV v u = D.eqv x y := by
  cases h <;> first | (cases e; done) | (cases h' <;> first | (cases e'; done) | (simp [eqV, D.eqv, toPy, PyData.eqv]))
theorem inV_ok {F : Hp} {x : D} {v : V} (h : Rp K F x v) (e : x.fl = true) : ∀ {xs : List D} {vs : List V}, RpL K F xs vs → xs.all D.fl = true → vs.all flatV = true ∧ inV v vs = inD x xs
  | _, _, .nil, _ => ⟨rfl, rfl⟩
  | _, _, .cons h1 t, a => by
    rw [List.all_cons, Bool.and_eq_true] at a
    obtain ⟨i1, i2⟩ := inV_ok h e t a.2
    refine ⟨by rw [List.all_cons, fl_ok h1 a.1, i1]; rfl, ?_⟩
    show (eqV _ v || inV v _) = (D.eqv _ x || inD x _)
    rw [i2, eqV_ok h1 h a.1 e]
def wIn (neg : Bool) : A → A → Sto → WQ → Prop := fun x y S Q => match x, y with
  | .d (.str a), .d (.str z) => ∃ c : Nat, a = ⟨#[c]⟩ ∧ Q (.d (.bl (if neg = true then !decide (c ∈ z.cps.toList) else decide (c ∈ z.cps.toList)))) S
  | x, y => OnS (pureA S x) fun d => OnS (seqD S y) fun xs => d.fl = true ∧ xs.all D.fl = true ∧ Q (.d (.bl (if neg = true then !inD d xs else inD d xs))) S
instance {neg : Bool} : UpR K (rInU K neg) (wIn neg) where
  up := fun c S Q H F as R x y v w r hx hy q k => by
    unfold wIn at q
    split at q
    · obtain ⟨c, rfl, q⟩ := q
      cases hx; cases hy
      exact ⟨c, rfl, k.here (a := .d (.bl _)) r (.bl _) q⟩
    · obtain ⟨d, e1, xs, e2, f1, f2, q⟩ := q
      have rx := pureA_ok r hx e1
      obtain ⟨p, vs, rfl, h1, t1⟩ := seqD_ok r hy e2
      obtain ⟨a1, a2⟩ := inV_ok rx f1 t1 f2
      exact ⟨vs, h1, fl_ok rx f1, a1, by rw [a2]; exact k.here (a := .d (.bl _)) r (.bl _) q⟩
/-- is None -/
def isNon : A → Bool
  | .d .non => true
  | _ => false
theorem isNon_ok {F : Hp} {as : List Addr} {x : A} {v : V} (h : RpA K F as x v) (n : ∀ v, x ≠ .d (.cst v)) : decide (v = .non) = isNon x := by
  cases x with
  | d y => cases h <;> first | rfl | (exact absurd rfl (n _))
  | ref n => obtain ⟨a, _, rfl⟩ := h; rfl
def noC : A → Bool
  | .d (.cst _) => false
  | _ => true
instance : UpR K (fun x y H Q => y = V.non ∧ Q (.bl (decide (x = .non))) H) (fun x y S Q => match y with
    | .d .non => noC x = true ∧ Q (.d (.bl (isNon x))) S
    | _ => False) where
  up := fun c S Q H F as R x y v w r hx hy q k => by
    split at q
    · cases hy
      refine ⟨rfl, ?_⟩
      rw [isNon_ok hx fun v z => by subst z; exact absurd q.1 (by simp [noC])]
      exact k.here (a := .d (.bl _)) r (.bl _) q.2
    · exact q.elim
instance : UpR K (fun x y H Q => y = V.non ∧ Q (.bl (!decide (x = .non))) H) (fun x y S Q => match y with
    | .d .non => noC x = true ∧ Q (.d (.bl (!isNon x))) S
    | _ => False) where
  up := fun c S Q H F as R x y v w r hx hy q k => by
    split at q
    · cases hy
      refine ⟨rfl, ?_⟩
      rw [isNon_ok hx fun v z => by subst z; exact absurd q.1 (by simp [noC])]
      exact k.here (a := .d (.bl _)) r (.bl _) q.2
    · exact q.elim
def asBB (k : Bool → Bool → Prop) : A → A → Prop := fun x y => match x, y with
  | .d (.bl i), .d (.bl j) => k i j
  | _, _ => False
theorem asBB_ok {F : Hp} {as : List Addr} {k : Bool → Bool → Prop} {x y : A} {v u : V} (hx : RpA K F as x v) (hy : RpA K F as y u) (h : asBB k x y) : ∃ i j, v = .bl i ∧ u = .bl j ∧ k i j := by
  unfold asBB at h
  split at h
  · cases hx; cases hy; exact ⟨_, _, rfl, rfl, h⟩
  · exact h.elim
instance : UpR K rIsB (fun x y S Q => asBB (fun a b => Q (.d (.bl (decide (a = b)))) S) x y) where
  up := fun c S Q H F as R x y v w r hx hy q k => by
    obtain ⟨i, j, rfl, rfl, q⟩ := asBB_ok hx hy q
    exact ⟨i, j, rfl, rfl, k.here (a := .d (.bl _)) r (.bl _) q⟩
instance : UpR K rNotB (fun x y S Q => asBB (fun a b => Q (.d (.bl (!decide (a = b)))) S) x y) where
  up := fun c S Q H F as R x y v w r hx hy q k => by
    obtain ⟨i, j, rfl, rfl, q⟩ := asBB_ok hx hy q
    exact ⟨i, j, rfl, rfl, k.here (a := .d (.bl _)) r (.bl _) q⟩
/-- items -/
theorem RpL.atI {F : Hp} {xs : List D} {vs : List V} {i : Int} {x : D} (h : RpL K F xs vs) (e : atI xs i = some x) : ∃ v, L2.atI vs i = some v ∧ Rp K F x v := by
  unfold L2.atI at e ⊢
  rw [← h.length]
  cases q : ixN xs.length i with
  | none => rw [q] at e; cases e
  | some j =>
    rw [q] at e
    exact h.get e
theorem RaL.get {F : Hp} {as : List Addr} : ∀ {xs : List A} {vs : List V} {i : Nat} {x : A}, RaL K F as xs vs → xs[i]? = some x → ∃ v, vs[i]? = some v ∧ RpA K F as x v
  | _, _, 0, _, .cons h _, e => ⟨_, rfl, by simp at e; subst e; exact h⟩
  | _, _, i + 1, v, .cons _ t, e => by
    obtain ⟨d, h1, h2⟩ := RaL.get (i := i) (x := v) t (by simpa using e)
    exact ⟨d, by simpa using h1, h2⟩
  | _, _, _, _, .nil, e => by simp at e
theorem RaL.atI {F : Hp} {as : List Addr} {xs : List A} {vs : List V} {i : Int} {x : A} (h : RaL K F as xs vs) (e : atI xs i = some x) : ∃ v, L2.atI vs i = some v ∧ RpA K F as x v := by
  unfold L2.atI at e ⊢
  rw [← Paired.length h]
  cases q : ixN xs.length i with
  | none => rw [q] at e; cases e
  | some j =>
    rw [q] at e
    exact RaL.get h e
def lsRA (S : Sto) : A → Option (List A)
  | .ref n => match S[n]? with
    | some (.lsR xs) => some xs
    | some (.tpR xs) => some xs
    | _ => none
  | _ => none
theorem lsRA_ok {c : Cd} {H F : Hp} {as : List Addr} {S : Sto} (r : SR K c H F as S) {a : A} {v : V} {xs : List A} (h : RpA K F as a v) (e : lsRA S a = some xs) : ∃ p vs, v = .ref p ∧ SqA K H p vs ∧ RaL K F as xs vs := by
  cases a with
  | d y => cases e
  | ref n =>
    obtain ⟨p, hp, rfl⟩ := h
    have e : (match S[n]? with
      | some (.lsR xs) => some xs
      | some (.tpR xs) => some xs
      | _ => none) = some xs := e
    split at e
    · rename_i y ey
      cases e
      obtain ⟨_, vs, h1, h2⟩ := r.ob n p _ hp ey
      exact ⟨_, _, rfl, .inl (.inl (.inl h1)), h2⟩
    · rename_i y ey
      cases e
      obtain ⟨vs, h2, h | h⟩ := r.ob n p _ hp ey
      · exact ⟨_, _, rfl, .inr (.inl (.inl h.2)), h2⟩
      · exact ⟨_, _, rfl, .inr (.inl (.inl (r.fs _ _ h))), h2⟩
    · cases e
def wIx : A → A → Sto → WQ → Prop := fun x y S Q => match x, y with
  | .d (.str z), .d (.int i) => z.length ≤ 1000000 ∧ OnS (atI z.cps.toList i) fun c => Q (.d (.str ⟨#[c]⟩)) S
  | x, .d (.int i) => (match lsRA S x with
    | some xs => OnS (atI xs i) fun y => Q y S
    | none => OnS (seqD S x) fun xs => OnS (atI xs i) fun y => Q (.d y) S)
  | _, _ => False
theorem atI_mem {α : Type} {xs : List α} {i : Int} {c : α} (e : atI xs i = some c) : c ∈ xs := by
  unfold L2.atI at e
  obtain ⟨j, _, h⟩ := Option.bind_eq_some_iff.mp e
  exact List.mem_of_getElem? h
instance : UpR K (rIxU K) wIx where
  up := fun c S Q H F as R x y v w r hx hy q k => by
    unfold wIx at q
    split at q
    · obtain ⟨hl, d, e, q⟩ := q
      cases hx with | str c1 =>
      cases hy
      exact ⟨d, le_size hl, e, k.here (a := .d (.str _)) r (.str (c1.one (atI_mem e))) q⟩
    · cases hy
      split at q
      · rename_i xs e1
        obtain ⟨z, e2, q⟩ := q
        obtain ⟨p, vs, rfl, h1, t1⟩ := lsRA_ok r hx e1
        obtain ⟨u, h2, h3⟩ := t1.atI e2
        exact ⟨vs, u, h1, h2, k.here r h3 q⟩
      · obtain ⟨xs, e1, z, e2, q⟩ := q
        obtain ⟨p, vs, rfl, h1, t1⟩ := seqD_ok r hx e1
        obtain ⟨u, h2, h3⟩ := t1.atI e2
        exact ⟨vs, u, h1, h2, k.here (a := .d z) r h3 q⟩
    · exact q.elim
/-- len -/
def lenA (S : Sto) : A → Option Nat
  | .d (.str z) => some z.length
  | .d (.lst xs) => some xs.length
  | .d (.tup xs) => some xs.length
  | .d (.scr xs) => some xs.length
  | .d (.dK xs) => some xs.length
  | .ref n => match S[n]? with
    | some (.lst xs) => some xs.length
    | some (.lsR xs) => some xs.length
    | some (.dK xs) => some xs.length
    | some (.dR xs) => some xs.length
    | some (.fz (.lst xs)) => some xs.length
    | _ => none
  | _ => none
def strA : A → Bool
  | .d (.str _) => true
  | _ => false
theorem RpK.length {F : Hp} : ∀ {xs : List (Key × D)} {vs : List (Key × V)}, RpK K F xs vs → xs.length = vs.length
  | _, _, .nil => rfl
  | _, _, .cons _ t => congrArg Nat.succ (RpK.length t)
theorem lenA_ok {c : Cd} {H F : Hp} {as : List Addr} {S : Sto} (r : SR K c H F as S) {a : A} {v : V} {n : Nat} {Q : VK} (h : RpA K F as a v) (e : lenA S a = some n) (hs : strA a = true → n ≤ 1000000) (q : Q (.int n) H) : rLenU K [v] H Q := by
  cases a with
  | d y =>
    cases y with
    | str z => cases e; cases h; exact ⟨le_size (hs rfl), q⟩
    | lst ys => cases e; cases h with | lst h t => exact .inl ⟨_, .inl (.inl (.inl (r.fs _ _ h))), by rw [← t.length]; exact q⟩
    | tup ys => cases e; cases h with | tup h t => exact .inl ⟨_, .inr (.inl (.inl (r.fs _ _ h))), by rw [← t.length]; exact q⟩
    | scr ys => cases e; cases h with | scr h t => exact .inl ⟨_, .inl (Same.seq r.fs h), by rw [← t.length]; exact q⟩
    | dK ys => cases e; cases h with | dK h t => exact .inr ⟨_, r.fs _ _ h, by rw [← t.length]; exact q⟩
    | _ => cases e
  | ref m =>
    obtain ⟨p, hp, rfl⟩ := h
    have e : (match S[m]? with
      | some (.lst xs) => some xs.length
      | some (.lsR xs) => some xs.length
      | some (.dK xs) => some xs.length
      | some (.dR xs) => some xs.length
      | some (.fz (.lst xs)) => some xs.length
      | _ => none) = some n := e
    split at e
    · rename_i y ey
      cases e
      obtain ⟨_, vs, h1, h2⟩ := r.ob m p _ hp ey
      exact .inl ⟨_, .inl (.inl (.inl h1)), by rw [← h2.length]; exact q⟩
    · rename_i y ey
      cases e
      obtain ⟨_, vs, h1, h2⟩ := r.ob m p _ hp ey
      exact .inl ⟨_, .inl (.inl (.inl h1)), by rw [← Paired.length h2]; exact q⟩
    · rename_i y ey
      cases e
      obtain ⟨_, vs, h1, h2⟩ := r.ob m p _ hp ey
      exact .inr ⟨_, h1, by rw [← h2.length]; exact q⟩
    · rename_i y ey
      cases e
      obtain ⟨_, vs, h1, h2⟩ := r.ob m p _ hp ey
      exact .inr ⟨_, h1, by rw [← Paired.length h2]; exact q⟩
    · rename_i y ey
      cases e
      obtain ⟨_, h2⟩ := r.ob m p _ hp ey
      cases h2 with | lst h t => exact .inl ⟨_, .inl (.inl (.inl (r.fs _ _ h))), by rw [← t.length]; exact q⟩
    · cases e
def one (k : A → Prop) : List A → Prop := fun xs => match xs with
  | [x] => k x
  | _ => False
theorem one_ok {F : Hp} {as : List Addr} {k : A → Prop} {xs : List A} {vs : List V} (h : RaL K F as xs vs) (q : one k xs) : ∃ x v, vs = [v] ∧ RpA K F as x v ∧ k x := by
  unfold one at q
  split at q
  · cases h with | cons h t => cases t; exact ⟨_, _, rfl, h, q⟩
  · exact q.elim
/-- a text's length is small -/
def lenC (n : Nat) : A → Prop
  | .d (.str _) => n ≤ 1000000
  | _ => True
theorem lenC_ok {n : Nat} {x : A} (h : lenC n x) (e : strA x = true) : n ≤ 1000000 := by
  cases x with
  | d y => cases y <;> first | exact h | cases e
  | ref m => cases e
instance : UpC K (rLenU K) (fun xs S Q => one (fun x => OnS (lenA S x) fun n => lenC n x ∧ Q (.d (.int n)) S) xs) where
  up := fun c S Q H F as R xs vs r h q k => by
    obtain ⟨x, v, rfl, hx, n, e, hs, q⟩ := one_ok h q
    exact lenA_ok r hx e (fun z => lenC_ok hs z) (k.here (a := .d (.int _)) r (.int _) q)
instance : UpC K (rListU K) (fun xs S Q => one (fun x => OnS (seqD S x) fun ys => Q (.d (.lst ys)) S) xs) where
  up := fun c S Q H F as R xs vs r h q k => by
    obtain ⟨x, v, rfl, hx, ys, e, q⟩ := one_ok h q
    obtain ⟨p, ws, rfl, h1, t⟩ := seqD_ok r hx e
    exact ⟨ws, h1, fun p hp => k.newD r hp (fun F' s' e' => .lst e' (t.mono s')) q⟩
/-- what tuple(x) takes -/
def tupD (S : Sto) : A → Option (List D)
  | .d (.tup ys) => some ys
  | x => lstD S x
instance : UpC K (rTupleU K) (fun xs S Q => one (fun x => OnS (tupD S x) fun ys => Q (.d (.tup ys)) S) xs) where
  up := fun c S Q H F as R xs vs r h q k => by
    obtain ⟨x, v, rfl, hx, ys, e, q⟩ := one_ok h q
    unfold tupD at e
    split at e
    · cases e
      have hx' := hx
      cases hx with | tup e t => exact .inr ⟨_, .inl (.inl (r.fs _ _ e)), k.here (a := .d (.tup _)) r hx' q⟩
    · obtain ⟨p, ws, rfl, h1, t⟩ := lstD_ok r hx e
      exact .inl ⟨ws, h1, fun p hp => k.newD r hp (fun F' s' e' => .tup e' (t.mono s')) q⟩
instance : UpC K rInt1 (fun xs S Q => one (fun x => (match x with
    | .d (.int i) => Q (.d (.int i)) S
    | .d (.bl b) => Q (.d (.int (if b then 1 else 0))) S
    | _ => False)) xs) where
  up := fun c S Q H F as R xs vs r h q k => by
    obtain ⟨x, v, rfl, hx, q⟩ := one_ok h q
    split at q
    · cases hx; exact k.here (a := .d (.int _)) r (.int _) q
    · cases hx; exact k.here (a := .d (.int _)) r (.int _) q
    · exact q.elim
def asI (k : Int → Prop) : A → Prop := fun x => match x with
  | .d (.int i) => k i
  | _ => False
theorem asI_ok {F : Hp} {as : List Addr} {k : Int → Prop} {x : A} {v : V} (h : RpA K F as x v) (q : asI k x) : ∃ i, v = .int i ∧ k i := by
  unfold asI at q
  split at q
  · cases h; exact ⟨_, rfl, q⟩
  · exact q.elim
instance : UpC K (fun xs H Q => ∃ i : Int, xs = [V.int i] ∧ Q (.int (if i < 0 then -i else i)) H) (fun xs S Q => one (asI fun i => Q (.d (.int (if i < 0 then -i else i))) S) xs) where
  up := fun c S Q H F as R xs vs r h q k => by
    obtain ⟨x, v, rfl, hx, q⟩ := one_ok h q
    obtain ⟨i, rfl, q⟩ := asI_ok hx q
    exact ⟨i, rfl, k.here (a := .d (.int _)) r (.int _) q⟩
theorem cp_ofS (s : String) : Cp (Str.ofString s) := by
  rw [Str.ofString_eq_toList]
  intro c hc
  rw [List.toList_toArray] at hc
  obtain ⟨d, _, rfl⟩ := List.mem_map.mp hc
  have := d.valid
  show d.val.toNat < _
  rcases this with h | h <;> omega
theorem cp_int (n : Int) : Cp (toString n : String) := cp_ofS _
instance : UpC K (fun xs H Q => ∃ i : Int, xs = [V.int i] ∧ i.natAbs.log2 < 1920 ∧ Q (.str (toString i)) H) (fun xs S Q => one (asI fun i => i.natAbs.log2 < 1920 ∧ Q (.d (.str (toString i))) S) xs) where
  up := fun c S Q H F as R xs vs r h q k => by
    obtain ⟨x, v, rfl, hx, q⟩ := one_ok h q
    obtain ⟨i, rfl, q⟩ := asI_ok hx q
    exact ⟨i, rfl, q.1, k.here (a := .d (.str _)) r (.str (cp_int i)) q.2⟩
def two (k : A → A → Prop) : List A → Prop := fun xs => match xs with
  | [x, y] => k x y
  | _ => False
theorem two_ok {F : Hp} {as : List Addr} {k : A → A → Prop} {xs : List A} {vs : List V} (h : RaL K F as xs vs) (q : two k xs) : ∃ x y v w, vs = [v, w] ∧ RpA K F as x v ∧ RpA K F as y w ∧ k x y := by
  unfold two at q
  split at q
  · cases h with | cons h t => cases t with | cons h' t => cases t; exact ⟨_, _, _, _, rfl, h, h', q⟩
  · exact q.elim
instance : UpC K (fun xs H Q => ∃ i j : Int, xs = [V.int i, V.int j] ∧ Q (.int (if j > i then j else i)) H) (fun xs S Q => two (asII fun i j => Q (.d (.int (if j > i then j else i))) S) xs) where
  up := fun c S Q H F as R xs vs r h q k => by
    obtain ⟨x, y, v, w, rfl, hx, hy, q⟩ := two_ok h q
    obtain ⟨i, j, rfl, rfl, q⟩ := asII_ok hx hy q
    exact ⟨i, j, rfl, k.here (a := .d (.int _)) r (.int _) q⟩
instance : UpC K (fun xs H Q => ∃ i j : Int, xs = [V.int i, V.int j] ∧ Q (.int (if j < i then j else i)) H) (fun xs S Q => two (asII fun i j => Q (.d (.int (if j < i then j else i))) S) xs) where
  up := fun c S Q H F as R xs vs r h q k => by
    obtain ⟨x, y, v, w, rfl, hx, hy, q⟩ := two_ok h q
    obtain ⟨i, j, rfl, rfl, q⟩ := asII_ok hx hy q
    exact ⟨i, j, rfl, k.here (a := .d (.int _)) r (.int _) q⟩
/-- a list of bools -/
def blsD : List D → Option (List Bool)
  | [] => some []
  | .bl b :: r => (blsD r).map (b :: ·)
  | _ :: _ => none
theorem blsD_map (bs : List Bool) : blsD (bs.map D.bl) = some bs := by
  induction bs with
  | nil => rfl
  | cons b r ih => rw [List.map_cons, blsD, ih]; rfl
theorem blsD_ok {F : Hp} : ∀ {xs : List D} {vs : List V} {bs : List Bool}, RpL K F xs vs → blsD xs = some bs → vs = bs.map V.bl
  | [], _, _, .nil, e => by cases e; rfl
  | x :: r, _, bs, .cons h t, e => by
    cases x with
    | bl b =>
      rw [blsD] at e
      obtain ⟨bs', e1, rfl⟩ := Option.map_eq_some_iff.mp e
      cases h
      rw [blsD_ok t e1]
      rfl
    | _ => cases e
instance : UpC K (rAll K) (fun xs S Q => one (fun x => OnS (lstD S x) fun ys => OnS (blsD ys) fun bs => Q (.d (.bl (bs.all id))) S) xs) where
  up := fun c S Q H F as R xs vs r h q k => by
    obtain ⟨x, v, rfl, hx, ys, e, bs, eb, q⟩ := one_ok h q
    obtain ⟨p, ws, rfl, h1, t⟩ := lstD_ok r hx e
    rw [blsD_ok t eb] at h1
    exact ⟨p, bs, rfl, h1, k.here (a := .d (.bl _)) r (.bl _) q⟩
instance : UpC K (rAny K) (fun xs S Q => one (fun x => OnS (lstD S x) fun ys => OnS (blsD ys) fun bs => Q (.d (.bl (bs.any id))) S) xs) where
  up := fun c S Q H F as R xs vs r h q k => by
    obtain ⟨x, v, rfl, hx, ys, e, bs, eb, q⟩ := one_ok h q
    obtain ⟨p, ws, rfl, h1, t⟩ := lstD_ok r hx e
    rw [blsD_ok t eb] at h1
    exact ⟨p, bs, rfl, h1, k.here (a := .d (.bl _)) r (.bl _) q⟩
/-- owned results -/
def wOwnL (w : WE) : WE := fun ρ S Q => w ρ S fun a S1 => match a with
  | .d (.lst xs) => Q (.ref S1.length) (S1 ++ [.lst xs])
  | _ => False
end
end VL

namespace VL
open PySem PySem.Spec PyProof.Rows L2 RX

section
variable {K : PySem.W.Frag} {E : L2.St → XK} {X : Env → WX}
/-! ### list(x) owned, slices -/
def wListO (wa : WA) : WE := fun ρ S Q => wa ρ S fun xs S1 => one (fun x => (match lsRA S1 x with
  | some ys => Q (.ref S1.length) (S1 ++ [.lsR ys])
  | none => OnS (seqD S1 x) fun ys => Q (.ref S1.length) (S1 ++ [.lst ys]))) xs
instance {t : TA} {wa : WA} [ia : UpA K E X t wa] : UpE K E X (tOwn (tCB (rListU K) t)) (wListO wa) where
  up := fun c ux ρ S Q σ H F as R r e h k => ia.up c ux ρ S _ σ H F as _ r e h fun xs vs H1 F1 as1 S1 r1 s1 p1 rx q1 => by
    obtain ⟨x, v, rfl, hx, q⟩ := one_ok rx q1
    split at q
    · rename_i ys e1
      obtain ⟨p, ws, rfl, h1, t⟩ := lsRA_ok r1 hx e1
      exact ⟨ws, h1, fun p hp => (k.mono s1 p1).newO r1 hp (obR (r1.none_F hp) upd_same (t.mono (Same.refl _) (List.prefix_append _ _))) q⟩
    · obtain ⟨ys, e, q⟩ := q
      obtain ⟨p, ws, rfl, h1, t⟩ := seqD_ok r1 hx e
      exact ⟨ws, h1, fun p hp => (k.mono s1 p1).newO r1 hp (obL (r1.none_F hp) upd_same t) q⟩
def cutD (xs : List D) (lo hi : Option Int) : List D := (xs.drop (HT.sIx xs.length 0 lo)).take (HT.sIx xs.length xs.length hi - HT.sIx xs.length 0 lo)
theorem RpL.cut {F : Hp} {xs : List D} {vs : List V} (h : RpL K F xs vs) (lo hi : Option Int) : RpL K F (cutD xs lo hi) (cutV vs lo hi) := by
  unfold cutD cutV
  rw [← h.length]
  exact (h.drop _).take _
instance : UpO K E X tNoPart (fun ρ S Q => Q none S) where
  up := fun c ux ρ S Q σ H F as R r e h k => k _ H F as S r (Same.refl _) (List.prefix_refl _) h
instance {t : TE} {w : WE} [ia : UpE K E X t w] : UpO K E X (tPart t) (fun ρ S Q => w ρ S fun x S1 => asI (fun i => Q (some i) S1) x) where
  up := fun c ux ρ S Q σ H F as R r e h k => ia.up c ux ρ S _ σ H F as _ r e h fun x v H1 F1 as1 S1 r1 s1 p1 rx q1 => by
    obtain ⟨i, rfl, q⟩ := asI_ok rx q1
    exact ⟨i, rfl, k _ H1 F1 as1 S1 r1 s1 p1 q⟩
class UpL (K : PySem.W.Frag) (r : V → Option Int → Option Int → Hp → VK → Prop) (w : outParam (A → Option Int → Option Int → Sto → WQ → Prop)) : Prop where
  up : ∀ (c : Cd) (S : Sto) (Q : WQ) (H F : Hp) (as : List Addr) (R : VK) (x : A) (v : V) (lo hi : Option Int), SR K c H F as S → RpA K F as x v → w x lo hi S Q → KtE K c F as Q R → r v lo hi H R
def wSl (wr : A → Option Int → Option Int → Sto → WQ → Prop) (wa : WE) (wl wh : WO) : WE := fun ρ S Q => wa ρ S fun x S1 => wl ρ S1 fun lo S2 => wh ρ S2 fun hi S3 => wr x lo hi S3 Q
instance {r : V → Option Int → Option Int → Hp → VK → Prop} {wr : A → Option Int → Option Int → Sto → WQ → Prop} {ta : TE} {tl th : TO} {wa : WE} {wl wh : WO} [ir : UpL K r wr] [ia : UpE K E X ta wa] [il : UpO K E X tl wl] [ih : UpO K E X th wh] : UpE K E X (L2.tSl r ta tl th) (wSl wr wa wl wh) where
  up := fun c ux ρ S Q σ H F as R r e h k => ia.up c ux ρ S _ σ H F as _ r e h fun x v H1 F1 as1 S1 r1 s1 p1 rx q1 =>
    il.up c ux ρ S1 _ σ H1 F1 as1 _ r1 (e.mono s1 p1) q1 fun lo H2 F2 as2 S2 r2 s2 p2 q2 =>
      ih.up c ux ρ S2 _ σ H2 F2 as2 _ r2 (e.mono (s1.trans s2) (p1.trans p2)) q2 fun hi H3 F3 as3 S3 r3 s3 p3 q3 =>
        ir.up c S3 Q H3 F3 as3 R x v lo hi r3 (rx.mono (s2.trans s3) (p2.trans p3)) q3 (k.mono ((s1.trans s2).trans s3) ((p1.trans p2).trans p3))
def wSlU : A → Option Int → Option Int → Sto → WQ → Prop := fun x lo hi S Q => match x with
  | .d (.str z) => z.length ≤ 1000000 ∧ Q (.d (.str (cutS z lo hi))) S
  | x => OnS (lstD S x) fun xs => Q (.d (.lst (cutD xs lo hi))) S
instance : UpL K (rSlU K) wSlU where
  up := fun c S Q H F as R x v lo hi r hx q k => by
    unfold wSlU at q
    split at q
    · cases hx with | str c1 => exact ⟨le_size q.1, k.here (a := .d (.str _)) r (.str c1.cut) q.2⟩
    · obtain ⟨xs, e, q⟩ := q
      obtain ⟨p, vs, rfl, h1, t⟩ := lstD_ok r hx e
      exact ⟨vs, h1, fun p hp => k.newD r hp (fun F' s' e' => .lst e' ((t.cut lo hi).mono s')) q⟩
def wRev (wa : WE) : WE := fun ρ S Q => wa ρ S fun x S1 => OnS (lstD S1 x) fun xs => Q (.d (.lst xs.reverse)) S1
instance {t : TE} {w : WE} [ia : UpE K E X t w] : UpE K E X (tRevL K t) (wRev w) where
  up := fun c ux ρ S Q σ H F as R r e h k => ia.up c ux ρ S _ σ H F as _ r e h fun x v H1 F1 as1 S1 r1 s1 p1 rx q1 => by
    obtain ⟨xs, e, q⟩ := q1
    obtain ⟨p, vs, rfl, h1, t⟩ := lstD_ok r1 rx e
    exact ⟨p, vs, rfl, h1, fun p hp => (k.mono s1 p1).newD r1 hp (fun F' s' e' => .lst e' (t.reverse.mono s')) q⟩
/-- either way -/
instance {t u : TE} {wa wb : WE} [ia : UpE K E X t wa] [ib : UpE K E X u wb] : UpE K E X (fun σ H Q => t σ H Q ∨ u σ H Q) (fun ρ S Q => wa ρ S Q ∨ wb ρ S Q) where
  up := fun c ux ρ S Q σ H F as R r e h k => h.imp (fun h => ia.up c ux ρ S Q σ H F as R r e h k) fun h => ib.up c ux ρ S Q σ H F as R r e h k
/-! ### fields -/
end
/-- the classes of which f is a field -/
def FldCs (K : PySem.W.Frag) (Cs : List Addr) (f : Str) : Prop := ∀ C ∈ Cs, Cls K C ∧ NoAttr K C f
def tFldC (Cs : List Addr) (f : Str) (ta : TE) : TE := fun σ H Q => ta σ H fun x H1 => ∃ a C dx fs v, x = .ref a ∧ H1 a = some (.ins C dx fs) ∧ C ∈ Cs ∧ fs.lookup f = some v ∧ Q v H1
theorem pe_fldC {X : Cx} {e : Expr} {f : Str} {te : TE} {pos : Pos} {Cs : List Addr} (hc : FldCs X.K Cs f) (he : PE X e te) (hb : attributeBase e f X.env (eval e X.env) = eval e X.env := by rfl) : PE X (.Attribute e f pos) (tFldC Cs f te) := by
  refine ⟨fun pins s σ H Q I h => ?_⟩
  refine attr_of hb (thn (he.run pins s σ H _ I h) fun u s1 ⟨x, H1, I1, rx, a, C, dx, fs, v, ex, ea, c, l, q⟩ => ?_)
  subst ex
  obtain rfl : u = Value.ref a := rx
  exact getattr_ok I1 ea (hc C c).1 (hc C c).2 l fun u' s2 I2 ru => ⟨v, H1, I2, ru, q⟩
def sFldC (Cs : List Addr) (f : Str) (ta tv : TE) : TS := fun D σ H => tv σ H fun y H1 => ta σ H1 fun x H2 => ∃ a C dx fs, x = .ref a ∧ H2 a = some (.ins C dx fs) ∧ C ∈ Cs ∧ fs.length < 1000 ∧
  D.nx σ (upd H2 a (.ins C dx (putF f y fs)))
theorem ps_fldC {X : Cx} {o value : Expr} {f : Str} {pos pos' : Pos} {ta tv : TE} {Cs : List Addr} (hc : FldCs X.K Cs f) (ha : PE X o ta) (hv : PE X value tv) (hs : swapsWith value (some (.Attribute o f pos')) pos.line X.env = pure false) : PS X (.Assign [.Attribute o f pos'] value pos) (sFldC Cs f ta tv) := by
  refine ⟨fun pins s σ H D I h => ?_⟩
  refine plainObj_wpAny_Assign_Attribute (thn (hv.run pins s σ H _ I h) fun u s1 ⟨y, H1, I1, ry, q⟩ => thn (ha.run pins s1 σ H1 _ I1 q) fun ov s2 ⟨x, H2, I2, rx, a, C, dx, fs, ex, ea, c, l, q2⟩ => ?_) hs
  subst ex
  obtain rfl : ov = Value.ref a := rx
  exact setattr_ok I2 ea (hc C c).1 (hc C c).2 l ry fun s3 I3 => ⟨σ, _, I3, q2⟩
section
variable {K : PySem.W.Frag} {E : L2.St → XK} {X : Env → WX}
/-- the fields of an object -/
def insA (S : Sto) : A → Option (Addr × List (Str × A))
  | .d (.obj C fs) => some (C, fs.map fun p => (p.1, A.d p.2))
  | .ref n => match S[n]? with
    | some (.ins C fs) => some (C, fs)
    | some (.fz (.obj C fs)) => some (C, fs.map fun p => (p.1, A.d p.2))
    | _ => none
  | _ => none
theorem RpF.raf {F : Hp} {as : List Addr} : ∀ {fs : List (Str × D)} {gs : List (Str × V)}, RpF K F fs gs → RaF K F as (fs.map fun p => (p.1, A.d p.2)) gs
  | _, _, .nil => .nil
  | _, _, .cons h t => .cons ⟨rfl, h⟩ (RpF.raf t)
theorem insA_ok {c : Cd} {H F : Hp} {as : List Addr} {S : Sto} (r : SR K c H F as S) {a : A} {v : V} {C : Addr} {fs : List (Str × A)} (h : RpA K F as a v) (e : insA S a = some (C, fs)) : ∃ p dx gs, v = .ref p ∧ H p = some (.ins C dx gs) ∧ RaF K F as fs gs := by
  cases a with
  | d y =>
    cases y with
    | obj D ys => cases e; cases h with | obj h t => exact ⟨_, _, _, rfl, r.fs _ _ h, t.raf⟩
    | _ => cases e
  | ref n =>
    obtain ⟨p, hp, rfl⟩ := h
    have e : (match S[n]? with
      | some (.ins C fs) => some (C, fs)
      | some (.fz (.obj C fs)) => some (C, fs.map fun p => (p.1, A.d p.2))
      | _ => none) = some (C, fs) := e
    split at e
    · rename_i C fs ey
      cases e
      obtain ⟨_, dx, gs, h1, h2⟩ := r.ob n p _ hp ey
      exact ⟨_, _, _, rfl, h1, h2⟩
    · rename_i y ys ey
      cases e
      obtain ⟨_, h2⟩ := r.ob n p _ hp ey
      cases h2 with | obj h t => exact ⟨_, _, _, rfl, r.fs _ _ h, t.raf⟩
    · cases e
theorem RaF.look {F : Hp} {as : List Addr} {f : Str} {x : A} : ∀ {xs : List (Str × A)} {vs : List (Str × V)}, RaF K F as xs vs → xs.lookup f = some x → ∃ v, vs.lookup f = some v ∧ RpA K F as x v
  | _, _, .nil, e => by cases e
  | (g, y) :: xs, (g', v) :: vs, .cons ⟨hg, h⟩ t, e => by
    cases (show g = g' from hg)
    rw [List.lookup_cons] at e ⊢
    cases q : f == g with
    | true => rw [q] at e; cases e; exact ⟨v, rfl, h⟩
    | false => rw [q] at e; exact RaF.look t e
theorem RaF.nolook {F : Hp} {as : List Addr} {f : Str} : ∀ {xs : List (Str × A)} {vs : List (Str × V)}, RaF K F as xs vs → xs.lookup f = none → vs.lookup f = none
  | _, _, .nil, e => rfl
  | (g, y) :: xs, (g', v) :: vs, .cons ⟨hg, h⟩ t, e => by
    cases (show g = g' from hg)
    rw [List.lookup_cons] at e ⊢
    cases q : f == g with
    | true => rw [q] at e; cases e
    | false => rw [q] at e; exact RaF.nolook t e
def wFldC (Cs : List Addr) (f : Str) (wa : WE) : WE := fun ρ S Q => wa ρ S fun x S1 => OnS (insA S1 x) fun p => p.1 ∈ Cs ∧ OnS (p.2.lookup f) fun y => Q y S1
instance {Cs : List Addr} {f : Str} {t : TE} {w : WE} [ia : UpE K E X t w] : UpE K E X (tFldC Cs f t) (wFldC Cs f w) where
  up := fun c ux ρ S Q σ H F as R r e h k => ia.up c ux ρ S _ σ H F as _ r e h fun x v H1 F1 as1 S1 r1 s1 p1 rx q1 => by
    obtain ⟨⟨C, fs⟩, e1, e2, y, e3, q⟩ := q1
    obtain ⟨p, dx, gs, rfl, h1, h2⟩ := insA_ok r1 rx e1
    obtain ⟨u, h3, h4⟩ := h2.look e3
    exact ⟨p, C, dx, gs, u, rfl, h1, e2, h3, (k.mono s1 p1).here r1 h4 q⟩
/-! ### methods of lists and texts -/
/-- an owned list gets an item -/
def apA (S : Sto) (o x : A) (Q : WQ) : Prop := match o with
  | .ref n => (match S[n]? with
    | some (.lst xs) => OnS (pureA S x) fun d => xs.length < 1000000 ∧ Q (.d .non) (S.set n (.lst (xs ++ [d])))
    | some (.lsR xs) => xs.length < 1000000 ∧ Q (.d .non) (S.set n (.lsR (xs ++ [x])))
    | _ => False)
  | _ => False
theorem Paired.app1 {α β : Type} {F : α → β → Prop} {a : α} {b : β} {xs : List α} {ys : List β} (h : Paired F xs ys) (k : F a b) : Paired F (xs ++ [a]) (ys ++ [b]) := PySem.Paired.snoc h k
instance : UpM K rAppend (fun o xs S Q => one (fun x => apA S o x Q) xs) where
  up := fun c S Q H F as R o ov xs vs r ho h q k => by
    obtain ⟨x, v, rfl, hx, q⟩ := one_ok h q
    unfold apA at q
    split at q
    · obtain ⟨p, hp, rfl⟩ := ho
      split at q
      · rename_i ys ey
        obtain ⟨d, e, hl, q⟩ := q
        obtain ⟨f0, ws, h1, h2⟩ := r.ob _ p _ hp ey
        have rp := pureA_ok r hx e
        refine ⟨p, ws, v, rfl, rfl, h1, lt_size (by rw [← h2.length]; exact hl), ?_⟩
        exact k.here' (r.put hp f0 (obL f0 upd_same (h2.append (.cons rp .nil)))) (.non) q
      · rename_i ys ey
        obtain ⟨hl, q⟩ := q
        obtain ⟨f0, ws, h1, h2⟩ := r.ob _ p _ hp ey
        refine ⟨p, ws, v, rfl, rfl, h1, lt_size (by rw [← Paired.length h2]; exact hl), ?_⟩
        exact k.here' (r.put hp f0 (obR f0 upd_same (Paired.app1 h2 hx))) (.non) q
      · exact q.elim
    · exact q.elim
end
end VL

namespace VL
open PySem PySem.Spec PyProof.Rows L2 RX

/-! ### steps that only forget -/
def lowR (k : Nat) : A → Bool
  | .ref n => decide (n < k)
  | _ => true
def noRef (k : Nat) : Ob → Bool
  | .lsR xs => xs.all (lowR k)
  | .tpR xs => xs.all (lowR k)
  | .ins _ fs => fs.all fun p => lowR k p.2
  | .dR fs => fs.all fun p => lowR k p.2
  | .dS fs => fs.all fun p => lowR k p.2
  | _ => true
def dropE (k : Nat) (ρ : Env) : Env := ρ.map fun o => match o with
  | some (.ref n) => if n < k then o else none
  | o => o
def fzE (n : Nat) (x : D) (ρ : Env) : Env := ρ.map fun o => match o with
  | some (.ref m) => if m = n then some (.d x) else o
  | o => o
def pureF (S : Sto) : List (Str × A) → Option (List (Str × D))
  | [] => some []
  | (f, a) :: r => match pureA S a, pureF S r with
    | some x, some xs => some ((f, x) :: xs)
    | _, _ => none
def pureK (S : Sto) : List (Key × A) → Option (List (Key × D))
  | [] => some []
  | (f, a) :: r => match pureA S a, pureK S r with
    | some x, some xs => some ((f, x) :: xs)
    | _, _ => none
def obD (S : Sto) : Ob → Option D
  | .lst xs => some (.lst xs)
  | .dK kvs => some (.dK kvs)
  | .dR kvs => (pureK S kvs).map .dK
  | .lsR xs => (pures S xs).map .lst
  | .ins C fs => (pureF S fs).map (.obj C)
  | _ => none
/-! one object out: the later handles move down -/
def dnA (k : Nat) : A → A
  | .ref n => .ref (if n < k then n else n - 1)
  | a => a
def awA (k : Nat) : A → Bool
  | .ref n => decide (n ≠ k)
  | _ => true
def dnO (k : Nat) : Ob → Ob
  | .lsR xs => .lsR (xs.map (dnA k))
  | .tpR xs => .tpR (xs.map (dnA k))
  | .ins C fs => .ins C (fs.map fun p => (p.1, dnA k p.2))
  | .dR fs => .dR (fs.map fun p => (p.1, dnA k p.2))
  | .dS fs => .dS (fs.map fun p => (p.1, dnA k p.2))
  | o => o
def awO (k : Nat) : Ob → Bool
  | .lsR xs => xs.all (awA k)
  | .tpR xs => xs.all (awA k)
  | .ins _ fs => fs.all fun p => awA k p.2
  | .dR fs => fs.all fun p => awA k p.2
  | .dS fs => fs.all fun p => awA k p.2
  | _ => true
def delE (k : Nat) (ρ : Env) : Env := ρ.map fun o => match o with
  | some a => if awA k a = true then some (dnA k a) else none
  | none => none
inductive Ghs (n0 : Nat) : Env → Sto → Env → Sto → Prop
  | refl (ρ : Env) (S : Sto) : Ghs n0 ρ S ρ S
  | drop {ρ ρ' : Env} {S S' : Sto} (k : Nat) : n0 ≤ k → (∀ o ∈ S.take k, noRef k o = true) → Ghs n0 (dropE k ρ) (S.take k) ρ' S' → Ghs n0 ρ S ρ' S'
  | fz {ρ ρ' : Env} {S S' : Sto} (n : Nat) (o : Ob) (x : D) : S[n]? = some o → obD S o = some x → Ghs n0 (fzE n x ρ) (S.set n (.fz x)) ρ' S' → Ghs n0 ρ S ρ' S'
  | forget {ρ ρ' : Env} {S S' : Sto} (i : Nat) : Ghs n0 (ρ.set i none) S ρ' S' → Ghs n0 ρ S ρ' S'
  | del {ρ ρ' : Env} {S S' : Sto} (k : Nat) : n0 ≤ k → k < S.length → (∀ o ∈ S.eraseIdx k, awO k o = true) → Ghs n0 (delE k ρ) ((S.eraseIdx k).map (dnO k)) ρ' S' → Ghs n0 ρ S ρ' S'
section
variable {K : PySem.W.Frag} {c : Cd} {H F : Hp} {as : List Addr}
theorem RpA.drop {k : Nat} {a : A} {v : V} (h : RpA K F as a v) (e : lowR k a = true) : RpA K F (as.take k) a v := by
  cases a with
  | d x => exact h
  | ref n =>
    obtain ⟨p, h1, h2⟩ := h
    have e : n < k := of_decide_eq_true e
    exact ⟨p, by rw [List.getElem?_take, if_pos e]; exact h1, h2⟩
theorem RaL.drop {k : Nat} : ∀ {xs : List A} {vs : List V}, RaL K F as xs vs → (∀ a ∈ xs, lowR k a = true) → RaL K F (as.take k) xs vs
  | _, _, .nil, _ => .nil
  | _, _, .cons z t, e => .cons (z.drop (e _ List.mem_cons_self)) (RaL.drop t fun a ha => e a (List.mem_cons_of_mem _ ha))
theorem RaF.drop {k : Nat} : ∀ {xs : List (Str × A)} {vs : List (Str × V)}, RaF K F as xs vs → (∀ a ∈ xs, lowR k a.2 = true) → RaF K F (as.take k) xs vs
  | _, _, .nil, _ => .nil
  | _, _, .cons z t, e => .cons ⟨z.1, z.2.drop (e _ List.mem_cons_self)⟩ (RaF.drop t fun a ha => e a (List.mem_cons_of_mem _ ha))
theorem RaG.drop {κ : Type} {k : Nat} : ∀ {xs : List (κ × A)} {vs : List (κ × V)}, RaG K F as xs vs → (∀ a ∈ xs, lowR k a.2 = true) → RaG K F (as.take k) xs vs
  | _, _, .nil, _ => .nil
  | _, _, .cons z t, e => .cons ⟨z.1, z.2.drop (e _ List.mem_cons_self)⟩ (RaG.drop t fun a ha => e a (List.mem_cons_of_mem _ ha))
theorem ObR.drop {k : Nat} {a : Addr} {o : Ob} (h : ObR K H F as a o) (e : noRef k o = true) : ObR K H F (as.take k) a o := by
  cases o with
  | lst xs => exact h
  | dK xs => exact h
  | dT xs => exact h
  | fz x => exact h
  | lsR xs =>
    obtain ⟨f0, vs, h1, h2⟩ := h
    exact ⟨f0, vs, h1, RaL.drop h2 (List.all_eq_true.mp e)⟩
  | tpR xs =>
    obtain ⟨vs, h2, h1⟩ := h
    exact ⟨vs, RaL.drop h2 (List.all_eq_true.mp e), h1⟩
  | ins C fs =>
    obtain ⟨f0, dx, vs, h1, h2⟩ := h
    exact ⟨f0, dx, vs, h1, RaF.drop h2 (List.all_eq_true.mp e)⟩
  | dR fs =>
    obtain ⟨f0, vs, h1, h2⟩ := h
    exact ⟨f0, vs, h1, RaG.drop h2 (List.all_eq_true.mp e)⟩
  | dS fs =>
    obtain ⟨f0, vs, h1, h2⟩ := h
    exact ⟨f0, vs, h1, RaG.drop h2 (List.all_eq_true.mp e)⟩
theorem pureF_ok {S : Sto} (r : SR K c H F as S) : ∀ {a : List (Str × A)} {v : List (Str × V)} {x : List (Str × D)}, RaF K F as a v → pureF S a = some x → RpF K F x v
  | [], _, _, .nil, e => by cases e; exact .nil
  | (f, a) :: l, (g, v) :: w, _, .cons ⟨hf, h⟩ t, e => by
    cases (show f = g from hf)
    unfold pureF at e
    split at e
    · rename_i y ys e1 e2
      cases e
      exact .cons (pureA_ok r h e1) (pureF_ok r t e2)
    · cases e
theorem pureK_ok {S : Sto} (r : SR K c H F as S) : ∀ {a : List (Key × A)} {v : List (Key × V)} {x : List (Key × D)}, RaG K F as a v → pureK S a = some x → RpK K F x v
  | [], _, _, .nil, e => by cases e; exact .nil
  | (f, a) :: l, (g, v) :: w, _, .cons ⟨hf, h⟩ t, e => by
    cases (show f = g from hf)
    unfold pureK at e
    split at e
    · rename_i y ys e1 e2
      cases e
      exact .cons (pureA_ok r h e1) (pureK_ok r t e2)
    · cases e
theorem er_up {α : Type} {l : List α} {k n : Nat} {a : α} (h : (l.eraseIdx k)[n]? = some a) : l[if n < k then n else n + 1]? = some a := by
  rw [List.getElem?_eraseIdx] at h
  split at h <;> rename_i z
  · rw [if_pos z]; exact h
  · rw [if_neg z]; exact h
theorem er_dn {α : Type} {l : List α} {k n : Nat} {a : α} (h : l[n]? = some a) (ne : n ≠ k) : (l.eraseIdx k)[if n < k then n else n - 1]? = some a := by
  rw [List.getElem?_eraseIdx]
  by_cases z : n < k
  · rw [if_pos z, if_pos z]; exact h
  · rw [if_neg z, if_neg (by omega), show n - 1 + 1 = n by omega]; exact h
theorem RpA.dn {k : Nat} {a : A} {v : V} (h : RpA K F as a v) (e : awA k a = true) : RpA K F (as.eraseIdx k) (dnA k a) v := by
  cases a with
  | d x => exact h
  | ref n =>
    obtain ⟨p, h1, h2⟩ := h
    exact ⟨p, er_dn h1 (of_decide_eq_true e), h2⟩
theorem RaL.dn {k : Nat} : ∀ {xs : List A} {vs : List V}, RaL K F as xs vs → xs.all (awA k) = true → RaL K F (as.eraseIdx k) (xs.map (dnA k)) vs
  | _, _, .nil, _ => .nil
  | _, _, .cons z t, e => by
    rw [List.all_cons, Bool.and_eq_true] at e
    exact .cons (z.dn e.1) (RaL.dn t e.2)
theorem RaF.dn {k : Nat} : ∀ {xs : List (Str × A)} {vs : List (Str × V)}, RaF K F as xs vs → (xs.all fun p => awA k p.2) = true → RaF K F (as.eraseIdx k) (xs.map fun p => (p.1, dnA k p.2)) vs
  | _, _, .nil, _ => .nil
  | _, _, .cons z t, e => by
    rw [List.all_cons, Bool.and_eq_true] at e
    exact .cons ⟨z.1, z.2.dn e.1⟩ (RaF.dn t e.2)
theorem RaG.dn {κ : Type} {k : Nat} : ∀ {xs : List (κ × A)} {vs : List (κ × V)}, RaG K F as xs vs → (xs.all fun p => awA k p.2) = true → RaG K F (as.eraseIdx k) (xs.map fun p => (p.1, dnA k p.2)) vs
  | _, _, .nil, _ => .nil
  | _, _, .cons z t, e => by
    rw [List.all_cons, Bool.and_eq_true] at e
    exact .cons ⟨z.1, z.2.dn e.1⟩ (RaG.dn t e.2)
theorem ObR.dn {k : Nat} {a : Addr} {o : Ob} (h : ObR K H F as a o) (e : awO k o = true) : ObR K H F (as.eraseIdx k) a (dnO k o) := by
  cases o with
  | lst xs => exact h
  | dK xs => exact h
  | dT xs => exact h
  | fz x => exact h
  | lsR xs => obtain ⟨h1, vs, h2, h3⟩ := h; exact ⟨h1, vs, h2, h3.dn e⟩
  | tpR xs => obtain ⟨vs, h3, h⟩ := h; exact ⟨vs, h3.dn e, h⟩
  | ins C fs => obtain ⟨h1, dx, gs, h2, h3⟩ := h; exact ⟨h1, dx, gs, h2, h3.dn e⟩
  | dR fs => obtain ⟨h1, gs, h2, h3⟩ := h; exact ⟨h1, gs, h2, RaG.dn h3 e⟩
  | dS fs => obtain ⟨h1, gs, h2, h3⟩ := h; exact ⟨h1, gs, h2, RaG.dn h3 e⟩
theorem pre_er {l as : List Addr} {k : Nat} (p : l <+: as) (h : l.length ≤ k) : l <+: as.eraseIdx k := by
  obtain ⟨t, rfl⟩ := p
  rw [List.eraseIdx_append_of_length_le h]
  exact List.prefix_append _ _
theorem SR.del {S : Sto} (r : SR K c H F as S) {k : Nat} (hk : c.as.length ≤ k) (hl : k < S.length) (ha : ∀ o ∈ S.eraseIdx k, awO k o = true) : SR K c H F (as.eraseIdx k) ((S.eraseIdx k).map (dnO k)) := by
  have hla : k < as.length := by rw [r.len]; exact hl
  refine ⟨by rw [List.length_map, List.length_eraseIdx, List.length_eraseIdx, r.len], r.nd.sublist (List.eraseIdx_sublist _ _), r.fs, r.bs, r.bf, fun n a h => r.ba _ a (er_up h), fun n a o h1 h2 => ?_, r.f0, pre_er r.a0 hk, fun n a hn h => r.nw _ a (by split <;> omega) (er_up h)⟩
  rw [List.getElem?_map] at h2
  obtain ⟨o0, ho, rfl⟩ := Option.map_eq_some_iff.mp h2
  exact (r.ob _ a o0 (er_up h1) (er_up ho)).dn (ha o0 (List.mem_of_getElem? ho))
theorem Ghs.ok {ρ ρ' : Env} {S S' : Sto} {n0 : Nat} (g : Ghs n0 ρ S ρ' S') : ∀ {c : Cd} {F : Hp} {as : List Addr} {σ : L2.St}, c.as.length ≤ n0 → SR K c H F as S → EnvR K F as ρ σ → ∃ F' as', SR K c H F' as' S' ∧ EnvR K F' as' ρ' σ ∧ Same F F' ∧ ∀ l, l.length ≤ n0 → l <+: as → l <+: as' := by
  induction g with
  | refl ρ S => intro c F as σ _ r e; exact ⟨F, as, r, e, Same.refl _, fun _ _ h => h⟩
  | drop k hk hn g ih =>
    rename_i ρ _ S _
    intro c F as σ h0 r e
    have step : ∃ F' as', SR K c H F' as' _ ∧ EnvR K F' as' _ σ ∧ Same F F' ∧ ∀ l, l.length ≤ n0 → l <+: as.take k → l <+: as' := ih h0 (r.drop k (by omega) fun n o hn' ho a hob => hob.drop (hn o ?_)) ⟨by unfold dropE; rw [List.length_map]; exact e.1, fun i a ha => ?_⟩
    · obtain ⟨F', as', a1, a2, a3, a4⟩ := step
      exact ⟨F', as', a1, a2, a3, fun l hl hp => a4 l hl (List.prefix_take_iff.mpr ⟨hp, by omega⟩)⟩
    · refine List.mem_of_getElem? (i := n) ?_
      rw [List.getElem?_take, if_pos hn']; exact ho
    · unfold dropE at ha
      rw [List.getElem?_map] at ha
      cases q : ρ[i]? with
      | none => rw [q] at ha; cases ha
      | some o =>
        rw [q] at ha
        cases o with
        | none => cases ha
        | some b =>
          cases b with
          | d x =>
            cases ha
            exact e.2 i _ q
          | ref n =>
            have ha : (if n < k then some (A.ref n) else none) = some a := Option.some.inj ha
            by_cases z : n < k
            · rw [if_pos z] at ha
              cases ha
              obtain ⟨v, h1, h2⟩ := e.2 i _ q
              exact ⟨v, h1, h2.drop (decide_eq_true z)⟩
            · rw [if_neg z] at ha; cases ha
  | fz n o x ho hx g ih =>
    rename_i ρ _ S _
    intro c F as σ h0 r e
    obtain ⟨p, hp, hob⟩ := r.adr ho
    have main : ∃ u, F p = none ∧ H p = some u ∧ ∀ F', Same F F' → F' p = some u → Rp K F' x (.ref p) := by
      cases o with
      | lst xs => cases hx; obtain ⟨f0, vs, h1, h2⟩ := hob; exact ⟨_, f0, h1, fun F' s e' => .lst e' (h2.mono s)⟩
      | dK xs => cases hx; obtain ⟨f0, vs, h1, h2⟩ := hob; exact ⟨_, f0, h1, fun F' s e' => .dK e' (h2.mono s)⟩
      | dR xs =>
        obtain ⟨ys, e1, rfl⟩ := Option.map_eq_some_iff.mp hx
        obtain ⟨f0, vs, h1, h2⟩ := hob
        exact ⟨_, f0, h1, fun F' s e' => .dK e' ((pureK_ok r h2 e1).mono s)⟩
      | lsR xs =>
        obtain ⟨ys, e1, rfl⟩ := Option.map_eq_some_iff.mp hx
        obtain ⟨f0, vs, h1, h2⟩ := hob
        exact ⟨_, f0, h1, fun F' s e' => .lst e' ((pures_ok r h2 e1).mono s)⟩
      | ins C fs =>
        obtain ⟨ys, e1, rfl⟩ := Option.map_eq_some_iff.mp hx
        obtain ⟨f0, dx, vs, h1, h2⟩ := hob
        exact ⟨_, f0, h1, fun F' s e' => .obj e' ((pureF_ok r h2 e1).mono s)⟩
      | _ => cases hx
    obtain ⟨u, f0, hu, hr⟩ := main
    have sF : Same F (upd F p u) := Same.nw f0
    obtain ⟨r', _⟩ := r.freeze hp f0 hu (hr _ sF upd_same)
    have e' : EnvR K (upd F p u) as (fzE n x ρ) σ := by
      refine ⟨by unfold fzE; rw [List.length_map]; exact e.1, fun i a ha => ?_⟩
      unfold fzE at ha
      rw [List.getElem?_map] at ha
      cases q : ρ[i]? with
      | none => rw [q] at ha; cases ha
      | some o =>
        rw [q] at ha
        cases o with
        | none => cases ha
        | some b =>
          cases b with
          | d y =>
            cases ha
            obtain ⟨v, h1, h2⟩ := e.2 i _ q
            exact ⟨v, h1, h2.mono sF (List.prefix_refl _)⟩
          | ref m =>
            have ha : (if m = n then some (A.d x) else some (.ref m)) = some a := Option.some.inj ha
            obtain ⟨v, h1, h2⟩ := e.2 i _ q
            by_cases z : m = n
            · rw [if_pos z] at ha
              cases ha
              subst z
              obtain ⟨p', hp', rfl⟩ := h2
              rw [hp] at hp'; cases hp'
              exact ⟨_, h1, hr _ sF upd_same⟩
            · rw [if_neg z] at ha
              cases ha
              exact ⟨v, h1, h2.mono sF (List.prefix_refl _)⟩
    obtain ⟨F', as', a1, a2, a3, a4⟩ := ih h0 r' e'
    exact ⟨F', as', a1, a2, sF.trans a3, a4⟩
  | forget i g ih =>
    rename_i ρ _ S _
    intro c F as σ h0 r e
    refine ih h0 r ⟨by rw [List.length_set]; exact e.1, fun j a ha => ?_⟩
    by_cases z : j = i
    · subst z
      by_cases hl : j < ρ.length
      · rw [List.getElem?_set_self hl] at ha; cases ha
      · rw [List.getElem?_eq_none (by rw [List.length_set]; omega)] at ha; cases ha
    · rw [List.getElem?_set_ne (Ne.symm z)] at ha
      exact e.2 j a ha
  | del k hk hl hn g ih =>
    rename_i ρ _ S _
    intro c F as σ h0 r e
    have e' : EnvR K F (as.eraseIdx k) (delE k ρ) σ := by
      refine ⟨by unfold delE; rw [List.length_map]; exact e.1, fun i a ha => ?_⟩
      unfold delE at ha
      rw [List.getElem?_map] at ha
      cases q : ρ[i]? with
      | none => rw [q] at ha; cases ha
      | some o =>
        rw [q] at ha
        cases o with
        | none => cases ha
        | some b =>
          have ha : (if awA k b = true then some (dnA k b) else none) = some a := Option.some.inj ha
          by_cases z : awA k b = true
          · rw [if_pos z] at ha
            cases ha
            obtain ⟨v, h1, h2⟩ := e.2 i _ q
            exact ⟨v, h1, h2.dn z⟩
          · rw [if_neg z] at ha; cases ha
    obtain ⟨F', as', a1, a2, a3, a4⟩ := ih h0 (r.del (by omega) hl hn) e'
    exact ⟨F', as', a1, a2, a3, fun l hl' hp => a4 l hl' (pre_er hp (by omega))⟩
end
/-! ### statements -/
structure EndD where
  nx : Env → Sto → Prop
  rt : WQ
  bk : Env → Sto → Prop := fun _ _ => False
  ct : Env → Sto → Prop := fun _ _ => False
  n0 : Nat := 0
abbrev WS := EndD → Env → Sto → Prop
structure EndR (K : PySem.W.Frag) (c : Cd) (D : EndD) (Dh : Ends) : Prop where
  n0 : c.as.length ≤ D.n0
  nx : ∀ (ρ : Env) (S : Sto) (σ : L2.St) (H F : Hp) (as : List Addr), SR K c H F as S → EnvR K F as ρ σ → D.nx ρ S → Dh.nx σ H
  rt : ∀ (a : A) (v : V) (S : Sto) (H F : Hp) (as : List Addr), SR K c H F as S → RpA K F as a v → D.rt a S → Dh.rt v H
  bk : ∀ (ρ : Env) (S : Sto) (σ : L2.St) (H F : Hp) (as : List Addr), SR K c H F as S → EnvR K F as ρ σ → D.bk ρ S → Dh.bk σ H
  ct : ∀ (ρ : Env) (S : Sto) (σ : L2.St) (H F : Hp) (as : List Addr), SR K c H F as S → EnvR K F as ρ σ → D.ct ρ S → Dh.ct σ H
class UpS (K : PySem.W.Frag) (E : L2.St → XK) (X : Env → WX) (t : TS) (w : outParam WS) : Prop where
  up : ∀ c, UpX K c E X → ∀ (D : EndD) (Dh : Ends), EndR K c D Dh → ∀ (ρ : Env) (S : Sto) (σ : L2.St) (H F : Hp) (as : List Addr), SR K c H F as S → EnvR K F as ρ σ → w D ρ S → t Dh σ H
/-- a target: is the slots that are set -/
abbrev WG := A → Env → Sto → (Env → Sto → Prop) → Prop
def KtG (K : PySem.W.Frag) (c : Cd) (F : Hp) (as : List Addr) (σ : L2.St) (is : List Nat) (Q : Env → Sto → Prop) (R : L2.St → Hp → Prop) : Prop :=
  ∀ (ρ' : Env) (σ' : L2.St) (H' F' : Hp) (as' : List Addr) (S' : Sto), SR K c H' F' as' S' → Same F F' → as <+: as' → EnvR K F' as' ρ' σ' → (∀ j, j ∉ is → σ'[j]? = σ[j]?) → σ'.length = σ.length → Q ρ' S' → R σ' H'
class UpG1 (K : PySem.W.Frag) (E : L2.St → XK) (X : Env → WX) (t : TG) (w : outParam WG) (is : outParam (List Nat)) : Prop where
  up : ∀ c, UpX K c E X → ∀ (a : A) (v : V) (ρ : Env) (S : Sto) (σ : L2.St) (H F : Hp) (as : List Addr) (Q : Env → Sto → Prop) (R : L2.St → Hp → Prop), SR K c H F as S → EnvR K F as ρ σ → RpA K F as a v → w a ρ S Q → KtG K c F as σ is Q R → t v σ H R
abbrev WGs := List D → Env → Sto → (Env → Sto → Prop) → Prop
class UpGs (K : PySem.W.Frag) (E : L2.St → XK) (X : Env → WX) (t : TGs) (w : outParam WGs) (is : outParam (List Nat)) : Prop where
  up : ∀ c, UpX K c E X → ∀ (a : List D) (v : List V) (ρ : Env) (S : Sto) (σ : L2.St) (H F : Hp) (as : List Addr) (Q : Env → Sto → Prop) (R : L2.St → Hp → Prop), SR K c H F as S → EnvR K F as ρ σ → RpL K F a v → w a ρ S Q → KtG K c F as σ is Q R → t v σ H R
section
variable {K : PySem.W.Frag} {E : L2.St → XK} {X : Env → WX}
theorem EnvR.set {F : Hp} {as : List Addr} {ρ : Env} {σ : L2.St} {a : A} {v : V} (e : EnvR K F as ρ σ) (i : Nat) (h : RpA K F as a v) : EnvR K F as (ρ.set i (some a)) (σ.set i (some v)) := by
  refine ⟨by rw [List.length_set, List.length_set]; exact e.1, fun j b hb => ?_⟩
  by_cases z : i = j
  · subst z
    by_cases hl : i < ρ.length
    · rw [List.getElem?_set_self hl] at hb
      cases hb
      exact ⟨v, List.getElem?_set_self (by rw [← e.1]; exact hl), h⟩
    · rw [List.getElem?_eq_none (by rw [List.length_set]; omega)] at hb; cases hb
  · rw [List.getElem?_set_ne z] at hb ⊢
    exact e.2 j b hb
def wgName (i : Nat) : WG := fun a ρ S Q => Q (ρ.set i (some a)) S
instance {i : Nat} : UpG1 K E X (gName i) (wgName i) [i] where
  up := fun c ux a v ρ S σ H F as Q R r e ha h k => k _ _ H F as S r (Same.refl _) (List.prefix_refl _) (e.set i ha) (fun j hj => List.getElem?_set_ne (fun z => hj (by rw [z]; exact List.mem_cons_self))) (List.length_set ..) h
def wgNil : WGs := fun a ρ S Q => a = [] ∧ Q ρ S
instance : UpGs K E X gNil wgNil [] where
  up := fun c ux a v ρ S σ H F as Q R r e ha h k => by
    obtain ⟨rfl, h⟩ := h
    cases ha
    exact ⟨rfl, k _ _ H F as S r (Same.refl _) (List.prefix_refl _) e (fun _ _ => rfl) rfl h⟩
def wgCons (g : WG) (u : WGs) : WGs := fun a ρ S Q => match a with
  | x :: xs => g (.d x) ρ S fun ρ1 S1 => u xs ρ1 S1 Q
  | [] => False
instance {t : TG} {u : TGs} {g : WG} {w : WGs} {is js : List Nat} [ia : UpG1 K E X t g is] [ib : UpGs K E X u w js] : UpGs K E X (gCons t u) (wgCons g w) (is ++ js) where
  up := fun c ux a v ρ S σ H F as Q R r e ha h k => by
    cases ha with
    | nil => exact h.elim
    | cons h1 ht =>
      rename_i x xs v vs
      refine ⟨v, vs, rfl, ia.up c ux (.d x) v ρ S σ H F as _ _ r e h1 h fun ρ1 σ1 H1 F1 as1 S1 r1 s1 p1 e1 k1 l1 q1 => ?_⟩
      exact ib.up c ux xs vs ρ1 S1 σ1 H1 F1 as1 Q R r1 e1 (ht.mono s1) q1 fun ρ2 σ2 H2 F2 as2 S2 r2 s2 p2 e2 k2 l2 q2 =>
        k ρ2 σ2 H2 F2 as2 S2 r2 (s1.trans s2) (p1.trans p2) e2 (fun j hj => (k2 j fun z => hj (List.mem_append_right _ z)).trans (k1 j fun z => hj (List.mem_append_left _ z))) (l2.trans l1) q2
def wgTup (n : Nat) (w : WGs) : WG := fun a ρ S Q => match a with
  | .d (.tup xs) => xs.length = n ∧ w xs ρ S Q
  | _ => False
instance {t : TGs} {w : WGs} {n : Nat} {is : List Nat} [ia : UpGs K E X t w is] : UpG1 K E X (gTup K n t) (wgTup n w) is where
  up := fun c ux a v ρ S σ H F as Q R r e ha h k => by
    unfold wgTup at h
    split at h
    · cases ha with | tup e1 t1 =>
      exact ⟨_, _, rfl, .inl (.inl (r.fs _ _ e1)), by rw [← t1.length]; exact h.1, ia.up c ux _ _ ρ S σ H F as Q R r e t1 h.2 k⟩
    · exact h.elim
/-- xs[i] = v -/
class UpSt (K : PySem.W.Frag) (r : TSet) (w : outParam (A → A → A → Sto → (Sto → Prop) → Prop)) : Prop where
  up : ∀ (c : Cd) (S : Sto) (Q : Sto → Prop) (H F : Hp) (as : List Addr) (R : Hp → Prop) (x y z : A) (v u t : V), SR K c H F as S → RpA K F as x v → RpA K F as y u → RpA K F as z t → w x y z S Q → (∀ H' S', SR K c H' F as S' → Q S' → R H') → r v u t H R
def setLA : A → A → A → Sto → (Sto → Prop) → Prop := fun x y z S Q => match x, y with
  | .ref n, .d (.int i) => (match S[n]? with
    | some (.lst xs) => OnS (ixN xs.length i) fun j => OnS (pureA S z) fun d => Q (S.set n (.lst (xs.set j d)))
    | some (.lsR xs) => OnS (ixN xs.length i) fun j => Q (S.set n (.lsR (xs.set j z)))
    | _ => False)
  | _, _ => False
theorem RaL.set {F : Hp} {as : List Addr} {x : A} {u : V} (r : RpA K F as x u) : ∀ {xs : List A} {us : List V} (i : Nat), RaL K F as xs us → RaL K F as (xs.set i x) (us.set i u)
  | _, _, _, .nil => .nil
  | _, _, 0, .cons _ t => .cons r t
  | _, _, i + 1, .cons q t => .cons q (RaL.set r i t)
instance : UpSt K rSetL setLA where
  up := fun c S Q H F as R x y z v u t r hx hy hz q k => by
    unfold setLA at q
    split at q
    · obtain ⟨p, hp, rfl⟩ := hx
      cases hy
      split at q
      · rename_i xs ey
        obtain ⟨j, hj, d, hd, q⟩ := q
        obtain ⟨f0, ws, h1, h2⟩ := r.ob _ p _ hp ey
        exact ⟨p, ws, _, j, rfl, rfl, h1, by rw [← h2.length]; exact hj, k _ _ (r.put hp f0 (obL f0 upd_same (h2.set (pureA_ok r hz hd) j))) q⟩
      · rename_i xs ey
        obtain ⟨j, hj, q⟩ := q
        obtain ⟨f0, ws, h1, h2⟩ := r.ob _ p _ hp ey
        exact ⟨p, ws, _, j, rfl, rfl, h1, by rw [← Paired.length h2]; exact hj, k _ _ (r.put hp f0 (obR f0 upd_same (RaL.set hz j h2))) q⟩
      · exact q.elim
    · exact q.elim
def wgSub (wo wi : WE) (ws : A → A → A → Sto → (Sto → Prop) → Prop) : WG := fun a ρ S Q => wo ρ S fun x S1 => wi ρ S1 fun y S2 => ws x y a S2 fun S3 => Q ρ S3
instance {to ti : TE} {t : TSet} {wo wi : WE} {ws : A → A → A → Sto → (Sto → Prop) → Prop} [io : UpE K E X to wo] [ii : UpE K E X ti wi] [is : UpSt K t ws] : UpG1 K E X (gSub to ti t) (wgSub wo wi ws) [] where
  up := fun c ux a v ρ S σ H F as Q R r e ha h k => io.up c ux ρ S _ σ H F as _ r e h fun x vx H1 F1 as1 S1 r1 s1 p1 rx q1 =>
    ii.up c ux ρ S1 _ σ H1 F1 as1 _ r1 (e.mono s1 p1) q1 fun y vy H2 F2 as2 S2 r2 s2 p2 ry q2 =>
      is.up c S2 _ H2 F2 as2 _ x y a vx vy v r2 (rx.mono s2 p2) ry (ha.mono (s1.trans s2) (p1.trans p2)) q2 fun H3 S3 r3 q3 =>
        k ρ σ H3 F2 as2 S3 r3 (s1.trans s2) (p1.trans p2) (e.mono (s1.trans s2) (p1.trans p2)) (fun _ _ => rfl) rfl q3
/-! the plain ones -/
def wNext : WS := fun D ρ S => D.nx ρ S
def wSeq (t u : WS) : WS := fun D ρ S => t { D with nx := u D } ρ S
def wBrk : WS := fun D ρ S => D.bk ρ S
def wCont : WS := fun D ρ S => D.ct ρ S
def wDrop (we : WE) : WS := fun D ρ S => we ρ S fun _ S1 => D.nx ρ S1
def wRet (we : WE) : WS := fun D ρ S => we ρ S D.rt
def wRetN : WS := fun D ρ S => D.rt (.d .non) S
def wIfS (c : WT) (t u : WS) : WS := fun D ρ S => c ρ S fun b S1 => Br b (t D ρ S1) (u D ρ S1)
def wAsg (we : WE) (g : WG) : WS := fun D ρ S => we ρ S fun x S1 => g x ρ S1 D.nx
/-- a place where one may forget -/
def tGh (t : TS) : TS := t
def wGh (w : WS) : WS := fun D ρ S => ∃ ρ' S', Ghs D.n0 ρ S ρ' S' ∧ w D ρ' S'
instance : UpS K E X tNext wNext where
  up := fun c ux D Dh ed ρ S σ H F as r e h => ed.nx ρ S σ H F as r e h
instance : UpS K E X tBreak wBrk where
  up := fun c ux D Dh ed ρ S σ H F as r e h => ed.bk ρ S σ H F as r e h
instance : UpS K E X tCont wCont where
  up := fun c ux D Dh ed ρ S σ H F as r e h => ed.ct ρ S σ H F as r e h
instance : UpS K E X tNever (fun _ _ _ => False) where
  up := fun c ux D Dh ed ρ S σ H F as r e h => h
instance {t u : TS} {wt wu : WS} [it : UpS K E X t wt] [iu : UpS K E X u wu] : UpS K E X (tSeq t u) (wSeq wt wu) where
  up := fun c ux D Dh ed ρ S σ H F as r e h => it.up c ux { D with nx := wu D } { Dh with nx := u Dh } ⟨ed.n0, fun ρ' S' σ' H' F' as' r' e' h' => iu.up c ux D Dh ed ρ' S' σ' H' F' as' r' e' h', ed.rt, ed.bk, ed.ct⟩ ρ S σ H F as r e h
instance {t : TE} {w : WE} [ia : UpE K E X t w] : UpS K E X (tDrop t) (wDrop w) where
  up := fun c ux D Dh ed ρ S σ H F as r e h => ia.up c ux ρ S _ σ H F as _ r e h fun x v H1 F1 as1 S1 r1 s1 p1 rx q1 => ed.nx ρ S1 σ H1 F1 as1 r1 (e.mono s1 p1) q1
instance {t : TE} {w : WE} [ia : UpE K E X t w] : UpS K E X (tRet t) (wRet w) where
  up := fun c ux D Dh ed ρ S σ H F as r e h => ia.up c ux ρ S _ σ H F as _ r e h fun x v H1 F1 as1 S1 r1 s1 p1 rx q1 => ed.rt x v S1 H1 F1 as1 r1 rx q1
instance : UpS K E X tRetN wRetN where
  up := fun c ux D Dh ed ρ S σ H F as r e h => ed.rt (.d .non) .non S H F as r .non h
instance {c : TT} {t u : TS} {wc : WT} {wt wu : WS} [ic : UpT K E X c wc] [it : UpS K E X t wt] [iu : UpS K E X u wu] : UpS K E X (tIfS c t u) (wIfS wc wt wu) where
  up := fun c ux D Dh ed ρ S σ H F as r e h => ic.up c ux ρ S _ σ H F as _ r e h fun b H1 F1 as1 S1 r1 s1 p1 q1 =>
    rd_ite (fun z => it.up c ux D Dh ed ρ S1 σ H1 F1 as1 r1 (e.mono s1 p1) (q1.1 z)) (fun z => iu.up c ux D Dh ed ρ S1 σ H1 F1 as1 r1 (e.mono s1 p1) (q1.2 z))
instance {t : TE} {g : TG} {w : WE} {wg : WG} {is : List Nat} [ia : UpE K E X t w] [ig : UpG1 K E X g wg is] : UpS K E X (tAsg t g) (wAsg w wg) where
  up := fun c ux D Dh ed ρ S σ H F as r e h => ia.up c ux ρ S _ σ H F as _ r e h fun x v H1 F1 as1 S1 r1 s1 p1 rx q1 =>
    ig.up c ux x v ρ S1 σ H1 F1 as1 _ _ r1 (e.mono s1 p1) rx q1 fun ρ2 σ2 H2 F2 as2 S2 r2 s2 p2 e2 k2 l2 q2 => ed.nx ρ2 S2 σ2 H2 F2 as2 r2 e2 q2
instance {t : TS} {w : WS} [it : UpS K E X t w] : UpS K E X (tGh t) (wGh w) where
  up := fun c ux D Dh ed ρ S σ H F as r e h => by
    obtain ⟨ρ', S', g, h⟩ := h
    obtain ⟨F', as', r', e', s', _⟩ := g.ok ed.n0 r e
    exact it.up c ux D Dh ed ρ' S' σ H F' as' r' e' h
/-- a.f = e -/
def putA (f : Str) (y : A) : List (Str × A) → List (Str × A)
  | [] => [(f, y)]
  | (g, x) :: r => if g = f then (g, y) :: r else (g, x) :: putA f y r
theorem RaF.put {F : Hp} {as : List Addr} {f : Str} {y : A} {u : V} (h : RpA K F as y u) : ∀ {fs : List (Str × A)} {gs : List (Str × V)}, RaF K F as fs gs → RaF K F as (putA f y fs) (putF f u gs)
  | _, _, .nil => .cons ⟨rfl, h⟩ .nil
  | (g, x) :: r, (g', v) :: w, .cons ⟨hg, hx⟩ t => by
    cases (show g = g' from hg)
    show RaF K F as (if g = f then (g, y) :: r else (g, x) :: putA f y r) (if g = f then (g, u) :: w else (g, v) :: putF f u w)
    by_cases z : g = f
    · rw [if_pos z, if_pos z]; exact .cons ⟨rfl, h⟩ t
    · rw [if_neg z, if_neg z]; exact .cons ⟨rfl, hx⟩ (RaF.put h t)
def wFldS (Cs : List Addr) (f : Str) (wa wv : WE) : WS := fun D ρ S => wv ρ S fun y S1 => wa ρ S1 fun x S2 => match x with
  | .ref n => (match S2[n]? with
    | some (.ins C fs) => C ∈ Cs ∧ fs.length < 900 ∧ D.nx ρ (S2.set n (.ins C (putA f y fs)))
    | _ => False)
  | _ => False
instance {Cs : List Addr} {f : Str} {ta tv : TE} {wa wv : WE} [ia : UpE K E X ta wa] [iv : UpE K E X tv wv] : UpS K E X (sFldC Cs f ta tv) (wFldS Cs f wa wv) where
  up := fun c ux D Dh ed ρ S σ H F as r e h => iv.up c ux ρ S _ σ H F as _ r e h fun y vy H1 F1 as1 S1 r1 s1 p1 ry q1 =>
    ia.up c ux ρ S1 _ σ H1 F1 as1 _ r1 (e.mono s1 p1) q1 fun x vx H2 F2 as2 S2 r2 s2 p2 rx q2 => by
      split at q2
      · obtain ⟨p, hp, rfl⟩ := rx
        split at q2
        · rename_i C fs ey
          obtain ⟨hC, hl, q2⟩ := q2
          obtain ⟨f0, dx, gs, h1, h2⟩ := r2.ob _ p _ hp ey
          refine ⟨p, C, dx, gs, rfl, h1, hC, by rw [← Paired.length h2]; omega, ?_⟩
          have s12 := s1.trans s2
          have p12 := p1.trans p2
          exact ed.nx ρ _ σ _ F2 as2 (r2.put hp f0 (obI f0 upd_same (h2.put (ry.mono s2 p2)))) (e.mono s12 p12) q2
        · exact q2.elim
      · exact q2.elim
end
end VL

namespace VL
open PySem PySem.Spec PyProof.Rows L2 RX

/-! ### what is walked -/
structure WkOk (K : PySem.W.Frag) (J : It) (F1 : Hp) (as1 : List Addr) (xs : List D) (g : Sto → Prop) : Prop where
  ok : ∃ (G : Hp → Prop) (Y : Nat → Hp → V → Hp → Prop), Walk J xs.length G Y ∧
    (∀ (c : Cd) (H F : Hp) (as : List Addr) (S : Sto), SR K c H F as S → Same F1 F → as1 <+: as → g S → G H) ∧
    (∀ (c : Cd) (i : Nat) (x : D) (H : Hp) (v : V) (H' F : Hp) (as : List Addr) (S : Sto), xs[i]? = some x → SR K c H F as S → Same F1 F → as1 <+: as → g S → Y i H v H' → ∃ F', SR K c H' F' as S ∧ Same F F' ∧ Rp K F' x v)
abbrev WI := Env → Sto → (List D → (Sto → Prop) → Sto → Prop) → Prop
class UpI (K : PySem.W.Frag) (E : L2.St → XK) (X : Env → WX) (t : TI) (w : outParam WI) : Prop where
  up : ∀ c, UpX K c E X → ∀ (ρ : Env) (S : Sto) (Q : List D → (Sto → Prop) → Sto → Prop) (σ : L2.St) (H F : Hp) (as : List Addr) (R : It → Hp → Prop), SR K c H F as S → EnvR K F as ρ σ → w ρ S Q →
    (∀ (J : It) (xs : List D) (g : Sto → Prop) (H' F' : Hp) (as' : List Addr) (S' : Sto), SR K c H' F' as' S' → Same F F' → as <+: as' → WkOk K J F' as' xs g → Q xs g S' → R J H') → t σ H R
section
variable {K : PySem.W.Frag} {E : L2.St → XK} {X : Env → WX}
theorem RpL.get' {F : Hp} : ∀ {xs : List D} {vs : List V} {i : Nat} {v : V} {x : D}, RpL K F xs vs → xs[i]? = some x → vs[i]? = some v → Rp K F x v
  | xs, vs, i, v, x, h, e, e' => by
    obtain ⟨u, h1, h2⟩ := h.get e
    rw [h1] at e'; cases e'
    exact h2
theorem wk_list {F : Hp} {as : List Addr} {p : Addr} {vs : List V} {xs : List D} {g : Sto → Prop} (t : RpL K F xs vs) (h : ∀ (c : Cd) (H F' : Hp) (as' : List Addr) (S : Sto), SR K c H F' as' S → Same F F' → as <+: as' → g S → SqL K H p vs) : WkOk K (Itl K p) F as xs g :=
  ⟨_, _, by rw [t.length]; exact walk_list, h, fun c i x H v H' F' as' S hx r s p' hg y => by
    obtain ⟨rfl, y⟩ := y
    exact ⟨F', r, Same.refl _, (t.mono s).get' hx y⟩⟩
theorem wk_tup {F : Hp} {as : List Addr} {p : Addr} {vs : List V} {xs : List D} {g : Sto → Prop} (t : RpL K F xs vs) (h : ∀ (c : Cd) (H F' : Hp) (as' : List Addr) (S : Sto), SR K c H F' as' S → Same F F' → as <+: as' → g S → SqT K H p vs) : WkOk K (Itt K p) F as xs g :=
  ⟨_, _, by rw [t.length]; exact walk_tup, h, fun c i x H v H' F' as' S hx r s p' hg y => by
    obtain ⟨rfl, y⟩ := y
    exact ⟨F', r, Same.refl _, (t.mono s).get' hx y⟩⟩
/-- sign by sign -/
def sgs (z : Str) : List D := z.cps.toList.map fun c => D.str ⟨#[c]⟩
theorem wk_str {F : Hp} {as : List Addr} {z : Str} (cp : Cp z) : WkOk K (Its z) F as (sgs z) (fun _ => True) := by
  have hw : Walk (Its z) (sgs z).length (fun _ => True) (fun i H v H' => H' = H ∧ ∃ c, z.cps[i]? = some c ∧ v = .str ⟨#[c]⟩) := by
    rw [show (sgs z).length = z.cps.size by unfold sgs; rw [List.length_map, Array.length_toList]]
    exact walk_str
  refine ⟨_, _, hw, fun _ _ _ _ _ _ _ _ _ => trivial, fun c i x H v H' F' as' S hx r s p' hg y => ?_⟩
  obtain ⟨rfl, d, hd, rfl⟩ := y
  have hd' : z.cps.toList[i]? = some d := by rw [Array.getElem?_toList]; exact hd
  unfold sgs at hx
  rw [List.getElem?_map, hd'] at hx
  cases hx
  exact ⟨F', r, Same.refl _, .str (cp.one (List.mem_of_getElem? hd'))⟩
/-- for x in e -/
def wSeqI (wa : WE) : WI := fun ρ S Q => wa ρ S fun x S1 => match x with
  | .d (.lst xs) => Q xs (fun _ => True) S1
  | .d (.scr xs) => Q xs (fun _ => True) S1
  | .d (.tup xs) => Q xs (fun _ => True) S1
  | .d (.str z) => Q (sgs z) (fun _ => True) S1
  | .ref n => (match S1[n]? with
    | some (.lst xs) => Q xs (fun S' => S'[n]? = some (.lst xs)) S1
    | some (.fz (.lst xs)) => Q xs (fun _ => True) S1
    | _ => False)
  | _ => False
instance {t : TE} {w : WE} [ia : UpE K E X t w] : UpI K E X (iSeqU K t) (wSeqI w) where
  up := fun c ux ρ S Q σ H F as R r e h k => ia.up c ux ρ S _ σ H F as _ r e h fun x v H1 F1 as1 S1 r1 s1 p1 rx q => by
    split at q
    · cases rx with | lst e1 t1 =>
      exact .inl ⟨_, .inl (.inl (r1.fs _ _ e1)), k _ _ _ _ _ _ _ r1 s1 p1 (wk_list t1 fun c H F' as' S r s p _ => .inl (.inl (r.fs _ _ (s _ _ e1)))) q⟩
    · cases rx with | scr e1 t1 =>
      exact .inl ⟨_, Same.seq r1.fs e1, k _ _ _ _ _ _ _ r1 s1 p1 (wk_list t1 fun c H F' as' S r s p _ => Same.seq r.fs (Same.seq s e1)) q⟩
    · cases rx with | tup e1 t1 =>
      exact .inr ⟨_, .inl (.inl (r1.fs _ _ e1)), k _ _ _ _ _ _ _ r1 s1 p1 (wk_tup t1 fun c H F' as' S r s p _ => .inl (.inl (r.fs _ _ (s _ _ e1)))) q⟩
    · rename_i z
      cases rx with | str cp =>
      exact k _ _ _ _ _ _ _ r1 s1 p1 (wk_str cp) q
    · rename_i n
      obtain ⟨p, hp, rfl⟩ := rx
      split at q
      · rename_i xs ey
        obtain ⟨f0, vs, h1, h2⟩ := r1.ob _ p _ hp ey
        refine .inl ⟨vs, .inl (.inl h1), k _ _ _ _ _ _ _ r1 s1 p1 (⟨fun H => ∃ ws, SqL K H p ws ∧ ws.length = xs.length, fun i H v H' => H' = H ∧ ∀ ws, SqL K H p ws → ws[i]? = some v, ⟨fun i H hi hG => ?_, fun H hG => ?_, fun i H v H' hi hG y => y⟩, fun c H F' as' S r s p' hg => ?_, fun c i x H v H' F' as' S hx r s p' hg y => ?_⟩ : WkOk K (Itl K p) F1 as1 xs _) q⟩
        · obtain ⟨ws, e1, e2⟩ := hG
          exact ⟨ws, ws[i]'(by omega), e1, by simp⟩
        · obtain ⟨ws, e1, e2⟩ := hG
          exact ⟨ws, e1, by omega⟩
        · obtain ⟨_, ws, e1, e2⟩ := r.ob n p _ (pre_get p' hp) hg
          exact ⟨ws, .inl (.inl e1), e2.length.symm⟩
        · obtain ⟨rfl, y⟩ := y
          obtain ⟨_, ws, e1, e2⟩ := r.ob n p _ (pre_get p' hp) hg
          exact ⟨F', r, Same.refl _, e2.get' hx (y ws (.inl (.inl e1)))⟩
      · rename_i xs ey
        obtain ⟨_, h2⟩ := r1.ob _ p _ hp ey
        cases h2 with | lst e1 t1 =>
        exact .inl ⟨_, .inl (.inl (r1.fs _ _ e1)), k _ _ _ _ _ _ _ r1 s1 p1 (wk_list t1 fun c H F' as' S r s p _ => .inl (.inl (r.fs _ _ (s _ _ e1)))) q⟩
      · exact q.elim
    · exact q.elim
/-- range -/
def rng (lo : Int) (n : Nat) : List D := (List.range n).map fun (i : Nat) => D.int (lo + i)
theorem wk_rng {F : Hp} {as : List Addr} {lo : Int} {n : Nat} : WkOk K (Itr lo n) F as (rng lo n) (fun _ => True) := by
  have hw : Walk (Itr lo n) (rng lo n).length (fun _ => True) (YFn fun i => .int (lo + i)) := by
    rw [show (rng lo n).length = n by unfold rng; rw [List.length_map, List.length_range]]
    exact walk_range
  refine ⟨_, _, hw, fun _ _ _ _ _ _ _ _ _ => trivial, fun c i x H v H' F' as' S hx r s p' hg y => ?_⟩
  obtain ⟨rfl, rfl⟩ := y
  unfold rng at hx
  rw [List.getElem?_map] at hx
  cases q : (List.range n)[i]? with
  | none => rw [q] at hx; cases hx
  | some j =>
    rw [q] at hx
    obtain ⟨h1, h2⟩ := List.getElem?_eq_some_iff.mp q
    rw [List.getElem_range] at h2
    subst h2
    cases hx
    exact ⟨F', r, Same.refl _, .int _⟩
def wRng1 (wa : WA) : WI := fun ρ S Q => wa ρ S fun xs S1 => one (asI fun j => -(2 ^ 62) ≤ j ∧ j < 2 ^ 62 ∧ Q (rng 0 j.toNat) (fun _ => True) S1) xs
def wRng2 (wa : WA) : WI := fun ρ S Q => wa ρ S fun xs S1 => two (asII fun i j => (-(2 ^ 62) ≤ i ∧ i < 2 ^ 62 ∧ -(2 ^ 62) ≤ j ∧ j < 2 ^ 62) ∧ Q (rng i (j - i).toNat) (fun _ => True) S1) xs
instance {t : TA} {w : WA} [ia : UpA K E X t w] : UpI K E X (iRng1 t) (wRng1 w) where
  up := fun c ux ρ S Q σ H F as R r e h k => ia.up c ux ρ S _ σ H F as _ r e h fun xs vs H1 F1 as1 S1 r1 s1 p1 rx q => by
    obtain ⟨x, v, rfl, hx, q⟩ := one_ok rx q
    obtain ⟨i, rfl, q1, q2, q3⟩ := asI_ok hx q
    exact ⟨i, rfl, q1, q2, k _ _ _ _ _ _ _ r1 s1 p1 wk_rng q3⟩
instance {t : TA} {w : WA} [ia : UpA K E X t w] : UpI K E X (iRng2 t) (wRng2 w) where
  up := fun c ux ρ S Q σ H F as R r e h k => ia.up c ux ρ S _ σ H F as _ r e h fun xs vs H1 F1 as1 S1 r1 s1 p1 rx q => by
    obtain ⟨x, y, v, w, rfl, hx, hy, q⟩ := two_ok rx q
    obtain ⟨i, j, rfl, rfl, q1, q3⟩ := asII_ok hx hy q
    exact ⟨i, j, rfl, q1, k _ _ _ _ _ _ _ r1 s1 p1 wk_rng q3⟩
/-! pairs -/
theorem SR.pair {c : Cd} {H F : Hp} {as : List Addr} {S : Sto} (r : SR K c H F as S) {T : Addr} {v w : V} {x y : D} (hT : H T = none) (hx : Rp K F x v) (hy : Rp K F y w) : ∃ F', SR K c (upd H T (.tup [v, w])) F' as S ∧ Same F F' ∧ Rp K F' (.tup [x, y]) (.ref T) := by
  obtain ⟨r', s⟩ := r.newD (o := .tup [v, w]) hT
  exact ⟨_, r', s, .tup upd_same (.cons (hx.mono s) (.cons (hy.mono s) .nil))⟩
def enumD (xs : List D) : List D := xs.zipIdx.map fun p => D.tup [.int (p.2 : Nat), p.1]
theorem enumD_get {xs : List D} {i : Nat} {z : D} (h : (enumD xs)[i]? = some z) : ∃ x, xs[i]? = some x ∧ z = .tup [.int (i : Nat), x] := by
  unfold enumD at h
  rw [List.getElem?_map, List.getElem?_zipIdx] at h
  cases q : xs[i]? with
  | none => rw [q] at h; cases h
  | some x => rw [q] at h; cases h; exact ⟨x, rfl, by simp⟩
theorem enumD_len {xs : List D} : (enumD xs).length = xs.length := by unfold enumD; rw [List.length_map, List.length_zipIdx]
theorem wk_enum {F : Hp} {as : List Addr} {p : Addr} {vs : List V} {xs : List D} {g : Sto → Prop} (t : RpL K F xs vs) (h : ∀ (c : Cd) (H F' : Hp) (as' : List Addr) (S : Sto), SR K c H F' as' S → Same F F' → as <+: as' → g S → SqL K H p vs) : WkOk K (Ite K p) F as (enumD xs) g := by
  have hw : Walk (Ite K p) (enumD xs).length (fun H => SqL K H p vs) (YPair (fun i => some (.int (i : Nat))) (fun i => vs[i]?)) := by
    rw [enumD_len, t.length]; exact walk_enum
  refine ⟨_, _, hw, h, fun c i x H v H' F' as' S hx r s p' hg y => ?_⟩
  obtain ⟨T, a, b, rfl, hT, rfl, ha, hb⟩ := y
  obtain ⟨x, ex, rfl⟩ := enumD_get hx
  cases ha
  exact r.pair hT (.int _) ((t.mono s).get' ex hb)
theorem wk_enumT {F : Hp} {as : List Addr} {p : Addr} {vs : List V} {xs : List D} {g : Sto → Prop} (t : RpL K F xs vs) (h : ∀ (c : Cd) (H F' : Hp) (as' : List Addr) (S : Sto), SR K c H F' as' S → Same F F' → as <+: as' → g S → SqT K H p vs) : WkOk K (Itet K p) F as (enumD xs) g := by
  have hw : Walk (Itet K p) (enumD xs).length (fun H => SqT K H p vs) (YPair (fun i => some (.int (i : Nat))) (fun i => vs[i]?)) := by
    rw [enumD_len, t.length]; exact walk_enumT
  refine ⟨_, _, hw, h, fun c i x H v H' F' as' S hx r s p' hg y => ?_⟩
  obtain ⟨T, a, b, rfl, hT, rfl, ha, hb⟩ := y
  obtain ⟨x, ex, rfl⟩ := enumD_get hx
  cases ha
  exact r.pair hT (.int _) ((t.mono s).get' ex hb)
/-- enumerate over data -/
def wEnum (wa : WA) : WI := fun ρ S Q => wa ρ S fun xs S1 => one (fun x => (match x with
  | .d (.lst xs) => Q (enumD xs) (fun _ => True) S1
  | _ => False)) xs
def wEnumT (wa : WA) : WI := fun ρ S Q => wa ρ S fun xs S1 => one (fun x => (match x with
  | .d (.tup xs) => Q (enumD xs) (fun _ => True) S1
  | _ => False)) xs
instance {t : TA} {w : WA} [ia : UpA K E X t w] : UpI K E X (iEnum K t) (wEnum w) where
  up := fun c ux ρ S Q σ H F as R r e h k => ia.up c ux ρ S _ σ H F as _ r e h fun xs vs H1 F1 as1 S1 r1 s1 p1 rx q => by
    obtain ⟨x, v, rfl, hx, q⟩ := one_ok rx q
    split at q
    · cases hx with | lst e1 t1 =>
      exact ⟨_, _, rfl, .inl (.inl (r1.fs _ _ e1)), k _ _ _ _ _ _ _ r1 s1 p1 (wk_enum t1 fun c H F' as' S r s p _ => .inl (.inl (r.fs _ _ (s _ _ e1)))) q⟩
    · exact q.elim
instance {t : TA} {w : WA} [ia : UpA K E X t w] : UpI K E X (iEnumT K t) (wEnumT w) where
  up := fun c ux ρ S Q σ H F as R r e h k => ia.up c ux ρ S _ σ H F as _ r e h fun xs vs H1 F1 as1 S1 r1 s1 p1 rx q => by
    obtain ⟨x, v, rfl, hx, q⟩ := one_ok rx q
    split at q
    · cases hx with | tup e1 t1 =>
      exact ⟨_, _, rfl, .inl (.inl (r1.fs _ _ e1)), k _ _ _ _ _ _ _ r1 s1 p1 (wk_enumT t1 fun c H F' as' S r s p _ => .inl (.inl (r.fs _ _ (s _ _ e1)))) q⟩
    · exact q.elim
instance {t u : TI} {wa wb : WI} [ia : UpI K E X t wa] [ib : UpI K E X u wb] : UpI K E X (fun σ H R => t σ H R ∨ u σ H R) (fun ρ S Q => wa ρ S Q ∨ wb ρ S Q) where
  up := fun c ux ρ S Q σ H F as R r e h k => h.imp (fun h => ia.up c ux ρ S Q σ H F as R r e h k) fun h => ib.up c ux ρ S Q σ H F as R r e h k
/-! ### for -/
/-- the same, from a later place -/
def Cd.at (c : Cd) (F : Hp) (as : List Addr) : Cd := ⟨c.B, F, as⟩
theorem SR.toAt {c : Cd} {H F : Hp} {as : List Addr} {S : Sto} (r : SR K c H F as S) : SR K (c.at F as) H F as S := ⟨r.len, r.nd, r.fs, r.bs, r.bf, r.ba, r.ob, Same.refl _, List.prefix_refl _, fun n a hn h => by
  have := (List.getElem?_eq_some_iff.mp h).1
  exact absurd (show as.length ≤ n from hn) (by omega)⟩
/-- from a later context to an earlier one -/
theorem SR.weak {c c' : Cd} {H1 F1 : Hp} {as1 : List Addr} {S1 : Sto} {H F : Hp} {as : List Addr} {S : Sto} (r1 : SR K c H1 F1 as1 S1) (r : SR K c' H F as S) (hF : c'.F = F1) (hA : c'.as = as1) (hb : ∀ a, c'.B a = none → c.B a = none) (hb' : Same c.B H) : SR K c H F as S := by
  refine ⟨r.len, r.nd, r.fs, hb', fun a => (r.bf a).imp (hb a) id, fun n a h => hb a (r.ba n a h), r.ob, r1.f0.trans (hF ▸ r.f0), r1.a0.trans (hA ▸ r.a0), fun n a hn h => ?_⟩
  by_cases z : n < as1.length
  · have p : as1 <+: as := hA ▸ r.a0
    obtain ⟨t, e⟩ := p
    rw [← e, List.getElem?_append_left z] at h
    exact r1.nw n a hn h
  · have h2 := r.nw n a (by rw [hA]; omega) h
    rw [hF] at h2
    cases q : c.F a with
    | none => rfl
    | some o => rw [r1.f0 _ _ q] at h2; cases h2
theorem SR.ofAt {c : Cd} {H1 F1 H F : Hp} {as1 as : List Addr} {S1 S : Sto} (r1 : SR K c H1 F1 as1 S1) (r : SR K (c.at F1 as1) H F as S) : SR K c H F as S := r1.weak r rfl rfl (fun _ h => h) r.bs
theorem UpX.at {c : Cd} {H1 F1 : Hp} {as1 : List Addr} {S1 : Sto} (u : UpX K c E X) (r1 : SR K c H1 F1 as1 S1) : UpX K (c.at F1 as1) E X :=
  ⟨fun ρ σ C dd fs gs H F as S r => u.dct ρ σ C dd fs gs H F as S (r1.ofAt r), fun ρ σ C H F as S r => u.non ρ σ C H F as S (r1.ofAt r)⟩
/-- Inv by the turn; behind a turn one may forget what came in it -/
inductive Fin (n0 : Nat) (P : Env → Sto → Prop) (ρ : Env) (S : Sto) : Prop
  | mk (ρ' : Env) (S' : Sto) (g : Ghs n0 ρ S ρ' S') (h : P ρ' S')
theorem Fin.now {n0 : Nat} {P : Env → Sto → Prop} {ρ : Env} {S : Sto} (h : P ρ S) : Fin n0 P ρ S := ⟨ρ, S, .refl _ _, h⟩
structure ForP (xs : List D) (gd : Sto → Prop) (g : WG) (b : WS) (D : EndD) (ρ : Env) (S1 : Sto) : Prop where
  ex : ∃ Inv : Nat → Env → Sto → Prop, Inv 0 ρ S1 ∧
    (∀ i x ρ' S', xs[i]? = some x → Inv i ρ' S' → gd S' ∧ g (.d x) ρ' S' fun ρ2 S2 => b { D with nx := Fin S1.length (Inv (i + 1)), ct := Fin S1.length (Inv (i + 1)), bk := D.nx, n0 := S1.length } ρ2 S2) ∧
    (∀ ρ' S', Inv xs.length ρ' S' → gd S' ∧ D.nx ρ' S')
def wFor (wi : WI) (g : WG) (b : WS) : WS := fun D ρ S => wi ρ S fun xs gd S1 => ForP xs gd g b D ρ S1
instance {ti : TI} {g : TG} {tb : TS} {wi : WI} {wg : WG} {wb : WS} {is : List Nat} [ii : UpI K E X ti wi] [ig : UpG1 K E X g wg is] [ib : UpS K E X tb wb] : UpS K E X (tFor ti g tb) (wFor wi wg wb) where
  up := fun c ux D Dh ed ρ S σ H F as r e h => ii.up c ux ρ S _ σ H F as _ r e h fun J xs gd H1 F1 as1 S1 r1 s1 p1 wk q => by
    obtain ⟨Inv, i0, hs, hd⟩ := q.ex
    obtain ⟨G, Y, hw, hG, hY⟩ := wk.ok
    have ux' := ux.at r1
    refine for_it hw (fun i σ H => ∃ ρ S F as, SR K (c.at F1 as1) H F as S ∧ EnvR K F as ρ σ ∧ Inv i ρ S) ⟨ρ, S1, F1, as1, r1.toAt, e.mono s1 p1, i0⟩ ?_ ?_ ?_
    · rintro i σ' H' hi ⟨ρ', S', F', as', r', e', iv⟩
      by_cases z : i < xs.length
      · exact hG _ H' F' as' S' r' r'.f0 r'.a0 (hs i xs[i] ρ' S' (List.getElem?_eq_getElem z) iv).1
      · have : i = xs.length := by omega
        subst this
        exact hG _ H' F' as' S' r' r'.f0 r'.a0 (hd ρ' S' iv).1
    · rintro i v σ' H' H2 hi ⟨ρ', S', F', as', r', e', iv⟩ y
      obtain ⟨hg, st⟩ := hs i xs[i] ρ' S' (List.getElem?_eq_getElem hi) iv
      obtain ⟨F2, r2, s2, rx⟩ := hY _ i xs[i] H' v H2 F' as' S' (List.getElem?_eq_getElem hi) r' r'.f0 r'.a0 hg y
      refine ig.up _ ux' (.d xs[i]) v ρ' S' σ' H2 F2 as' _ _ r2 (e'.mono s2 (List.prefix_refl _)) rx st fun ρ3 σ3 H3 F3 as3 S3 r3 s3 p3 e3 _ _ q3 => ?_
      have fin : ∀ (ρ : Env) (S : Sto) (σ : L2.St) (H F : Hp) (as : List Addr), SR K (c.at F1 as1) H F as S → EnvR K F as ρ σ → Fin S1.length (Inv (i + 1)) ρ S → ∃ ρ S F as, SR K (c.at F1 as1) H F as S ∧ EnvR K F as ρ σ ∧ Inv (i + 1) ρ S := by
        rintro ρ S σ H F as r e ⟨ρ', S', g, iv⟩
        obtain ⟨F', as', r', e', _, _⟩ := g.ok (by show as1.length ≤ S1.length; rw [r1.len]; exact Nat.le_refl _) r e
        exact ⟨ρ', S', F', as', r', e', iv⟩
      refine ib.up _ ux' _ _ ?_ ρ3 S3 σ3 H3 F3 as3 r3 e3 q3
      refine ⟨?_, fin, fun a v S H F as r ra q => ed.rt a v S H F as (r1.ofAt r) ra q, fun ρ S σ H F as r e q => ed.nx ρ S σ H F as (r1.ofAt r) e q, fin⟩
      show as1.length ≤ S1.length
      rw [r1.len]
      exact Nat.le_refl _
    · rintro σ' H' ⟨ρ', S', F', as', r', e', iv⟩
      exact ed.nx ρ' S' σ' H' F' as' (r1.ofAt r') e' (hd ρ' S' iv).2
/-! ### while -/
structure WhileP (wt : WT) (b : WS) (D : EndD) (ρ : Env) (S : Sto) : Prop where
  ex : ∃ Inv : Nat → Env → Sto → Prop, (∃ m, Inv m ρ S) ∧ ∀ m ρ' S', Inv m ρ' S' → wt ρ' S' fun k S1 => Br k (b { D with nx := Fin S.length (fun ρ2 S2 => ∃ m', m' < m ∧ Inv m' ρ2 S2), ct := Fin S.length (fun ρ2 S2 => ∃ m', m' < m ∧ Inv m' ρ2 S2), bk := D.nx, n0 := S.length } ρ' S1) (D.nx ρ' S1)
def wWhile (wt : WT) (b : WS) : WS := fun D ρ S => WhileP wt b D ρ S
instance {tt : TT} {tb : TS} {wt : WT} {wb : WS} [it : UpT K E X tt wt] [ib : UpS K E X tb wb] : UpS K E X (tWhile tt tb) (wWhile wt wb) where
  up := fun c ux D Dh ed ρ S σ H F as r e h => by
    obtain ⟨Inv, ⟨m0, i0⟩, step⟩ := h.ex
    have ux' := ux.at r
    refine ⟨fun m σ H => ∃ ρ S F' as', SR K (c.at F as) H F' as' S ∧ EnvR K F' as' ρ σ ∧ Inv m ρ S, ⟨m0, ρ, S, F, as, r.toAt, e, i0⟩, ?_⟩
    rintro m σ1 H1 ⟨ρ1, S1, F1, as1, r1, e1, iv⟩
    refine it.up _ ux' ρ1 S1 _ σ1 H1 F1 as1 _ r1 e1 (step m ρ1 S1 iv) fun k H2 F2 as2 S2 r2 s2 p2 q => ?_
    refine rd_ite (fun z => ?_) (fun z => ?_)
    · have fin : ∀ (ρ' : Env) (S' : Sto) (σ' : L2.St) (H' F' : Hp) (as' : List Addr), SR K (c.at F as) H' F' as' S' → EnvR K F' as' ρ' σ' → Fin S.length (fun ρ2 S2 => ∃ m', m' < m ∧ Inv m' ρ2 S2) ρ' S' → ∃ m', m' < m ∧ ∃ ρ S F' as', SR K (c.at F as) H' F' as' S ∧ EnvR K F' as' ρ σ' ∧ Inv m' ρ S := by
        rintro ρ' S' σ' H' F' as' r' e' ⟨ρ3, S3, g, m', hm, iv⟩
        obtain ⟨F3, as3, r3, e3, _, _⟩ := g.ok (by show as.length ≤ S.length; rw [r.len]; exact Nat.le_refl _) r' e'
        exact ⟨m', hm, ρ3, S3, F3, as3, r3, e3, iv⟩
      refine ⟨fun σ' H' => ∃ m', m' < m ∧ ∃ ρ S F' as', SR K (c.at F as) H' F' as' S ∧ EnvR K F' as' ρ σ' ∧ Inv m' ρ S, fun _ _ h => h, ?_⟩
      refine ib.up _ ux' _ _ ?_ ρ1 S2 σ1 H2 F2 as2 r2 (e1.mono s2 p2) (q.1 z)
      refine ⟨?_, fin, fun a v S H F as r' ra q => ed.rt a v S H F as (r.ofAt r') ra q, fun ρ S σ H F as r' e q => ed.nx ρ S σ H F as (r.ofAt r') e q, fin⟩
      show as.length ≤ S.length
      rw [r.len]
      exact Nat.le_refl _
    · exact ed.nx ρ1 S2 σ1 H2 F2 as2 (r.ofAt r2) (e1.mono s2 p2) (q.2 z)
/-! ### comprehensions -/
def wipeE (ρ : Env) : List Nat → Env
  | [] => ρ
  | v :: vs => (wipeE ρ vs).set v none
theorem wipeE_len (ρ : Env) : ∀ vs : List Nat, (wipeE ρ vs).length = ρ.length
  | [] => rfl
  | v :: vs => by rw [wipeE, List.length_set, wipeE_len ρ vs]
theorem EnvR.non {F : Hp} {as : List Addr} {ρ : Env} {σ : L2.St} (e : EnvR K F as ρ σ) (i : Nat) (o : Option V) : EnvR K F as (ρ.set i none) (σ.set i o) := by
  refine ⟨by rw [List.length_set, List.length_set]; exact e.1, fun j b hb => ?_⟩
  by_cases z : i = j
  · subst z
    by_cases hl : i < ρ.length
    · rw [List.getElem?_set_self hl] at hb; cases hb
    · rw [List.getElem?_eq_none (by rw [List.length_set]; omega)] at hb; cases hb
  · rw [List.getElem?_set_ne z] at hb ⊢
    exact e.2 j b hb
theorem EnvR.wipe {F : Hp} {as : List Addr} {ρ : Env} {σ : L2.St} (e : EnvR K F as ρ σ) : ∀ vs : List Nat, EnvR K F as (wipeE ρ vs) (L2.wipe σ vs)
  | [] => e
  | v :: vs => (EnvR.wipe e vs).non v none
theorem wipe_get {σ : L2.St} : ∀ {vs : List Nat} {j : Nat}, j ∉ vs → (L2.wipe σ vs)[j]? = σ[j]?
  | [], _, _ => rfl
  | v :: vs, j, h => by
    rw [L2.wipe, List.getElem?_set_ne fun z => h (by rw [z]; exact List.mem_cons_self)]
    exact wipe_get fun z => h (List.mem_cons_of_mem _ z)
theorem wipe_at {σ : L2.St} : ∀ {vs : List Nat} {j : Nat}, j ∈ vs → j < σ.length → (L2.wipe σ vs)[j]? = some none
  | v :: vs, j, h, hl => by
    rw [L2.wipe]
    by_cases z : v = j
    · subst z; rw [List.getElem?_set_self (by rw [wipe_length]; exact hl)]
    · rw [List.getElem?_set_ne z]
      exact wipe_at ((List.mem_cons.mp h).resolve_left fun q => z q.symm) hl
theorem wipe_eq {σ σ2 : L2.St} {vs is : List Nat} (hi : ∀ j ∈ is, j ∈ vs) (hk : ∀ j, j ∉ is → σ2[j]? = (L2.wipe σ vs)[j]?) (hl : σ2.length = (L2.wipe σ vs).length) : L2.wipe σ2 vs = L2.wipe σ vs := by
  have hl' : σ2.length = σ.length := by rw [hl, wipe_length]
  refine List.ext_getElem? fun j => ?_
  by_cases h : j ∈ vs
  · by_cases z : j < σ.length
    · rw [wipe_at h z, wipe_at h (by omega)]
    · rw [List.getElem?_eq_none (by rw [wipe_length]; omega), List.getElem?_eq_none (by rw [wipe_length]; omega)]
  · rw [wipe_get h, hk j fun q => h (hi j q)]
structure LcP (xs : List D) (gd : Sto → Prop) (g : WG) (is : List Nat) (wt : WT) (we : WE) (vs : List Nat) (ρ : Env) (S1 : Sto) (Q : WQ) : Prop where
  ex : is.all (fun i => vs.contains i) = true ∧ xs.length < 1000000 ∧ ∃ Inv : Nat → List D → Sto → Prop, Inv 0 [] S1 ∧
    (∀ i x acc S', xs[i]? = some x → Inv i acc S' → gd S' ∧ g (.d x) (wipeE ρ vs) S' fun ρ2 S2 => wt ρ2 S2 fun b S3 => Br b (we ρ2 S3 fun y S4 => OnS (pureA S4 y) fun d => Fin S1.length (fun _ S5 => Inv (i + 1) (acc ++ [d]) S5) [] S4) (Fin S1.length (fun _ S5 => Inv (i + 1) acc S5) [] S3)) ∧
    (∀ acc S', Inv xs.length acc S' → gd S' ∧ Q (.d (.lst acc)) S')
def wLc (wi : WI) (g : WG) (is : List Nat) (wt : WT) (we : WE) (vs : List Nat) : WE := fun ρ S Q => wi ρ S fun xs gd S1 => LcP xs gd g is wt we vs ρ S1 Q
/-- with the new list kept -/
def Cd.lc (c : Cd) (F : Hp) (as : List Addr) (L : Addr) (vs : List V) : Cd := ⟨upd c.B L (.lst vs), F, as⟩
theorem EnvR.nil {F : Hp} {as : List Addr} : EnvR K F as [] [] := ⟨rfl, fun i a h => by cases h⟩
theorem SR.toLc {c : Cd} {H F F0 : Hp} {as as0 : List Addr} {S : Sto} {L : Addr} {vs : List V} (r : SR K c H F as S) (hL : H L = some (.lst vs)) (hF : F L = none) (hA : L ∉ as) (f0 : F0 = F) (a0 : as0 = as) : SR K (c.lc F0 as0 L vs) H F as S := by
  subst f0 a0
  refine ⟨r.len, r.nd, r.fs, fun a u e => ?_, fun a => ?_, fun n a h => ?_, r.ob, Same.refl _, List.prefix_refl _, fun n a hn h => absurd (show as0.length ≤ n from hn) (by have := (List.getElem?_eq_some_iff.mp h).1; omega)⟩
  · by_cases z : a = L
    · subst z; rw [show (c.lc F0 as0 a vs).B = upd c.B a (.lst vs) from rfl, upd_same] at e; cases e; exact hL
    · rw [show (c.lc F0 as0 L vs).B = upd c.B L (.lst vs) from rfl, upd_ne z] at e; exact r.bs _ _ e
  · by_cases z : a = L
    · subst z; exact .inr (.inl hF)
    · rw [show (c.lc F0 as0 L vs).B = upd c.B L (.lst vs) from rfl, upd_ne z]; exact r.bf a
  · have z : a ≠ L := fun e => hA (e ▸ List.mem_of_getElem? h)
    rw [show (c.lc F0 as0 L vs).B = upd c.B L (.lst vs) from rfl, upd_ne z]; exact r.ba n a h
theorem SR.ofLc {c : Cd} {H F H0 F0 : Hp} {as as0 : List Addr} {S S0 : Sto} {L : Addr} {vs : List V} (r1 : SR K c H0 F0 as0 S0) (r : SR K (c.lc F0 as0 L vs) H F as S) (hB : c.B L = none) : SR K c H F as S ∧ H L = some (.lst vs) ∧ F L = none ∧ L ∉ as := by
  have hL : (c.lc F0 as0 L vs).B L = some (.lst vs) := upd_same
  refine ⟨r1.weak r rfl rfl (fun a h => ?_) (fun a u e => ?_), r.bs _ _ hL, r.bfn hL (fun _ z => by cases z), fun m => ?_⟩
  · by_cases z : a = L
    · subst z; exact hB
    · rw [show (c.lc F0 as0 L vs).B = upd c.B L (.lst vs) from rfl, upd_ne z] at h; exact h
  · by_cases z : a = L
    · subst z; rw [hB] at e; cases e
    · exact r.bs a u (by rw [show (c.lc F0 as0 L vs).B = upd c.B L (.lst vs) from rfl, upd_ne z]; exact e)
  · obtain ⟨n, h⟩ := List.getElem?_of_mem m
    have := r.ba n L h
    rw [hL] at this; cases this
/-- the kept list gets an item -/
theorem SR.stepLc {c : Cd} {H F F0 : Hp} {as as0 : List Addr} {S : Sto} {L : Addr} {vs ws : List V} (r : SR K (c.lc F0 as0 L vs) H F as S) (hB : c.B L = none) : SR K (c.lc F0 as0 L ws) (upd H L (.lst ws)) F as S := by
  have hL : (c.lc F0 as0 L vs).B L = some (.lst vs) := upd_same
  have hF : F L = none := r.bfn hL (fun _ z => by cases z)
  have hA : ∀ (n : Nat) (a : Addr), as[n]? = some a → a ≠ L := fun n a h z => by
    subst z
    have := r.ba n a h
    rw [hL] at this; cases this
  refine ⟨r.len, r.nd, fun a u e => ?_, fun a u e => ?_, fun a => ?_, fun n a h => ?_, fun n a o h1 h2 => ?_, r.f0, r.a0, r.nw⟩
  · rw [upd_ne (ne_of_none e hF)]; exact r.fs _ _ e
  · by_cases z : a = L
    · subst z; rw [show (c.lc F0 as0 a ws).B = upd c.B a (.lst ws) from rfl, upd_same] at e; cases e; rw [upd_same]
    · rw [show (c.lc F0 as0 L ws).B = upd c.B L (.lst ws) from rfl, upd_ne z] at e
      rw [upd_ne z]
      exact r.bs a u (by rw [show (c.lc F0 as0 L vs).B = upd c.B L (.lst vs) from rfl, upd_ne z]; exact e)
  · by_cases z : a = L
    · subst z; exact .inr (.inl hF)
    · have := r.bf a
      rw [show (c.lc F0 as0 L vs).B = upd c.B L (.lst vs) from rfl, upd_ne z] at this
      rw [show (c.lc F0 as0 L ws).B = upd c.B L (.lst ws) from rfl, upd_ne z]; exact this
  · have := r.ba n a h
    have z := hA n a h
    rw [show (c.lc F0 as0 L vs).B = upd c.B L (.lst vs) from rfl, upd_ne z] at this
    rw [show (c.lc F0 as0 L ws).B = upd c.B L (.lst ws) from rfl, upd_ne z]; exact this
  · have z := hA n a h1
    exact (r.ob n a o h1 h2).mono (Same.refl _) (List.prefix_refl _) (fun e => e) (fun _ => by rw [upd_ne z])
theorem UpX.lc {c : Cd} {H0 F0 : Hp} {as0 : List Addr} {S0 : Sto} {L : Addr} {vs : List V} (u : UpX K c E X) (r1 : SR K c H0 F0 as0 S0) (hB : c.B L = none) : UpX K (c.lc F0 as0 L vs) E X :=
  ⟨fun ρ σ C dd fs gs H F as S r => u.dct ρ σ C dd fs gs H F as S (r1.ofLc r hB).1, fun ρ σ C H F as S r => u.non ρ σ C H F as S (r1.ofLc r hB).1⟩
instance {ti : TI} {g : TG} {tt : TT} {te : TE} {vs : List Nat} {wi : WI} {wg : WG} {wt : WT} {we : WE} {is : List Nat} [ii : UpI K E X ti wi] [ig : UpG1 K E X g wg is] [it : UpT K E X tt wt] [ie : UpE K E X te we] : UpE K E X (tLc ti g tt te vs) (wLc wi wg is wt we vs) where
  up := fun c ux ρ S Q σ H F as R r e h k => ii.up c ux ρ S _ σ H F as _ r e h fun J xs gd H1 F1 as1 S1 r1 s1 p1 wk q => by
    obtain ⟨hi, hlen, Inv, i0, hs, hd⟩ := q.ex
    obtain ⟨G, Y, hw, hG, hY⟩ := wk.ok
    have hi : ∀ j ∈ is, j ∈ vs := fun j hj => by
      have := List.all_eq_true.mp hi j hj
      simpa using this
    intro L hL
    have hB : c.B L = none := r1.none_B hL
    have hF1 : F1 L = none := r1.none_F hL
    have hn1 : as1.length ≤ S1.length := by rw [r1.len]; exact Nat.le_refl _
    have r1' : SR K (c.lc F1 as1 L []) (upd H1 L (.lst [])) F1 as1 S1 := by
      have hA : ∀ (n : Nat) (a : Addr), as1[n]? = some a → a ≠ L := fun n a h => r1.ne_new h hL
      refine SR.toLc (vs := []) ⟨r1.len, r1.nd, fun a u e => ?_, fun a u e => ?_, r1.bf, r1.ba, fun n a o h1 h2 => ?_, r1.f0, r1.a0, r1.nw⟩ upd_same hF1 (fun m => ?_) rfl rfl
      · rw [upd_ne (ne_of_none e hF1)]; exact r1.fs _ _ e
      · rw [upd_ne (ne_of_none e hB)]; exact r1.bs _ _ e
      · exact (r1.ob n a o h1 h2).mono (Same.refl _) (List.prefix_refl _) (fun e => e) (fun _ => by rw [upd_ne (hA n a h1)])
      · obtain ⟨n, h⟩ := List.getElem?_of_mem m
        exact hA n L h rfl
    refine lc_it hw (fun i H => ∃ acc ws S' F' as', SR K (c.lc F1 as1 L ws) H F' as' S' ∧ RpL K F' acc ws ∧ acc.length ≤ i ∧ Inv i acc S') ⟨[], [], S1, F1, as1, r1', .nil, Nat.le_refl _, i0⟩ ?_ ?_ ?_
    · rintro i H' hi' ⟨acc, ws, S', F', as', r', ra, hl, iv⟩
      by_cases z : i < xs.length
      · exact hG _ H' F' as' S' r' r'.f0 r'.a0 (hs i xs[i] acc S' (List.getElem?_eq_getElem z) iv).1
      · have : i = xs.length := by omega
        subst this
        exact hG _ H' F' as' S' r' r'.f0 r'.a0 (hd acc S' iv).1
    · rintro i v H' H2 hi' ⟨acc, ws, S', F', as', r', ra, hl, iv⟩ y
      obtain ⟨hg, st⟩ := hs i xs[i] acc S' (List.getElem?_eq_getElem hi') iv
      obtain ⟨F2, r2, s2, rx⟩ := hY _ i xs[i] H' v H2 F' as' S' (List.getElem?_eq_getElem hi') r' r'.f0 r'.a0 hg y
      have ux' := ux.lc (L := L) (vs := ws) r1 hB
      have e2 : EnvR K F2 as' (wipeE ρ vs) (L2.wipe σ vs) := (e.mono (s1.trans r2.f0) (p1.trans r2.a0)).wipe vs
      refine ig.up _ ux' (.d xs[i]) v (wipeE ρ vs) S' _ H2 F2 as' _ _ r2 e2 rx st fun ρ3 σ3 H3 F3 as3 S3 r3 s3 p3 e3 k3 l3 q3 => ?_
      refine ⟨wipe_eq hi k3 l3, ?_⟩
      refine it.up _ ux' ρ3 S3 _ σ3 H3 F3 as3 _ r3 e3 q3 fun b H4 F4 as4 S4 r4 s4 p4 q4 => ?_
      have s24 : Same F' F4 := s2.trans (s3.trans s4)
      have fin : ∀ {acc' : List D} {ws' : List V} {H : Hp} {F : Hp} {as : List Addr} {S : Sto}, SR K (c.lc F1 as1 L ws') H F as S → RpL K F acc' ws' → acc'.length ≤ i + 1 → Fin S1.length (fun _ S5 => Inv (i + 1) acc' S5) [] S →
          ∃ acc ws S' F' as', SR K (c.lc F1 as1 L ws) H F' as' S' ∧ RpL K F' acc ws ∧ acc.length ≤ i + 1 ∧ Inv (i + 1) acc S' := by
        rintro acc' ws' H F as S r ra hl ⟨ρ5, S5, g5, iv5⟩
        obtain ⟨F6, as6, r6, _, s6, _⟩ := g5.ok hn1 r EnvR.nil
        exact ⟨acc', ws', S5, F6, as6, r6, ra.mono s6, hl, iv5⟩
      refine rd_ite (fun z => ?_) (fun z => ?_)
      · refine ie.up _ ux' ρ3 S4 _ σ3 H4 F4 as4 _ r4 (e3.mono s4 p4) (q4.1 z) fun yy vy H5 F5 as5 S5 r5 s5 p5 ry q5 => ?_
        obtain ⟨d, hd', f5⟩ := q5
        have rd := pureA_ok r5 ry hd'
        obtain ⟨_, hL5, _, _⟩ := r1.ofLc r5 hB
        have ra5 := ra.mono (s24.trans s5)
        refine ⟨ws, hL5, lt_size (by rw [← ra.length]; omega), ?_⟩
        exact fin (r5.stepLc hB) (ra5.append (.cons rd .nil)) (by rw [List.length_append, List.length_singleton]; omega) f5
      · exact fin r4 (ra.mono s24) (by omega) (q4.2 z)
    · rintro H' ⟨acc, ws, S', F', as', r', ra, hl, iv⟩
      obtain ⟨rr, hL', hF', hA'⟩ := r1.ofLc r' hB
      have := (hd acc S' iv).2
      -- the new list is data from now on
      have sF : Same F' (upd F' L (.lst ws)) := Same.nw hF'
      have r'' : SR K c H' (upd F' L (.lst ws)) as' S' := by
        refine ⟨rr.len, rr.nd, fun a u e => ?_, rr.bs, fun a => ?_, rr.ba, fun n a o h1 h2 => ?_, rr.f0.trans sF, rr.a0, rr.nw⟩
        · by_cases z : a = L
          · subst z; rw [upd_same] at e; cases e; exact hL'
          · rw [upd_ne z] at e; exact rr.fs _ _ e
        · by_cases z : a = L
          · subst z; exact .inl hB
          · rw [upd_ne z]; exact rr.bf a
        · have z : a ≠ L := fun q => hA' (q ▸ List.mem_of_getElem? h1)
          exact (rr.ob n a o h1 h2).mono sF (List.prefix_refl _) (fun q => by rw [upd_ne z]; exact q) (fun _ => rfl)
      exact k (.d (.lst acc)) _ _ _ _ _ r'' (s1.trans (r'.f0.trans sF)) (p1.trans r'.a0) (.lst upd_same (ra.mono sF)) this
end
end VL

namespace VL
open PySem PySem.Spec PyProof.Rows L2 RX

/-! ### promises by data -/
abbrev SpD := List A → Sto → WQ → WX → Prop
def toSp (K : PySem.W.Frag) (sp : SpD) : Sp := fun vs H Q E => ∃ (B F : Hp) (as : List Addr) (S : Sto) (ds : List A) (Qd : WQ) (Xd : WX),
  SR K ⟨B, F, as⟩ H F as S ∧ RaL K F as ds vs ∧ sp ds S Qd Xd ∧ KtE K ⟨B, F, as⟩ F as Qd Q ∧ UpX K ⟨B, F, as⟩ (fun _ => E) (fun _ => Xd)
/-- the handles of a callee, as the caller has them -/
def rn (hs : List Nat) (L : Nat) (i : Nat) : Nat := if i < hs.length then (hs[i]?).getD 0 else L + (i - hs.length)
def A.ren (r : Nat → Nat) : A → A
  | .d x => .d x
  | .ref n => .ref (r n)
def Ob.ren (r : Nat → Nat) : Ob → Ob
  | .lsR xs => .lsR (xs.map (A.ren r))
  | .tpR xs => .tpR (xs.map (A.ren r))
  | .ins C fs => .ins C (fs.map fun p => (p.1, A.ren r p.2))
  | .dR fs => .dR (fs.map fun p => (p.1, A.ren r p.2))
  | .dS fs => .dS (fs.map fun p => (p.1, A.ren r p.2))
  | o => o
/-- what a callee leaves, put back -/
def scat (r : Nat → Nat) : Sto → List Nat → Sto → Sto
  | S, [], [] => S
  | S, [], o :: os => S ++ (o :: os).map (Ob.ren r)
  | S, h :: hs, o :: os => scat r (S.set h (o.ren r)) hs os
  | S, _ :: _, [] => S
/-- what a callee is given -/
def Picks (r : Nat → Nat) (S : Sto) : List Nat → Sto → Prop
  | [], [] => True
  | h :: hs, o :: os => S[h]? = some (o.ren r) ∧ Picks r S hs os
  | _, _ => False
theorem scat_get {r : Nat → Nat} : ∀ {hs : List Nat} {S S' : Sto}, hs.length ≤ S'.length → hs.Nodup → (∀ h ∈ hs, h < S.length) →
    (scat r S hs S').length = S.length + (S'.length - hs.length) ∧
    (∀ n, n < S.length → n ∉ hs → (scat r S hs S')[n]? = S[n]?) ∧
    (∀ (i h : Nat), hs[i]? = some h → (scat r S hs S')[h]? = (S'[i]?).map (Ob.ren r)) ∧
    (∀ j, (scat r S hs S')[S.length + j]? = (S'[hs.length + j]?).map (Ob.ren r))
  | [], S, [], _, _, _ => by
    refine ⟨by simp [scat], fun n _ _ => rfl, fun i h e => by simp at e, fun j => ?_⟩
    rw [show scat r S [] [] = S from rfl, List.getElem?_eq_none (by omega)]
    simp
  | [], S, o :: os, _, _, _ => by
    refine ⟨by simp [scat], fun n hn _ => ?_, fun i h e => by simp at e, fun j => ?_⟩
    · rw [show scat r S [] (o :: os) = S ++ (o :: os).map (Ob.ren r) from rfl, List.getElem?_append_left hn]
    · rw [show scat r S [] (o :: os) = S ++ (o :: os).map (Ob.ren r) from rfl, List.getElem?_append_right (by omega), List.getElem?_map]
      simp
  | h :: hs, S, [], hl, _, _ => by simp at hl
  | h :: hs, S, o :: os, hl, nd, hb => by
    have nd' := List.nodup_cons.mp nd
    have hh : h < S.length := hb h List.mem_cons_self
    obtain ⟨a1, a2, a3, a4⟩ := scat_get (r := r) (hs := hs) (S := S.set h (o.ren r)) (S' := os) (by simpa using hl) nd'.2 (fun x hx => by rw [List.length_set]; exact hb x (List.mem_cons_of_mem _ hx))
    rw [List.length_set] at a1 a2 a4
    refine ⟨by rw [show scat r S (h :: hs) (o :: os) = scat r (S.set h (o.ren r)) hs os from rfl, a1]; simp, fun n hn hm => ?_, fun i k e => ?_, fun j => ?_⟩
    · rw [show scat r S (h :: hs) (o :: os) = scat r (S.set h (o.ren r)) hs os from rfl, a2 n hn fun z => hm (List.mem_cons_of_mem _ z), List.getElem?_set_ne fun z => hm (by rw [z]; exact List.mem_cons_self)]
    · rw [show scat r S (h :: hs) (o :: os) = scat r (S.set h (o.ren r)) hs os from rfl]
      cases i with
      | zero =>
        cases e
        rw [a2 h hh nd'.1, List.getElem?_set_self hh]
        rfl
      | succ i => exact a3 i k (by simpa using e)
    · rw [show scat r S (h :: hs) (o :: os) = scat r (S.set h (o.ren r)) hs os from rfl, a4 j]
      simp [Nat.add_right_comm]
theorem picks_len {r : Nat → Nat} {S : Sto} : ∀ {hs : List Nat} {S0 : Sto}, Picks r S hs S0 → hs.length = S0.length ∧ (∀ (i h : Nat), hs[i]? = some h → ∃ o, S0[i]? = some o ∧ S[h]? = some (o.ren r))
  | [], [], _ => ⟨rfl, fun i h e => by simp at e⟩
  | h :: hs, o :: os, ⟨h1, h2⟩ => by
    obtain ⟨a, b⟩ := picks_len h2
    refine ⟨by simp [a], fun i k e => ?_⟩
    cases i with
    | zero => cases e; exact ⟨o, rfl, h1⟩
    | succ i => simpa using b i k (by simpa using e)
  | [], _ :: _, h => h.elim
  | _ :: _, [], h => h.elim
/-- a call: hs the caller's handles that go along -/
def callP (sp : SpD) (X : WX) (ds : List A) (S1 : Sto) (Q : WQ) : Prop := ∃ (hs : List Nat) (ds0 : List A) (S0 : Sto), hs.Nodup ∧ ds = ds0.map (A.ren (rn hs S1.length)) ∧ Picks (rn hs S1.length) S1 hs S0 ∧
  sp ds0 S0 (fun a S' => Q (a.ren (rn hs S1.length)) (scat (rn hs S1.length) S1 hs S')) (fun C fs S' => X C fs (scat (rn hs S1.length) S1 hs S'))
inductive CallP (sp : SpD) (X : WX) (ds : List A) (S1 : Sto) (Q : WQ) : Prop
  | mk (ex : callP sp X ds S1 Q)
  /-- everything goes along -/
  | all (h : sp ds S1 Q X)
section
variable {K : PySem.W.Frag}
theorem RpA.unren {F : Hp} {as asp : List Addr} {hs : List Nat} {L : Nat} (hL : as.length ≤ L) (hp : ∀ (i h : Nat), hs[i]? = some h → asp[i]? = as[h]?) {a : A} {v : V} (h : RpA K F as (a.ren (rn hs L)) v) : RpA K F asp a v := by
  cases a with
  | d x => exact h
  | ref n =>
    obtain ⟨p, h1, h2⟩ := h
    refine ⟨p, ?_, h2⟩
    have h1 : as[rn hs L n]? = some p := h1
    unfold rn at h1
    by_cases z : n < hs.length
    · rw [if_pos z, List.getElem?_eq_getElem z] at h1
      rw [hp n _ (List.getElem?_eq_getElem z)]
      exact h1
    · rw [if_neg z, List.getElem?_eq_none (by omega)] at h1
      cases h1
theorem RpA.ren {F : Hp} {as as' : List Addr} {hs : List Nat} {L : Nat} (hp : ∀ (n : Nat) (p : Addr), as'[n]? = some p → as[rn hs L n]? = some p) {a : A} {v : V} (h : RpA K F as' a v) : RpA K F as (a.ren (rn hs L)) v := by
  cases a with
  | d x => exact h
  | ref n =>
    obtain ⟨p, h1, h2⟩ := h
    exact ⟨p, hp n p h1, h2⟩
theorem RaL.unren {F : Hp} {as asp : List Addr} {hs : List Nat} {L : Nat} (hL : as.length ≤ L) (hp : ∀ (i h : Nat), hs[i]? = some h → asp[i]? = as[h]?) : ∀ {a : List A} {v : List V}, RaL K F as (a.map (A.ren (rn hs L))) v → RaL K F asp a v
  | [], _, .nil => .nil
  | _ :: _, _, .cons h t => .cons (h.unren hL hp) (RaL.unren hL hp t)
theorem RaL.ren {F : Hp} {as as' : List Addr} {hs : List Nat} {L : Nat} (hp : ∀ (n : Nat) (p : Addr), as'[n]? = some p → as[rn hs L n]? = some p) : ∀ {a : List A} {v : List V}, RaL K F as' a v → RaL K F as (a.map (A.ren (rn hs L))) v
  | [], _, .nil => .nil
  | _ :: _, _, .cons h t => .cons (h.ren hp) (RaL.ren hp t)
theorem RaF.unren {F : Hp} {as asp : List Addr} {hs : List Nat} {L : Nat} (hL : as.length ≤ L) (hp : ∀ (i h : Nat), hs[i]? = some h → asp[i]? = as[h]?) : ∀ {a : List (Str × A)} {v : List (Str × V)}, RaF K F as (a.map fun p => (p.1, A.ren (rn hs L) p.2)) v → RaF K F asp a v
  | [], _, .nil => .nil
  | _ :: _, _, .cons h t => .cons ⟨h.1, h.2.unren hL hp⟩ (RaF.unren hL hp t)
theorem RaF.ren {F : Hp} {as as' : List Addr} {hs : List Nat} {L : Nat} (hp : ∀ (n : Nat) (p : Addr), as'[n]? = some p → as[rn hs L n]? = some p) : ∀ {a : List (Str × A)} {v : List (Str × V)}, RaF K F as' a v → RaF K F as (a.map fun p => (p.1, A.ren (rn hs L) p.2)) v
  | [], _, .nil => .nil
  | _ :: _, _, .cons h t => .cons ⟨h.1, h.2.ren hp⟩ (RaF.ren hp t)
theorem RaG.unren {κ : Type} {F : Hp} {as asp : List Addr} {hs : List Nat} {L : Nat} (hL : as.length ≤ L) (hp : ∀ (i h : Nat), hs[i]? = some h → asp[i]? = as[h]?) : ∀ {a : List (κ × A)} {v : List (κ × V)}, RaG K F as (a.map fun p => (p.1, A.ren (rn hs L) p.2)) v → RaG K F asp a v
  | [], _, .nil => .nil
  | _ :: _, _, .cons h t => .cons ⟨h.1, h.2.unren hL hp⟩ (RaG.unren hL hp t)
theorem RaG.ren {κ : Type} {F : Hp} {as as' : List Addr} {hs : List Nat} {L : Nat} (hp : ∀ (n : Nat) (p : Addr), as'[n]? = some p → as[rn hs L n]? = some p) : ∀ {a : List (κ × A)} {v : List (κ × V)}, RaG K F as' a v → RaG K F as (a.map fun p => (p.1, A.ren (rn hs L) p.2)) v
  | [], _, .nil => .nil
  | _ :: _, _, .cons h t => .cons ⟨h.1, h.2.ren hp⟩ (RaG.ren hp t)
theorem ObR.unren {H F : Hp} {as asp : List Addr} {hs : List Nat} {L : Nat} (hL : as.length ≤ L) (hp : ∀ (i h : Nat), hs[i]? = some h → asp[i]? = as[h]?) {a : Addr} {o : Ob} (h : ObR K H F as a (o.ren (rn hs L))) : ObR K H F asp a o := by
  cases o with
  | lst xs => exact h
  | dK xs => exact h
  | dT xs => exact h
  | fz x => exact h
  | lsR xs => obtain ⟨f0, vs, h1, h2⟩ := h; exact ⟨f0, vs, h1, RaL.unren hL hp h2⟩
  | tpR xs => obtain ⟨vs, h2, h1⟩ := h; exact ⟨vs, RaL.unren hL hp h2, h1⟩
  | ins C fs => obtain ⟨f0, dx, vs, h1, h2⟩ := h; exact ⟨f0, dx, vs, h1, RaF.unren hL hp h2⟩
  | dR fs => obtain ⟨f0, vs, h1, h2⟩ := h; exact ⟨f0, vs, h1, RaG.unren hL hp h2⟩
  | dS fs => obtain ⟨f0, vs, h1, h2⟩ := h; exact ⟨f0, vs, h1, RaG.unren hL hp h2⟩
theorem ObR.renn {H F : Hp} {as as' : List Addr} {hs : List Nat} {L : Nat} (hp : ∀ (n : Nat) (p : Addr), as'[n]? = some p → as[rn hs L n]? = some p) {a : Addr} {o : Ob} (h : ObR K H F as' a o) : ObR K H F as a (o.ren (rn hs L)) := by
  cases o with
  | lst xs => exact h
  | dK xs => exact h
  | dT xs => exact h
  | fz x => exact h
  | lsR xs => obtain ⟨f0, vs, h1, h2⟩ := h; exact ⟨f0, vs, h1, RaL.ren hp h2⟩
  | tpR xs => obtain ⟨vs, h2, h1⟩ := h; exact ⟨vs, RaL.ren hp h2, h1⟩
  | ins C fs => obtain ⟨f0, dx, vs, h1, h2⟩ := h; exact ⟨f0, dx, vs, h1, RaF.ren hp h2⟩
  | dR fs => obtain ⟨f0, vs, h1, h2⟩ := h; exact ⟨f0, vs, h1, RaG.ren hp h2⟩
  | dS fs => obtain ⟨f0, vs, h1, h2⟩ := h; exact ⟨f0, vs, h1, RaG.ren hp h2⟩
end
/-- the callee's context -/
noncomputable def calB (H F : Hp) (asp : List Addr) : Hp := fun a => if F a = none ∧ a ∉ asp then H a else none
section
variable {K : PySem.W.Frag} {E : L2.St → XK} {X : Env → WX}
/-- the callee's state; what it leaves is the caller's -/
theorem call_sr {c : Cd} {H1 F1 : Hp} {as1 : List Addr} {S1 S0 : Sto} {hs : List Nat} (r1 : SR K c H1 F1 as1 S1) (nd : hs.Nodup) (pk : Picks (rn hs S1.length) S1 hs S0) :
    ∃ asp : List Addr, (∀ (i h : Nat), hs[i]? = some h → asp[i]? = as1[h]?) ∧ SR K ⟨calB H1 F1 asp, F1, asp⟩ H1 F1 asp S0 ∧
    ∀ (H' F' : Hp) (as' : List Addr) (S' : Sto), SR K ⟨calB H1 F1 asp, F1, asp⟩ H' F' as' S' → ∃ as2, SR K c H' F' as2 (scat (rn hs S1.length) S1 hs S') ∧ as1 <+: as2 ∧ Same F1 F' ∧ ∀ (n : Nat) (p : Addr), as'[n]? = some p → as2[rn hs S1.length n]? = some p := by
  obtain ⟨hl, hpk⟩ := picks_len pk
  have hlt : ∀ h ∈ hs, h < S1.length := fun h hm => by
    obtain ⟨i, e⟩ := List.getElem?_of_mem hm
    obtain ⟨o, _, e2⟩ := hpk i h e
    exact (List.getElem?_eq_some_iff.mp e2).1
  let asp : List Addr := hs.map fun h => (as1[h]?).getD 0
  have hasp : ∀ (i h : Nat), hs[i]? = some h → asp[i]? = as1[h]? := fun i h e => by
    show (hs.map fun h => (as1[h]?).getD 0)[i]? = _
    have : h < as1.length := by rw [r1.len]; exact hlt h (List.mem_of_getElem? e)
    simp [List.getElem?_map, e, List.getElem?_eq_getElem this]
  have hasp' : ∀ (i : Nat) (a : Addr), asp[i]? = some a → ∃ h, hs[i]? = some h ∧ as1[h]? = some a := fun i a e => by
    have e0 : (hs.map fun h => (as1[h]?).getD 0)[i]? = some a := e
    rw [List.getElem?_map] at e0
    cases q : hs[i]? with
    | none => rw [q] at e0; cases e0
    | some h => exact ⟨h, rfl, (hasp i h q).symm.trans e⟩
  have laspl : asp.length = hs.length := List.length_map ..
  have r0 : SR K ⟨calB H1 F1 asp, F1, asp⟩ H1 F1 asp S0 := by
    refine ⟨laspl.trans hl, ?_, r1.fs, fun a u e => ?_, fun a => ?_, fun n a h => ?_, fun n a o h1 h2 => ?_, Same.refl _, List.prefix_refl _, fun n a hn h => absurd (show asp.length ≤ n from hn) (by have := (List.getElem?_eq_some_iff.mp h).1; omega)⟩
    · refine List.pairwise_iff_getElem.mpr fun i j hi hj hij e => ?_
      obtain ⟨h1, q1, z1⟩ := hasp' i _ (List.getElem?_eq_getElem hi)
      obtain ⟨h2, q2, z2⟩ := hasp' j _ (List.getElem?_eq_getElem hj)
      rw [← e] at z2
      have := nodup_ix r1.nd z1 z2
      subst this
      obtain ⟨b1, c1⟩ := List.getElem?_eq_some_iff.mp q1
      obtain ⟨b2, c2⟩ := List.getElem?_eq_some_iff.mp q2
      exact List.pairwise_iff_getElem.mp nd i j b1 b2 hij (c1.trans c2.symm)
    · have e : (if F1 a = none ∧ a ∉ asp then H1 a else none) = some u := e
      split at e
      · exact e
      · cases e
    · show (if F1 a = none ∧ a ∉ asp then H1 a else none) = none ∨ _
      by_cases z : F1 a = none
      · exact .inr (.inl z)
      · exact .inl (if_neg fun q => z q.1)
    · show (if F1 a = none ∧ a ∉ asp then H1 a else none) = none
      exact if_neg fun q => q.2 (List.mem_of_getElem? h)
    · obtain ⟨h, q1, q2⟩ := hasp' n a h1
      obtain ⟨o', e1, e2⟩ := hpk n h q1
      rw [h2] at e1; cases e1
      exact (r1.ob h a _ q2 e2).unren (by rw [r1.len]; exact Nat.le_refl _) hasp
  refine ⟨asp, hasp, r0, fun H' F' as' S' r' => ?_⟩
  have pre : asp <+: as' := r'.a0
  have hl' : hs.length ≤ S'.length := by rw [← r'.len, ← laspl]; exact pre.length_le
  obtain ⟨g1, g2, g3, g4⟩ := scat_get (r := rn hs S1.length) hl' nd hlt
  have inB : ∀ {a : Addr} {o : HO}, c.B a = some o → F1 a = none → calB H1 F1 asp a = some o := fun {a o} e ef => by
    show (if F1 a = none ∧ a ∉ asp then H1 a else none) = some o
    have na : a ∉ asp := fun m => by
      obtain ⟨i, hi⟩ := List.getElem?_of_mem m
      obtain ⟨h, _, q2⟩ := hasp' i a hi
      have := r1.ba h a q2
      rw [e] at this; cases this
    rw [if_pos ⟨ef, na⟩]
    exact r1.bs _ _ e
  let as2 : List Addr := as1 ++ as'.drop hs.length
  have at2 : ∀ (n : Nat) (p : Addr), as'[n]? = some p → as2[rn hs S1.length n]? = some p := fun n p e => by
    show (as1 ++ as'.drop hs.length)[rn hs S1.length n]? = some p
    unfold rn
    by_cases z : n < hs.length
    · rw [if_pos z, List.getElem?_eq_getElem z]
      have q := hasp n _ (List.getElem?_eq_getElem z)
      have ep : asp[n]? = some p := by
        have : n < asp.length := by omega
        obtain ⟨t, et⟩ := pre
        rw [← et, List.getElem?_append_left this] at e
        exact e
      rw [ep] at q
      show (as1 ++ as'.drop hs.length)[hs[n]]? = some p
      rw [List.getElem?_append_left (by rw [r1.len]; exact hlt _ (List.getElem_mem z))]
      exact q.symm
    · rw [if_neg z, List.getElem?_append_right (by rw [r1.len]; omega), r1.len, List.getElem?_drop, show hs.length + (S1.length + (n - hs.length) - S1.length) = n by omega]
      exact e
  -- the other handles of the caller
  have other : ∀ (n : Nat) (a : Addr), as1[n]? = some a → n ∉ hs → a ∉ asp := fun n a e hn m => by
    obtain ⟨i, hi⟩ := List.getElem?_of_mem m
    obtain ⟨h, q1, q2⟩ := hasp' i a hi
    have := nodup_ix r1.nd e q2
    subst this
    exact hn (List.mem_of_getElem? q1)
  have newF : ∀ (n : Nat) (a : Addr), hs.length ≤ n → as'[n]? = some a → F1 a = none := fun n a hn e => r'.nw n a (by show asp.length ≤ n; omega) e
  have newne : ∀ (m n : Nat) (a : Addr), as1[m]? = some a → hs.length ≤ n → as'[n]? = some a → False := fun m n a e1 hn e2 => by
    have f := newF n a hn e2
    by_cases hm : m ∈ hs
    · obtain ⟨i, hi⟩ := List.getElem?_of_mem hm
      have q := hasp i m hi
      rw [e1] at q
      have := nodup_ix r'.nd (pre_get pre q) e2
      have hi' := (List.getElem?_eq_some_iff.mp hi).1
      omega
    · have q := other m a e1 hm
      obtain ⟨o, _, ob⟩ := r1.at e1
      obtain ⟨u, hu⟩ := ob.there r1.fs
      have b : calB H1 F1 asp a = some u := by
        show (if F1 a = none ∧ a ∉ asp then H1 a else none) = some u
        rw [if_pos ⟨f, q⟩]; exact hu
      have := r'.ba n a e2
      rw [show (Cd.B ⟨calB H1 F1 asp, F1, asp⟩) = calB H1 F1 asp from rfl, b] at this
      cases this
  have split2 : ∀ (n : Nat) (a : Addr), as2[n]? = some a → (n < S1.length ∧ as1[n]? = some a) ∨ ∃ j, n = S1.length + j ∧ as'[hs.length + j]? = some a := fun n a e => by
    have e : (as1 ++ as'.drop hs.length)[n]? = some a := e
    by_cases z : n < as1.length
    · rw [List.getElem?_append_left z] at e
      exact .inl ⟨by rw [← r1.len]; exact z, e⟩
    · rw [List.getElem?_append_right (by omega), List.getElem?_drop] at e
      exact .inr ⟨n - S1.length, by rw [r1.len] at z; omega, by rw [← r1.len]; exact e⟩
  have s1 : Same F1 F' := r'.f0
  refine ⟨as2, ⟨?_, ?_, r'.fs, fun a u e => ?_, fun a => ?_, fun n a e => ?_, fun n a o e1 e2 => ?_, r1.f0.trans s1, r1.a0.trans (List.prefix_append _ _), fun n a hn e => ?_⟩, List.prefix_append _ _, s1, at2⟩
  · show (as1 ++ as'.drop hs.length).length = _
    rw [g1, List.length_append, List.length_drop, r1.len, r'.len]
  · show (as1 ++ as'.drop hs.length).Nodup
    rw [List.nodup_append]
    refine ⟨r1.nd, r'.nd.sublist (List.drop_sublist _ _), fun a ha b hb z => ?_⟩
    subst z
    obtain ⟨m, hm⟩ := List.getElem?_of_mem ha
    obtain ⟨j, hj⟩ := List.getElem?_of_mem hb
    rw [List.getElem?_drop] at hj
    exact newne m (hs.length + j) a hm (Nat.le_add_right _ _) hj
  · cases ef : F1 a with
    | none => exact r'.bs _ _ (inB e ef)
    | some o =>
      have h1 := r1.fs _ _ ef
      rw [r1.bs _ _ e] at h1
      cases h1
      exact r'.fs _ _ (s1 _ _ ef)
  · cases e : c.B a with
    | none => exact .inl rfl
    | some o =>
      refine .inr ?_
      cases ef : F1 a with
      | none => exact (r'.bf a).resolve_left (by rw [show (Cd.B ⟨calB H1 F1 asp, F1, asp⟩) = calB H1 F1 asp from rfl, inB e ef]; exact fun z => by cases z)
      | some o2 =>
        rcases r1.bf a with z | z | ⟨xs, z⟩
        · rw [z] at e; cases e
        · rw [z] at ef; cases ef
        · exact .inr ⟨xs, s1 _ _ z⟩
  · rcases split2 n a e with ⟨_, e⟩ | ⟨j, z, e'⟩
    · exact r1.ba n a e
    · cases q : c.B a with
      | none => rfl
      | some o =>
        have := r'.ba _ a e'
        rw [show (Cd.B ⟨calB H1 F1 asp, F1, asp⟩) = calB H1 F1 asp from rfl, inB q (newF _ a (Nat.le_add_right _ _) e')] at this
        cases this
  · rcases split2 n a e1 with ⟨hn, e⟩ | ⟨j, z, e⟩
    · by_cases hm : n ∈ hs
      · obtain ⟨i, hi⟩ := List.getElem?_of_mem hm
        rw [g3 i n hi] at e2
        obtain ⟨o', q1, rfl⟩ := Option.map_eq_some_iff.mp e2
        have q := hasp i n hi
        rw [e] at q
        exact (r'.ob i a o' (pre_get pre q) q1).renn at2
      · rw [g2 n hn hm] at e2
        have q := other n a e hm
        have rob := r1.ob n a o e e2
        by_cases tp : ∃ ys ws, o = .tpR ys ∧ RaL K F1 as1 ys ws ∧ F1 a = none ∧ H1 a = some (.tup ws)
        · obtain ⟨ys, ws, rfl, h3, f, hu⟩ := tp
          have b : calB H1 F1 asp a = some (.tup ws) := by
            show (if F1 a = none ∧ a ∉ asp then H1 a else none) = some _
            rw [if_pos ⟨f, q⟩]; exact hu
          have hb := r'.bs _ _ b
          refine ⟨ws, h3.mono s1 (List.prefix_append _ _), ?_⟩
          rcases r'.bf a with z | z | ⟨xs, z⟩
          · exact absurd (b.symm.trans z) (fun z => nomatch z)
          · exact .inl ⟨z, hb⟩
          · have := r'.fs _ _ z
            rw [hb] at this
            cases this
            exact .inr z
        refine rob.mono s1 (List.prefix_append _ _) (fun f => ?_) (fun f => ?_)
        · obtain ⟨u, hu⟩ := (r1.ob n a o e e2).there r1.fs
          have b : calB H1 F1 asp a = some u := by
            show (if F1 a = none ∧ a ∉ asp then H1 a else none) = some u
            rw [if_pos ⟨f, q⟩]; exact hu
          refine r'.bfn b (rob.notup f hu fun ys eo => ?_)
          subst eo
          obtain ⟨ws, h3, h | h⟩ := rob
          · exact tp ⟨ys, ws, rfl, h3, f, h.2⟩
          · rw [f] at h; cases h
        · obtain ⟨u, hu⟩ := (r1.ob n a o e e2).there r1.fs
          have b : calB H1 F1 asp a = some u := by
            show (if F1 a = none ∧ a ∉ asp then H1 a else none) = some u
            rw [if_pos ⟨f, q⟩]; exact hu
          rw [hu]
          exact r'.bs _ _ b
    · subst z
      rw [g4 j] at e2
      obtain ⟨o', q1, rfl⟩ := Option.map_eq_some_iff.mp e2
      exact (r'.ob _ a o' e q1).renn at2
  · rcases split2 n a e with ⟨_, e⟩ | ⟨j, z, e'⟩
    · exact r1.nw n a hn e
    · have f := newF _ a (Nat.le_add_right _ _) e'
      cases q : c.F a with
      | none => rfl
      | some o => rw [r1.f0 _ _ q] at f; cases f
/-- from a promise by data to the promise by the heap -/
theorem callP_ok {sp : SpD} {c : Cd} {ρ : Env} {σ : L2.St} {H1 F1 : Hp} {as1 : List Addr} {S1 : Sto} {ds : List A} {vs : List V} {Q : WQ} {R : VK} (ux : UpX K c E X) (r1 : SR K c H1 F1 as1 S1) (e1 : EnvR K F1 as1 ρ σ) (rx : RaL K F1 as1 ds vs) (k : KtE K c F1 as1 Q R) (h : callP sp (X ρ) ds S1 Q) : toSp K sp vs H1 R (E σ) := by
  obtain ⟨hs, ds0, S0, nd, rfl, pk, h⟩ := h
  obtain ⟨asp, ha, r0, post⟩ := call_sr r1 nd pk
  refine ⟨calB H1 F1 asp, F1, asp, S0, ds0, _, _, r0, RaL.unren (by rw [r1.len]; exact Nat.le_refl _) ha rx, h, ?_, ?_⟩
  · intro a v H' F' as' S' r' s' p' ra q
    obtain ⟨as2, r2, p2, s2, at2⟩ := post H' F' as' S' r'
    exact k _ v H' F' as2 _ r2 s2 p2 (ra.ren at2) q
  · constructor
    · intro ρ' σ' C dd fs gs H' F' as' S' r' _ h1 h2 h3 q
      obtain ⟨as2, r2, p2, s2, at2⟩ := post H' F' as' S' r'
      exact ux.dct ρ σ C dd fs gs H' F' as2 _ r2 (e1.mono s2 p2) h1 h2 h3 q
    · intro ρ' σ' C H' F' as' S' r' _ q
      obtain ⟨as2, r2, p2, s2, at2⟩ := post H' F' as' S' r'
      exact ux.non ρ σ C H' F' as2 _ r2 (e1.mono s2 p2) q
theorem CallP.ok {sp : SpD} {c : Cd} {ρ : Env} {σ : L2.St} {H1 F1 : Hp} {as1 : List Addr} {S1 : Sto} {ds : List A} {vs : List V} {Q : WQ} {R : VK} (ux : UpX K c E X) (r1 : SR K c H1 F1 as1 S1) (e1 : EnvR K F1 as1 ρ σ) (rx : RaL K F1 as1 ds vs) (k : KtE K c F1 as1 Q R) (h : CallP sp (X ρ) ds S1 Q) : toSp K sp vs H1 R (E σ) := by
  cases h with
  | mk ex => exact callP_ok ux r1 e1 rx k ex
  | all h =>
    refine ⟨c.B, F1, as1, S1, ds, Q, X ρ, r1.toAt, rx, h, ?_, ?_⟩
    · intro a v H' F' as' S' r' s' p' ra q
      exact k a v H' F' as' S' (r1.ofAt r') s' p' ra q
    · constructor
      · intro ρ' σ' C dd fs gs H' F' as' S' r' _ h1 h2 h3 q
        exact ux.dct ρ σ C dd fs gs H' F' as' S' (r1.ofAt r') (e1.mono r'.f0 r'.a0) h1 h2 h3 q
      · intro ρ' σ' C H' F' as' S' r' _ q
        exact ux.non ρ σ C H' F' as' S' (r1.ofAt r') (e1.mono r'.f0 r'.a0) q
def wCall (sp : SpD) (X : Env → WX) (wa : WA) : WE := fun ρ S Q => wa ρ S fun ds S1 => CallP sp (X ρ) ds S1 Q
theorem UpX.env {c : Cd} {E0 : XK} (u : UpX K c (fun _ => E0) X) : UpX K c (fun _ => E0) X := u
instance {sp : SpD} {E0 : XK} {t : TA} {wa : WA} [ia : UpA K (fun _ => E0) X t wa] : UpE K (fun _ => E0) X (tCall (toSp K sp) [] E0 t) (wCall sp X wa) where
  up := fun c ux ρ S Q σ H F as R r e h k => ia.up c ux ρ S _ σ H F as _ r e h fun ds vs H1 F1 as1 S1 r1 s1 p1 rx q => by
    rw [List.append_nil]
    exact CallP.ok (E := fun _ => E0) ux r1 (e.mono s1 p1) rx (k.mono s1 p1) q
instance {sp : SpD} {t : TA} {wa : WA} [ia : UpA K E X t wa] : UpE K E X (tCallS (toSp K sp) E t) (wCall sp X wa) where
  up := fun c ux ρ S Q σ H F as R r e h k => ia.up c ux ρ S _ σ H F as _ r e h fun ds vs H1 F1 as1 S1 r1 s1 p1 rx q => CallP.ok ux r1 (e.mono s1 p1) rx (k.mono s1 p1) q
def wMeth (C : Addr) (m : Str) (sp : SpD) (X : Env → WX) (wo : WE) (wa : WA) : WE := fun ρ S Q => wo ρ S fun x S1 => OnS (insA S1 x) fun p => p.1 = C ∧ p.2.lookup m = none ∧ wa ρ S1 fun ds S2 => CallP sp (X ρ) (x :: ds) S2 Q
instance {C : Addr} {m : Str} {sp : SpD} {E0 : XK} {to : TE} {t : TA} {wo : WE} {wa : WA} [io : UpE K (fun _ => E0) X to wo] [ia : UpA K (fun _ => E0) X t wa] : UpE K (fun _ => E0) X (tMeth C m (toSp K sp) [] E0 to t) (wMeth C m sp X wo wa) where
  up := fun c ux ρ S Q σ H F as R r e h k => io.up c ux ρ S _ σ H F as _ r e h fun x v H1 F1 as1 S1 r1 s1 p1 rx q => by
    obtain ⟨⟨C', fs⟩, e1, rfl, e2, q⟩ := q
    obtain ⟨p, dx, gs, rfl, h1, h2⟩ := insA_ok r1 rx e1
    refine ⟨p, dx, gs, rfl, h1, h2.nolook e2, ?_⟩
    refine ia.up c ux ρ S1 _ σ H1 F1 as1 _ r1 (e.mono s1 p1) q fun ds vs H2 F2 as2 S2 r2 s2 p2 rds q2 => ?_
    rw [List.append_nil]
    exact CallP.ok (E := fun _ => E0) ux r2 (e.mono (s1.trans s2) (p1.trans p2)) (.cons (rx.mono s2 p2) rds) (k.mono (s1.trans s2) (p1.trans p2)) q2
def wUMeth (C : Addr) (sp : SpD) (X : Env → WX) (wo : WE) (wa : WA) : WE := fun ρ S Q => wo ρ S fun x S1 => x = .d (.cst (.ref C)) ∧ wa ρ S1 fun ds S2 => CallP sp (X ρ) ds S2 Q
instance {C : Addr} {sp : SpD} {E0 : XK} {to : TE} {t : TA} {wo : WE} {wa : WA} [io : UpE K (fun _ => E0) X to wo] [ia : UpA K (fun _ => E0) X t wa] : UpE K (fun _ => E0) X (tUMeth C (toSp K sp) E0 to t) (wUMeth C sp X wo wa) where
  up := fun c ux ρ S Q σ H F as R r e h k => io.up c ux ρ S _ σ H F as _ r e h fun x v H1 F1 as1 S1 r1 s1 p1 rx q => by
    obtain ⟨rfl, q⟩ := q
    cases rx
    refine ⟨rfl, ?_⟩
    exact ia.up c ux ρ S1 _ σ H1 F1 as1 _ r1 (e.mono s1 p1) q fun ds vs H2 F2 as2 S2 r2 s2 p2 rds q2 =>
      CallP.ok (E := fun _ => E0) ux r2 (e.mono (s1.trans s2) (p1.trans p2)) rds (k.mono (s1.trans s2) (p1.trans p2)) q2
end
end VL

namespace VL
open PySem PySem.Spec PyProof.Rows L2 RX

/-! ### a def keeps its promise by data -/
def startE (N : List Str) (ds : List A) : Env := ds.map some ++ List.replicate (N.length - ds.length) none
/-- at the end one may forget -/
inductive Ret (n0 : Nat) (Q : WQ) (a : A) (S : Sto) : Prop
  | mk (a' : A) (S' : Sto) (g : Ghs n0 [some a] S [some a'] S') (h : Q a' S')
inductive RetX' (n0 : Nat) (X : WX) (C : Addr) (fs : List (Str × D)) (S : Sto) : Prop
  | mk (S' : Sto) (g : Ghs n0 [] S [] S') (h : X C fs S')
def RetX (n0 : Nat) (X : WX) : Env → WX := fun _ C fs S => RetX' n0 X C fs S
theorem Ret.now {n0 : Nat} {Q : WQ} {a : A} {S : Sto} (h : Q a S) : Ret n0 Q a S := ⟨a, S, .refl _ _, h⟩
theorem RetX'.now {n0 : Nat} {X : WX} {C : Addr} {fs : List (Str × D)} {S : Sto} (h : X C fs S) : RetX' n0 X C fs S := ⟨S, .refl _ _, h⟩
/-- what came in the def is forgotten -/
theorem Ret.cut {n0 : Nat} {Q : WQ} {x : D} {S : Sto} (hn : (S.take n0).all (noRef n0) = true) (h : Q (.d x) (S.take n0)) : Ret n0 Q (.d x) S := ⟨.d x, _, .drop n0 (Nat.le_refl _) (List.all_eq_true.mp hn) (.refl _ _), h⟩
theorem RetX'.cut {n0 : Nat} {X : WX} {C : Addr} {fs : List (Str × D)} {S : Sto} (hn : (S.take n0).all (noRef n0) = true) (h : X C fs (S.take n0)) : RetX' n0 X C fs S := ⟨_, .drop n0 (Nat.le_refl _) (List.all_eq_true.mp hn) (.refl _ _), h⟩
/-- what comes back is data from now on -/
theorem Ret.fz {n0 n : Nat} {Q : WQ} {o : Ob} {x : D} {S : Sto} (e : S[n]? = some o) (ex : obD S o = some x) (hn : ((S.set n (.fz x)).take n0).all (noRef n0) = true) (h : Q (.d x) ((S.set n (.fz x)).take n0)) : Ret n0 Q (.ref n) S :=
  ⟨.d x, _, .fz n o x e ex (by rw [show fzE n x [some (.ref n)] = [some (.d x)] by simp [fzE]]; exact .drop n0 (Nat.le_refl _) (List.all_eq_true.mp hn) (.refl _ _)), h⟩
def endD (n0 : Nat) (Q : WQ) : EndD := { nx := fun _ S => Ret n0 Q (.d .non) S, rt := Ret n0 Q, n0 := n0 }
section
variable {K : PySem.W.Frag}
theorem EnvR.start {F : Hp} {as : List Addr} {N : List Str} : ∀ {ds : List A} {vs : List V}, RaL K F as ds vs → EnvR K F as (startE N ds) (L2.start N vs) := by
  intro ds vs h
  have hl := Paired.length h
  refine ⟨by unfold startE L2.start; rw [List.length_append, List.length_append, List.length_map, List.length_map, List.length_replicate, List.length_replicate, hl], fun i a e => ?_⟩
  unfold startE at e
  unfold L2.start
  by_cases z : i < ds.length
  · rw [List.getElem?_append_left (by rw [List.length_map]; exact z), List.getElem?_map] at e
    rw [List.getElem?_append_left (by rw [List.length_map, ← hl]; exact z), List.getElem?_map]
    rw [List.getElem?_eq_getElem z] at e
    have e : some (some ds[i]) = some (some a) := e
    cases e
    obtain ⟨v, h1, h2⟩ := RaL.get h (List.getElem?_eq_getElem z)
    exact ⟨v, by rw [h1]; rfl, h2⟩
  · rw [List.getElem?_append_right (by rw [List.length_map]; omega), List.getElem?_replicate] at e
    split at e <;> cases e
theorem Ret.ok {c : Cd} {n0 : Nat} {Q : WQ} {R : VK} {H F : Hp} {as : List Addr} {S : Sto} {a : A} {v : V} (hn : c.as.length ≤ n0) (h : Ret n0 Q a S) (r : SR K c H F as S) (ra : RpA K F as a v) (k : ∀ a' F' as' S', SR K c H F' as' S' → RpA K F' as' a' v → Q a' S' → R v H) : R v H := by
  obtain ⟨a', S', g, q⟩ := h
  obtain ⟨F', as', r', e', _, _⟩ := g.ok hn r (σ := [some v]) ⟨rfl, fun i b e => by
    cases i with
    | zero => cases e; exact ⟨v, rfl, ra⟩
    | succ i => simp at e⟩
  obtain ⟨u, h1, h2⟩ := e'.2 0 a' rfl
  cases h1
  exact k a' F' as' S' r' h2 q
end
/-- a body that keeps a promise by data -/
def BodyD (P : Program) (w : World) (K : PySem.W.Frag) (mg : Str → Option Value) (base : Heap) (qual : Str) (st : Stmt) (f : Addr) (N : List Str) (k : Nat) (sp : SpD) : Prop :=
  ∀ (cdv : Value) (A : Around) (outer : List PySem.Env) (s : Shared) (H : Hp) (E : XK), Room k (A.deeper (envOfC qual (defScope st) s.heap.objs.size f cdv)) → ∀ (n0 : Nat) (Xd : WX),
      ∃ (t : TS) (wd : WS), PSs (cxOf (HK.CX P w) P w K mg base N qual (defScope st) f cdv A outer s H E) (defBody st) t ∧ UpS K (fun _ => E) (RetX n0 Xd) t wd ∧ ∀ ds S Q, S.length = n0 → sp ds S Q Xd → wd (endD n0 Q) (startE N ds) S
theorem BodyD.ok {P : Program} {w : World} {K : PySem.W.Frag} {mg : Str → Option Value} {base : Heap} {qual : Str} {st : Stmt} {f : Addr} {N : List Str} {k : Nat} {sp : SpD} (hbody : BodyD P w K mg base qual st f N k sp)
    (cdv : Value) (A : Around) (outer : List PySem.Env) (s : Shared) (H : Hp) (vs : List V) (Q : VK) (E : XK) (hr : Room k (A.deeper (envOfC qual (defScope st) s.heap.objs.size f cdv))) (h : toSp K sp vs H Q E) :
    ∃ t, PSs (cxOf (HK.CX P w) P w K mg base N qual (defScope st) f cdv A outer s H E) (defBody st) t ∧ t { nx := fun _ H' => Q .non H', rt := Q } (L2.start N vs) H := by
  obtain ⟨B, Fd, as, S0, ds, Qd, Xd, r, ra, h, kq, kx⟩ := h
  obtain ⟨t, wd, hp, hu, hw⟩ := hbody cdv A outer s H E hr S0.length Xd
  refine ⟨t, hp, ?_⟩
  have hn : (Cd.as ⟨B, Fd, as⟩).length ≤ S0.length := by show as.length ≤ _; rw [r.len]; exact Nat.le_refl _
  have kx' : UpX K ⟨B, Fd, as⟩ (fun _ => E) (RetX S0.length Xd) := by
    constructor
    · rintro ρ σ C dd fs gs H' F' as' S' r' e' h1 h2 h3 ⟨S2, g, q⟩
      obtain ⟨F2, as2, r2, _, s2, _⟩ := g.ok hn r' (σ := []) EnvR.nil
      exact kx.dct [] [] C dd fs gs H' F2 as2 S2 r2 EnvR.nil h1 (s2 _ _ h2) (h3.mono s2) q
    · rintro ρ σ C H' F' as' S' r' e' ⟨S2, g, q⟩
      obtain ⟨F2, as2, r2, _, s2, _⟩ := g.ok hn r' (σ := []) EnvR.nil
      exact kx.non [] [] C H' F2 as2 S2 r2 EnvR.nil q
  have ret : ∀ (a : VL.A) (v : V) (S : Sto) (H F : Hp) (as' : List Addr), SR K ⟨B, Fd, as⟩ H F as' S → RpA K F as' a v → Ret S0.length Qd a S → Q v H := fun a v S H F as' r' ra q =>
    Ret.ok hn q r' ra fun a' F' as' S' r'' ra' q' => kq a' v H F' as' S' r'' r''.f0 r''.a0 ra' q'
  refine hu.up _ kx' (endD S0.length Qd) _ ?_ (startE N ds) S0 _ H Fd as r (EnvR.start ra) (hw ds S0 Qd rfl h)
  exact ⟨hn, fun ρ S σ H F as r' e' q => ret (.d .non) .non S H F as r' .non q, ret, fun _ _ _ _ _ _ _ _ q => q, fun _ _ _ _ _ _ _ _ q => q⟩
theorem toSp_len {K : PySem.W.Frag} {sp : SpD} {n : Nat} (len : ∀ ds S Q X, sp ds S Q X → ds.length = n) {vs : List V} {H : Hp} {Q : VK} {E : XK} (h : toSp K sp vs H Q E) : vs.length = n := by
  obtain ⟨B, Fd, as, S, ds, Qd, Xd, r, ra, h, _, _⟩ := h
  rw [← Paired.length ra]
  exact len ds S Qd Xd h
theorem OkD.ofD {P : Program} {w : World} {K : PySem.W.Frag} {mg : Str → Option Value} {base : Heap} {x qual : Str} {st : Stmt} {f : Addr} {N ps : List Str} {k : Nat} {sp : SpD} (F : DefAt K x qual st f) (S : FnScope N ps (defScope st))
    (hb : ∀ (kV doc pm : Value) (an : Option Addr) (cdv ct : Value) (us : List Value), us.length = ps.length → bindArgs (PySem.W.fnOf x qual (defArgs st) (defBody st) (defScope st) .none kV doc pm an cdv ct) ⟨us, []⟩ = pure (ps.zip us))
    (len : ∀ ds S Q X, sp ds S Q X → ds.length = ps.length) (hbody : BodyD P w K mg base qual st f N k sp) : OkD P w K mg base (k + 1) f ps (toSp K sp) :=
  OkD.of F S hb (fun vs H Q E h => toSp_len len h) (fun cdv A outer s H vs Q E hr h => hbody.ok cdv A outer s H vs Q E hr h)
/-- what a law promises -/
def spLaw (n : Nat) : SpD := fun ds S Q _ => ∃ ns : List Int, ds = [.d (.scr (ns.map D.int))] ∧ S = [] ∧ ns.length ≤ n ∧ Q (.d (.bl true)) []
theorem rpl_ints {K : PySem.W.Frag} {F : Hp} : ∀ ns : List Int, RpL K F (ns.map D.int) (ns.map V.int)
  | [] => .nil
  | n :: r => .cons (.int n) (rpl_ints r)
theorem law_sp {K : PySem.W.Frag} {n : Nat} {H : Hp} {a : Addr} {ns : List Int} (hl : ns.length ≤ n) (hS : SqL K H a (ns.map V.int)) : toSp K (spLaw n) [.ref a] H (fun v _ => v = .bl true) (fun _ _ _ => False) := by
  have r : SR K ⟨fun _ => none, H, []⟩ H H [] [] := by
    refine ⟨rfl, List.nodup_nil, Same.refl _, ?_, ?_, ?_, ?_, Same.refl _, List.prefix_refl _, ?_⟩
    · intro a u e; cases e
    · intro a; exact .inl rfl
    · intro n a e; simp at e
    · intro n a o e; simp at e
    · intro n a h e; simp at e
  refine ⟨fun _ => none, H, [], [], [.d (.scr (ns.map D.int))], fun a S => a = .d (.bl true), fun _ _ _ => False, r, .cons (Rp.scr hS (rpl_ints ns)) .nil, ⟨ns, rfl, rfl, hl, rfl⟩, ?_, ⟨?_, ?_⟩⟩
  rotate_left
  · intro _ _ _ _ _ _ _ _ _ _ _ _ _ _ _ q; exact q
  · intro _ _ _ _ _ _ _ _ _ q; exact q
  rintro a v H' F' as' S' _ _ _ ra rfl
  cases ra
  rfl
theorem fn_ofD {P : Program} {w : World} {K : PySem.W.Frag} {mg : Str → Option Value} {x qual : Str} {st : Stmt} {f : Addr} {p : Str} {k n : Nat} (F : DefAt K x qual st f)
    (hb : ∀ (kV doc pm : Value) (an : Option Addr) (cdv ct : Value) (u : Value), bindArgs (PySem.W.fnOf x qual (defArgs st) (defBody st) (defScope st) .none kV doc pm an cdv ct) ⟨[u], []⟩ = pure ([p].zip [u]))
    (N : List Str) (S : FnScope N [p] (defScope st)) (hbody : ∀ base, BodyD P w K mg base qual st f N k (spLaw n)) :
    ∃ fd : FuncData, (∀ (s : Shared) (u : Value), BindsTo s fd ⟨[u], []⟩ [(p, u)]) ∧ ∀ base : Heap, K.In base → base.Ns mainGlobals mg → FnOk P w K mg base (HK.CX P w) (k + 1) f fd [p] (toSp K (spLaw n)) :=
  fn_of F hb N S (fun vs H Q E h => toSp_len (n := 1) (fun ds S Q X h => by obtain ⟨ns, rfl, _⟩ := h; rfl) h) (fun base cdv A outer s H vs Q E hr h => (hbody base).ok cdv A outer s H vs Q E hr h)
/-! ### what is raised -/
class UpK (K : PySem.W.Frag) (E : L2.St → XK) (X : Env → WX) (t : L2.St → Hp → XK → Prop) (w : outParam (Env → Sto → WX → Prop)) : Prop where
  up : ∀ c, UpX K c E X → ∀ (ρ : Env) (S : Sto) (Q : WX) (σ : L2.St) (H F : Hp) (as : List Addr) (R : XK), SR K c H F as S → EnvR K F as ρ σ → w ρ S Q →
    (∀ (C dd : Addr) (fs : List (Str × D)) (gs : List (Str × V)) (H' F' : Hp) (as' : List Addr) (S' : Sto), SR K c H' F' as' S' → Same F F' → as <+: as' → H' dd = some (.xd gs) → F' dd = some (.xd gs) → RpF K F' fs gs → Q C fs S' → R (.ref C) (some dd) H') →
    (∀ (C : Addr) (H' F' : Hp) (as' : List Addr) (S' : Sto), SR K c H' F' as' S' → Same F F' → as <+: as' → Q C [] S' → R (.ref C) none H') → t σ H R
def tRaiseD (t : L2.St → Hp → XK → Prop) (E : L2.St → XK) : TS := fun _ σ H => t σ H (E σ)
theorem ps_raiseD {X : Cx} {W : L2.WX} {e : Expr} {t : L2.St → Hp → XK → Prop} {pos : Pos} (hc : X.calm = true) (tk : HK.Takes X W) (he : L2N.PMk X e t) : PS X (.Raise (some e) none pos) (tRaiseD t (fun σ cls d H => W cls d σ H)) := HK.ps_raise hc tk he
def wRaise (w : Env → Sto → WX → Prop) (X : Env → WX) : WS := fun _ ρ S => w ρ S (X ρ)
section
variable {K : PySem.W.Frag} {E : L2.St → XK} {X : Env → WX}
instance {t : L2.St → Hp → XK → Prop} {w : Env → Sto → WX → Prop} [ik : UpK K E X t w] : UpS K E X (tRaiseD t E) (wRaise w X) where
  up := fun c ux D Dh ed ρ S σ H F as r e h => ik.up c ux ρ S _ σ H F as _ r e h
    (fun C dd fs gs H' F' as' S' r' s' p' h1 h2 h3 q => ux.dct ρ σ C dd fs gs H' F' as' S' r' (e.mono s' p') h1 h2 h3 q)
    (fun C H' F' as' S' r' s' p' q => ux.non ρ σ C H' F' as' S' r' (e.mono s' p') q)
theorem mkN {C a d : Addr} {fs : List (Str × V)} {H H2 : Hp} {Q : XK} (ha : H a = none) (hd : H d = none) (hda : d ≠ a) (k : ∀ b, b ≠ a → b ≠ d → H2 b = H b) (h : ∀ d, H d = none → Q (.ref C) (some d) (upd H d (.xd fs))) : Q (.ref C) (some d) (upd (del H2 a) d (.xd fs)) := by
  have e : upd (del H2 a) d (.xd fs) = upd H d (.xd fs) := by
    funext b
    by_cases z : b = d
    · subst z; rw [upd_same, upd_same]
    · rw [upd_ne z, upd_ne z]
      by_cases y : b = a
      · subst y
        rw [ha]
        simp [del]
      · rw [show del H2 a b = H2 b from by simp [del, y], k b y z]
  rw [e]
  exact h d hd
theorem mkN1 {C : Addr} {f : Str} {n : V} {H : Hp} {Q : XK} (h : ∀ d, H d = none → Q (.ref C) (some d) (upd H d (.xd [(f, n)]))) : MkO C (spX1 C f) [n] H Q := by
  refine ⟨by show 1 ≤ 1000; decide, fun a ha => ⟨a, n, rfl, upd_same, fun d hd hda => ⟨rfl, d, [(f, n)], upd_same, ?_, ?_, ?_⟩⟩⟩
  · rw [upd_ne hda, upd_same]
  · rw [upd_ne hda] at hd; exact hd
  · rw [upd_ne hda] at hd
    exact mkN ha hd hda (fun b na nd => by rw [upd_ne na, upd_ne nd, upd_ne na]) h
theorem mkN2 {C : Addr} {f g : Str} {n m : V} {H : Hp} {Q : XK} (h : ∀ d, H d = none → Q (.ref C) (some d) (upd H d (.xd [(g, m), (f, n)]))) : MkO C (spX2 C f g) [n, m] H Q := by
  refine ⟨by show 2 ≤ 1000; decide, fun a ha => ⟨a, n, m, rfl, upd_same, fun d hd hda => ⟨rfl, d, [(g, m), (f, n)], ?_, upd_same, ?_, ?_⟩⟩⟩
  · rw [upd_ne (Ne.symm hda), upd_same]
  · rw [upd_ne hda] at hd; exact hd
  · rw [upd_ne hda] at hd
    exact mkN ha hd hda (fun b na nd => by rw [upd_ne nd, upd_ne na, upd_ne nd, upd_ne na]) h
theorem mkN3 {C : Addr} {f g l : Str} {n m o : V} {H : Hp} {Q : XK} (h : ∀ d, H d = none → Q (.ref C) (some d) (upd H d (.xd [(l, o), (g, m), (f, n)]))) : MkO C (spX3 C f g l) [n, m, o] H Q := by
  refine ⟨by show 3 ≤ 1000; decide, fun a ha => ⟨a, n, m, o, rfl, upd_same, fun d hd hda => ⟨rfl, d, [(l, o), (g, m), (f, n)], ?_, upd_same, ?_, ?_⟩⟩⟩
  · rw [upd_ne (Ne.symm hda), upd_ne (Ne.symm hda), upd_same]
  · rw [upd_ne hda] at hd; exact hd
  · rw [upd_ne hda] at hd
    exact mkN ha hd hda (fun b na nd => by rw [upd_ne nd, upd_ne nd, upd_ne na, upd_ne nd, upd_ne na]) h
def wX1 (C : Addr) (f : Str) (wa : WA) : Env → Sto → WX → Prop := fun ρ S Q => wa ρ S fun xs S1 => one (fun x => OnS (pureA S1 x) fun d => Q C [(f, d)] S1) xs
def wX2 (C : Addr) (f g : Str) (wa : WA) : Env → Sto → WX → Prop := fun ρ S Q => wa ρ S fun xs S1 => two (fun x y => OnS (pureA S1 x) fun d => OnS (pureA S1 y) fun e => Q C [(g, e), (f, d)] S1) xs
def three (k : A → A → A → Prop) : List A → Prop := fun xs => match xs with
  | [x, y, z] => k x y z
  | _ => False
theorem three_ok {F : Hp} {as : List Addr} {k : A → A → A → Prop} {xs : List A} {vs : List V} (h : RaL K F as xs vs) (q : three k xs) : ∃ x y z v w u, vs = [v, w, u] ∧ RpA K F as x v ∧ RpA K F as y w ∧ RpA K F as z u ∧ k x y z := by
  unfold three at q
  split at q
  · cases h with | cons h t => cases t with | cons h' t => cases t with | cons h'' t => cases t; exact ⟨_, _, _, _, _, _, rfl, h, h', h'', q⟩
  · exact q.elim
def wX3 (C : Addr) (f g l : Str) (wa : WA) : Env → Sto → WX → Prop := fun ρ S Q => wa ρ S fun xs S1 => three (fun x y z => OnS (pureA S1 x) fun d => OnS (pureA S1 y) fun e => OnS (pureA S1 z) fun o => Q C [(l, o), (g, e), (f, d)] S1) xs
instance {C : Addr} {f : Str} {t : TA} {wa : WA} [ia : UpA K E X t wa] : UpK K E X (tMkO C (spX1 C f) [] t) (wX1 C f wa) where
  up := fun c ux ρ S Q σ H F as R r e h k1 k2 => rd_mkO (ia.up c ux ρ S _ σ H F as _ r e h fun xs vs H1 F1 as1 S1 r1 s1 p1 rx q => by
    obtain ⟨x, v, rfl, hx, d, hd, q⟩ := one_ok rx q
    refine mkN1 fun dd hdd => ?_
    obtain ⟨r2, s2⟩ := r1.newD (o := .xd [(f, v)]) hdd
    exact k1 C dd _ _ _ _ _ _ r2 (s1.trans s2) p1 upd_same upd_same (.cons ((pureA_ok r1 hx hd).mono s2) .nil) q)
instance {C : Addr} {f g : Str} {t : TA} {wa : WA} [ia : UpA K E X t wa] : UpK K E X (tMkO C (spX2 C f g) [] t) (wX2 C f g wa) where
  up := fun c ux ρ S Q σ H F as R r e h k1 k2 => rd_mkO (ia.up c ux ρ S _ σ H F as _ r e h fun xs vs H1 F1 as1 S1 r1 s1 p1 rx q => by
    obtain ⟨x, y, v, w, rfl, hx, hy, d, hd, e, he, q⟩ := two_ok rx q
    refine mkN2 fun dd hdd => ?_
    obtain ⟨r2, s2⟩ := r1.newD (o := .xd [(g, w), (f, v)]) hdd
    exact k1 C dd _ _ _ _ _ _ r2 (s1.trans s2) p1 upd_same upd_same (.cons ((pureA_ok r1 hy he).mono s2) (.cons ((pureA_ok r1 hx hd).mono s2) .nil)) q)
instance {C : Addr} {f g l : Str} {t : TA} {wa : WA} [ia : UpA K E X t wa] : UpK K E X (tMkO C (spX3 C f g l) [] t) (wX3 C f g l wa) where
  up := fun c ux ρ S Q σ H F as R r e h k1 k2 => rd_mkO (ia.up c ux ρ S _ σ H F as _ r e h fun xs vs H1 F1 as1 S1 r1 s1 p1 rx q => by
    obtain ⟨x, y, z, v, w, u, rfl, hx, hy, hz, d, hd, e, he, o, ho, q⟩ := three_ok rx q
    refine mkN3 fun dd hdd => ?_
    obtain ⟨r2, s2⟩ := r1.newD (o := .xd [(l, u), (g, w), (f, v)]) hdd
    exact k1 C dd _ _ _ _ _ _ r2 (s1.trans s2) p1 upd_same upd_same (.cons ((pureA_ok r1 hz ho).mono s2) (.cons ((pureA_ok r1 hy he).mono s2) (.cons ((pureA_ok r1 hx hd).mono s2) .nil))) q)
/-! ### an instance is made -/
theorem SR.extra {c : Cd} {H F : Hp} {as : List Addr} {S : Sto} (r : SR K c H F as S) {p : Addr} {o : HO} (hp : H p = none) : SR K c (upd H p o) F as S := by
  have nF := r.none_F hp
  have nB := r.none_B hp
  refine ⟨r.len, r.nd, fun a u e => ?_, fun a u e => ?_, r.bf, r.ba, fun n a b h1 h2 => ?_, r.f0, r.a0, r.nw⟩
  · rw [upd_ne (ne_of_none e nF)]; exact r.fs _ _ e
  · rw [upd_ne (ne_of_none e nB)]; exact r.bs _ _ e
  · exact (r.ob n a b h1 h2).mono (Same.refl _) (List.prefix_refl _) (fun e => e) (fun _ => by rw [upd_ne (r.ne_new h1 hp)])
structure MakeP (C : Addr) (sp : SpD) (X : WX) (ds : List A) (S1 : Sto) (Q : WQ) : Prop where
  ex : CallP sp X (.ref S1.length :: ds) (S1 ++ [.ins C []]) (fun a S' => a = .d .non ∧ Q (.ref S1.length) S')
theorem makeP_ok {C : Addr} {sp : SpD} {c : Cd} {ρ : Env} {σ : L2.St} {H1 F1 : Hp} {as1 : List Addr} {S1 : Sto} {ds : List A} {vs : List V} {Q : WQ} {R : VK} (ux : UpX K c E X) (r1 : SR K c H1 F1 as1 S1) (e1 : EnvR K F1 as1 ρ σ) (rx : RaL K F1 as1 ds vs) (k : KtE K c F1 as1 Q R) (h : MakeP C sp (X ρ) ds S1 Q) :
    ∀ x dx, H1 x = none → H1 dx = none → dx ≠ x → toSp K sp (.ref x :: vs) (upd (upd H1 dx (.own x)) x (.ins C dx [])) (fun v H2 => v = .non ∧ R (.ref x) H2) (E σ) := by
  intro x dx hx hdx n
  have r2 := r1.extra (o := .own x) hdx
  have hx2 : upd H1 dx (.own x) x = none := by rw [upd_ne (Ne.symm n)]; exact hx
  have r3 := r2.newO (o := .ins C dx []) (b := .ins C []) hx2 (obI (r2.none_F hx2) upd_same .nil)
  have pre : as1 <+: as1 ++ [x] := List.prefix_append _ _
  have at1 : (as1 ++ [x])[S1.length]? = some x := by rw [← r1.len, List.getElem?_append_right (Nat.le_refl _), Nat.sub_self]; rfl
  refine CallP.ok (Q := fun a S' => a = .d .non ∧ Q (.ref S1.length) S') ux r3 (e1.mono (Same.refl _) pre) (.cons (show RpA K F1 (as1 ++ [x]) (.ref S1.length) (.ref x) from ⟨x, at1, rfl⟩) (rx.mono (Same.refl _) pre)) ?_ h.ex
  rintro a v H' F' as' S' r' s' p' ra ⟨rfl, q⟩
  cases ra
  exact ⟨rfl, k (.ref S1.length) (.ref x) H' F' as' S' r' s' (pre.trans p') ⟨x, pre_get p' at1, rfl⟩ q⟩
def wMake (C : Addr) (sp : SpD) (X : Env → WX) (wa : WA) : WE := fun ρ S Q => wa ρ S fun ds S1 => MakeP C sp (X ρ) ds S1 Q
instance {C : Addr} {sp : SpD} {E0 : XK} {t : TA} {wa : WA} [ia : UpA K (fun _ => E0) X t wa] : UpE K (fun _ => E0) X (tMake C (toSp K sp) [] E0 t) (wMake C sp X wa) where
  up := fun c ux ρ S Q σ H F as R r e h k => ia.up c ux ρ S _ σ H F as _ r e h fun ds vs H1 F1 as1 S1 r1 s1 p1 rx q => by
    rw [List.append_nil]
    exact makeP_ok (E := fun _ => E0) ux r1 (e.mono s1 p1) rx (k.mono s1 p1) q
instance {C : Addr} {sp : SpD} {t : TA} {wa : WA} [ia : UpA K E X t wa] : UpE K E X (tMakeS C (toSp K sp) E t) (wMake C sp X wa) where
  up := fun c ux ρ S Q σ H F as R r e h k => ia.up c ux ρ S _ σ H F as _ r e h fun ds vs H1 F1 as1 S1 r1 s1 p1 rx q => by
    rw [List.append_nil]
    exact makeP_ok ux r1 (e.mono s1 p1) rx (k.mono s1 p1) q
/-- a value of which one may forget that it is owned -/
def tGhE (t : TE) : TE := t
def wGhE (w : WE) : WE := fun ρ S Q => w ρ S fun a S1 => Ret S.length Q a S1
instance {t : TE} {w : WE} [ia : UpE K E X t w] : UpE K E X (tGhE t) (wGhE w) where
  up := fun c ux ρ S Q σ H F as R r e h k => by
    have ux' := ux.at r
    refine ia.up (c.at F as) ux' ρ S _ σ H F as _ r.toAt e h fun a v H1 F1 as1 S1 r1 s1 p1 ra q => ?_
    refine Ret.ok (by show as.length ≤ _; rw [r.len]; exact Nat.le_refl _) q r1 ra fun a' F' as' S' r' ra' q' => ?_
    exact k a' v H1 F' as' S' (r.ofAt r') r'.f0 r'.a0 ra' q'
end
theorem pe_ghE {X : Cx} {e : Expr} {t : TE} (h : PE X e t) : PE X e (tGhE t) := h
theorem pss_gh {X : Cx} {e : List Stmt} {t : TS} (h : PSs X e t) : PSs X e (tGh t) := h
end VL

namespace VL
open PySem PySem.Spec PyProof.Rows L2 RX

/-! ### dicts -/
def gK {κ β : Type} [DecidableEq κ] (kvs : List (κ × β)) (k : κ) : Option β := (kvs.find? fun kv => decide (kv.1 = k)).map (·.2)
def pK {κ β : Type} [DecidableEq κ] (kvs : List (κ × β)) (k : κ) (v : β) : List (κ × β) :=
  if (kvs.any fun kv => decide (kv.1 = k)) = true then kvs.map (fun kv => if kv.1 = k then (kv.1, v) else kv) else kvs ++ [(k, v)]
def dropKey {κ β : Type} [DecidableEq κ] (kvs : List (κ × β)) (k : κ) : List (κ × β) := kvs.filter fun kv => decide (kv.1 ≠ k)
theorem gK_put {κ β : Type} [DecidableEq κ] (kvs : List (κ × β)) (k j : κ) (y : β) : gK (pK kvs k y) j = if j = k then some y else gK kvs j := by
  unfold pK
  by_cases a : (kvs.any fun kv => decide (kv.1 = k)) = true
  · rw [if_pos a]
    unfold gK
    induction kvs with
    | nil => cases a
    | cons p r ih =>
      rw [List.map_cons, List.find?_cons, List.find?_cons]
      by_cases e : p.1 = k
      · rw [if_pos e]
        by_cases ej : p.1 = j
        · have : j = k := ej.symm.trans e
          simp [ej, this, e]
        · have nj : ¬ j = k := fun z => ej (e.trans z.symm)
          simp only [ej, decide_false, nj, if_false]
          by_cases a' : (r.any fun kv => decide (kv.1 = k)) = true
          · rw [ih a', if_neg nj]
          · have hm : r.map (fun kv => if kv.1 = k then (kv.1, y) else kv) = r := by
              refine (List.map_congr_left fun kv hkv => ?_).trans (List.map_id _)
              have : ¬ kv.1 = k := fun z => a' (List.any_eq_true.mpr ⟨kv, hkv, decide_eq_true z⟩)
              rw [if_neg this]; rfl
            rw [hm]
      · rw [if_neg e]
        have a' : (r.any fun kv => decide (kv.1 = k)) = true := by
          rw [List.any_cons, decide_eq_false e, Bool.false_or] at a; exact a
        by_cases ej : p.1 = j
        · have nj : ¬ j = k := fun z => e (ej.trans z)
          simp [ej, nj]
        · simp only [ej, decide_false]
          exact ih a'
  · rw [if_neg a]
    unfold gK
    rw [List.find?_append]
    by_cases ej : j = k
    · subst ej
      have hn : kvs.find? (fun kv => decide (kv.1 = j)) = none := by
        rw [List.find?_eq_none]
        intro kv hkv z
        exact a (List.any_eq_true.mpr ⟨kv, hkv, z⟩)
      simp [hn]
    · have : ¬ k = j := fun z => ej z.symm
      simp [this, ej]
theorem pK_len {κ β : Type} [DecidableEq κ] (kvs : List (κ × β)) (k : κ) (y : β) : (pK kvs k y).length ≤ kvs.length + 1 := by
  unfold pK
  split
  · rw [List.length_map]; omega
  · rw [List.length_append]; exact Nat.le_refl _
theorem gK_nil {κ β : Type} [DecidableEq κ] (k : κ) : gK ([] : List (κ × β)) k = none := rfl
section
variable {K : PySem.W.Frag}
theorem RpK.get {F : Hp} {k : Key} : ∀ {kvs : List (Key × D)} {gs : List (Key × V)}, RpK K F kvs gs → (gK kvs k = none → valV gs k = none) ∧ ∀ x, gK kvs k = some x → ∃ v, valV gs k = some v ∧ Rp K F x v
  | _, _, .nil => ⟨fun _ => rfl, fun x e => by cases e⟩
  | (f, y) :: r, (_, v) :: w, .cons h t => by
    obtain ⟨a, b⟩ := RpK.get (k := k) t
    by_cases z : f = k
    · have e1 : gK ((f, y) :: r) k = some y := by unfold gK; rw [List.find?_cons, decide_eq_true z]; rfl
      have e2 : valV ((f, v) :: w) k = some v := valV_pos z
      rw [e1, e2]
      exact ⟨fun q => (by cases q), fun x q => (by cases q; exact ⟨v, rfl, h⟩)⟩
    · have e1 : gK ((f, y) :: r) k = gK r k := by unfold gK; rw [List.find?_cons, decide_eq_false z]
      have e2 : valV ((f, v) :: w) k = valV w k := valV_neg z
      rw [e1, e2]
      exact ⟨a, b⟩
theorem RpK.any {F : Hp} {k : Key} : ∀ {kvs : List (Key × D)} {gs : List (Key × V)}, RpK K F kvs gs → (kvs.any fun kv => decide (kv.1 = k)) = (gs.any fun kv => decide (kv.1 = k))
  | _, _, .nil => rfl
  | _, _, .cons h t => by rw [List.any_cons, List.any_cons, RpK.any t]
theorem RpK.app {F : Hp} : ∀ {kvs ls : List (Key × D)} {gs ms : List (Key × V)}, RpK K F kvs gs → RpK K F ls ms → RpK K F (kvs ++ ls) (gs ++ ms)
  | _, _, _, _, .nil, b => b
  | _, _, _, _, .cons h t, b => .cons h (RpK.app t b)
theorem RpK.mapv {F : Hp} {k : Key} {x : D} {v : V} (h : Rp K F x v) : ∀ {kvs : List (Key × D)} {gs : List (Key × V)}, RpK K F kvs gs → RpK K F (kvs.map fun kv => if kv.1 = k then (kv.1, x) else kv) (gs.map fun kv => if kv.1 = k then (kv.1, v) else kv)
  | _, _, .nil => .nil
  | (f, y) :: r, (_, u) :: w, .cons q t => by
    rw [List.map_cons, List.map_cons]
    by_cases z : f = k
    · rw [if_pos z, if_pos z]; exact .cons h (RpK.mapv h t)
    · rw [if_neg z, if_neg z]; exact .cons q (RpK.mapv h t)
theorem RpK.put {F : Hp} {k : Key} {x : D} {v : V} {kvs : List (Key × D)} {gs : List (Key × V)} (h : RpK K F kvs gs) (hx : Rp K F x v) : RpK K F (pK kvs k x) (putK gs k v) := by
  unfold pK putK
  rw [h.any]
  split
  · exact h.mapv hx
  · exact h.app (.cons hx .nil)
theorem RaG.get {κ : Type} [DecidableEq κ] {F : Hp} {as : List Addr} {k : κ} : ∀ {kvs : List (κ × A)} {gs : List (κ × V)}, RaG K F as kvs gs → (gK kvs k = none → valV gs k = none) ∧ ∀ x, gK kvs k = some x → ∃ v, valV gs k = some v ∧ RpA K F as x v
  | _, _, .nil => ⟨fun _ => rfl, fun x e => by cases e⟩
  | (f, y) :: r, (f', v) :: w, .cons ⟨hf, h⟩ t => by
    cases (show f = f' from hf)
    obtain ⟨a, b⟩ := RaG.get (k := k) t
    by_cases z : f = k
    · have e1 : gK ((f, y) :: r) k = some y := by unfold gK; rw [List.find?_cons, decide_eq_true z]; rfl
      have e2 : valV ((f, v) :: w) k = some v := valV_pos z
      rw [e1, e2]
      exact ⟨fun q => (by cases q), fun x q => (by cases q; exact ⟨v, rfl, h⟩)⟩
    · have e1 : gK ((f, y) :: r) k = gK r k := by unfold gK; rw [List.find?_cons, decide_eq_false z]
      have e2 : valV ((f, v) :: w) k = valV w k := valV_neg z
      rw [e1, e2]
      exact ⟨a, b⟩
theorem RaG.any {κ : Type} [DecidableEq κ] {F : Hp} {as : List Addr} {k : κ} : ∀ {kvs : List (κ × A)} {gs : List (κ × V)}, RaG K F as kvs gs → (kvs.any fun kv => decide (kv.1 = k)) = (gs.any fun kv => decide (kv.1 = k))
  | _, _, .nil => rfl
  | (f, y) :: r, (f', v) :: w, .cons ⟨hf, h⟩ t => by
    cases (show f = f' from hf)
    rw [List.any_cons, List.any_cons, RaG.any t]
theorem RaG.mapv {κ : Type} [DecidableEq κ] {F : Hp} {as : List Addr} {k : κ} {x : A} {v : V} (h : RpA K F as x v) : ∀ {kvs : List (κ × A)} {gs : List (κ × V)}, RaG K F as kvs gs → RaG K F as (kvs.map fun kv => if kv.1 = k then (kv.1, x) else kv) (gs.map fun kv => if kv.1 = k then (kv.1, v) else kv)
  | _, _, .nil => .nil
  | (f, y) :: r, (f', u) :: w, .cons ⟨hf, q⟩ t => by
    cases (show f = f' from hf)
    rw [List.map_cons, List.map_cons]
    by_cases z : f = k
    · rw [if_pos z, if_pos z]; exact .cons ⟨rfl, h⟩ (RaG.mapv h t)
    · rw [if_neg z, if_neg z]; exact .cons ⟨rfl, q⟩ (RaG.mapv h t)
theorem RaG.put {κ : Type} [DecidableEq κ] {F : Hp} {as : List Addr} {k : κ} {x : A} {v : V} {kvs : List (κ × A)} {gs : List (κ × V)} (h : RaG K F as kvs gs) (hx : RpA K F as x v) : RaG K F as (pK kvs k x) (putK gs k v) := by
  unfold pK putK
  rw [h.any]
  split
  · exact h.mapv hx
  · exact PySem.Paired.snoc h ⟨rfl, hx⟩
theorem RaG.drop' {κ : Type} [DecidableEq κ] {F : Hp} {as : List Addr} {k : κ} : ∀ {kvs : List (κ × A)} {gs : List (κ × V)}, RaG K F as kvs gs → RaG K F as (dropKey kvs k) (dropK gs k)
  | _, _, .nil => .nil
  | (f, y) :: r, (f', v) :: w, .cons ⟨hf, h⟩ t => by
    cases (show f = f' from hf)
    unfold dropKey dropK
    rw [List.filter_cons, List.filter_cons]
    by_cases z : f = k
    · simp only [z, ne_eq, not_true, decide_false]; exact RaG.drop' t
    · simp only [z, ne_eq, not_false_iff, decide_true, if_true]; exact .cons ⟨rfl, h⟩ (RaG.drop' t)
theorem RpT.get {F : Hp} {k : List Key} : ∀ {kvs : List (List Key × D)} {gs : List (List Key × V)}, RpT K F kvs gs → (gK kvs k = none → valV gs k = none) ∧ ∀ x, gK kvs k = some x → ∃ v, valV gs k = some v ∧ Rp K F x v
  | _, _, .nil => ⟨fun _ => rfl, fun x e => by cases e⟩
  | (f, y) :: r, (f', v) :: w, .cons ⟨hf, h⟩ t => by
    cases (show f = f' from hf)
    obtain ⟨a, b⟩ := RpT.get (k := k) t
    by_cases z : f = k
    · have e1 : gK ((f, y) :: r) k = some y := by unfold gK; rw [List.find?_cons, decide_eq_true z]; rfl
      have e2 : valV ((f, v) :: w) k = some v := valV_pos z
      rw [e1, e2]
      exact ⟨fun q => (by cases q), fun x q => (by cases q; exact ⟨v, rfl, h⟩)⟩
    · have e1 : gK ((f, y) :: r) k = gK r k := by unfold gK; rw [List.find?_cons, decide_eq_false z]
      have e2 : valV ((f, v) :: w) k = valV w k := valV_neg z
      rw [e1, e2]
      exact ⟨a, b⟩
theorem RpT.any {F : Hp} {k : List Key} : ∀ {kvs : List (List Key × D)} {gs : List (List Key × V)}, RpT K F kvs gs → (kvs.any fun kv => decide (kv.1 = k)) = (gs.any fun kv => decide (kv.1 = k))
  | _, _, .nil => rfl
  | (f, y) :: r, (f', v) :: w, .cons ⟨hf, h⟩ t => by
    cases (show f = f' from hf)
    rw [List.any_cons, List.any_cons, RpT.any t]
theorem RpT.mapv {F : Hp} {k : List Key} {x : D} {v : V} (h : Rp K F x v) : ∀ {kvs : List (List Key × D)} {gs : List (List Key × V)}, RpT K F kvs gs → RpT K F (kvs.map fun kv => if kv.1 = k then (kv.1, x) else kv) (gs.map fun kv => if kv.1 = k then (kv.1, v) else kv)
  | _, _, .nil => .nil
  | (f, y) :: r, (f', u) :: w, .cons ⟨hf, q⟩ t => by
    cases (show f = f' from hf)
    rw [List.map_cons, List.map_cons]
    by_cases z : f = k
    · rw [if_pos z, if_pos z]; exact .cons ⟨rfl, h⟩ (RpT.mapv h t)
    · rw [if_neg z, if_neg z]; exact .cons ⟨rfl, q⟩ (RpT.mapv h t)
theorem Paired.app' {α β : Type} {F : α → β → Prop} : ∀ {xs xs' : List α} {ys ys' : List β}, Paired F xs ys → Paired F xs' ys' → Paired F (xs ++ xs') (ys ++ ys')
  | _, _, _, _, .nil, b => b
  | _, _, _, _, .cons h t, b => .cons h (Paired.app' t b)
theorem RpT.put {F : Hp} {k : List Key} {x : D} {v : V} {kvs : List (List Key × D)} {gs : List (List Key × V)} (h : RpT K F kvs gs) (hx : Rp K F x v) : RpT K F (pK kvs k x) (putK gs k v) := by
  unfold pK putK
  rw [h.any]
  split
  · exact h.mapv hx
  · exact Paired.app' h (.cons ⟨rfl, hx⟩ .nil)
theorem RpT.drop {F : Hp} {k : List Key} : ∀ {kvs : List (List Key × D)} {gs : List (List Key × V)}, RpT K F kvs gs → RpT K F (dropKey kvs k) (dropK gs k)
  | _, _, .nil => .nil
  | (f, y) :: r, (f', v) :: w, .cons ⟨hf, h⟩ t => by
    cases (show f = f' from hf)
    unfold dropKey dropK
    rw [List.filter_cons, List.filter_cons]
    by_cases z : f = k
    · simp only [z, ne_eq, not_true, decide_false]; exact RpT.drop t
    · simp only [z, ne_eq, not_false_iff, decide_true, if_true]; exact .cons ⟨rfl, h⟩ (RpT.drop t)
end
def keyA : A → Option Key
  | .d (.int i) => some (.inl i)
  | .d (.str x) => some (.inr x)
  | _ => none
def keysD : List D → Option (List Key)
  | [] => some []
  | .int i :: r => (keysD r).map (.inl i :: ·)
  | .str x :: r => (keysD r).map (.inr x :: ·)
  | _ :: _ => none
def keyT : A → Option (List Key)
  | .d (.tup xs) => keysD xs
  | _ => none
def dictA (S : Sto) : A → Option (List (Key × D) ⊕ List (List Key × D))
  | .d (.dK kvs) => some (.inl kvs)
  | .ref n => match S[n]? with
    | some (.dK kvs) => some (.inl kvs)
    | some (.dT kvs) => some (.inr kvs)
    | some (.fz (.dK kvs)) => some (.inl kvs)
    | _ => none
  | _ => none
/-- what stands at a key: none where y is no key -/
def dgetA (S : Sto) (x y : A) : Option (Option D) := match dictA S x with
  | some (.inl kvs) => (keyA y).map (gK kvs)
  | some (.inr kvs) => (keyT y).map (gK kvs)
  | none => none
/-- a dict of atoms -/
def dictR (S : Sto) : A → Option (List (Key × A) ⊕ List (List Key × A))
  | .ref n => match S[n]? with
    | some (.dR kvs) => some (.inl kvs)
    | some (.dS kvs) => some (.inr kvs)
    | _ => none
  | _ => none
def dgetR (S : Sto) (x y : A) : Option (Option A) := match dictR S x with
  | some (.inl kvs) => (keyA y).map (gK kvs)
  | some (.inr kvs) => (keyT y).map (gK kvs)
  | none => (dgetA S x y).map fun o => o.map A.d
section
variable {K : PySem.W.Frag} {E : L2.St → XK} {X : Env → WX}
theorem keyA_ok {F : Hp} {as : List Addr} {y : A} {u : V} {k : Key} (h : RpA K F as y u) (e : keyA y = some k) : u = kV k := by
  cases y with
  | d y => cases y <;> first | (cases e; done) | (cases e; cases h; rfl)
  | ref n => cases e
theorem keysD_ok {F : Hp} : ∀ {xs : List D} {vs : List V} {ks : List Key}, RpL K F xs vs → keysD xs = some ks → vs = ks.map kV
  | [], _, _, .nil, e => by cases e; rfl
  | x :: r, _, ks, .cons h t, e => by
    cases x with
    | int i =>
      obtain ⟨ks', e1, rfl⟩ := Option.map_eq_some_iff.mp e
      cases h
      rw [keysD_ok t e1]; rfl
    | str i =>
      obtain ⟨ks', e1, rfl⟩ := Option.map_eq_some_iff.mp e
      cases h
      rw [keysD_ok t e1]; rfl
    | _ => cases e
theorem keyT_ok {F : Hp} {as : List Addr} {y : A} {u : V} {k : List Key} (h : RpA K F as y u) (e : keyT y = some k) : ∃ b, u = .ref b ∧ F b = some (.tup (k.map kV)) := by
  cases y with
  | d y =>
    cases y with
    | tup xs => cases h with | tup e1 t => exact ⟨_, rfl, by rw [e1, keysD_ok t e]⟩
    | _ => cases e
  | ref n => cases e
/-- the dict that x is -/
theorem dictA_ok {c : Cd} {H F : Hp} {as : List Addr} {S : Sto} (r : SR K c H F as S) {x : A} {v : V} {o : List (Key × D) ⊕ List (List Key × D)} (h : RpA K F as x v) (e : dictA S x = some o) : ∃ p, v = .ref p ∧ (match o with
    | .inl kvs => ∃ gs, H p = some (.dK gs) ∧ RpK K F kvs gs
    | .inr kvs => ∃ gs, H p = some (.dT gs) ∧ RpT K F kvs gs) := by
  cases x with
  | d y =>
    cases y with
    | dK kvs => cases e; cases h with | dK e1 t => exact ⟨_, rfl, _, r.fs _ _ e1, t⟩
    | _ => cases e
  | ref n =>
    obtain ⟨p, hp, rfl⟩ := h
    have e : (match S[n]? with
      | some (.dK kvs) => some (.inl kvs)
      | some (.dT kvs) => some (.inr kvs)
      | some (.fz (.dK kvs)) => some (.inl kvs)
      | _ => none) = some o := e
    split at e
    · rename_i kvs ey; cases e; obtain ⟨_, gs, h1, h2⟩ := r.ob n p _ hp ey; exact ⟨p, rfl, gs, h1, h2⟩
    · rename_i kvs ey; cases e; obtain ⟨_, gs, h1, h2⟩ := r.ob n p _ hp ey; exact ⟨p, rfl, gs, h1, h2⟩
    · rename_i kvs ey; cases e; obtain ⟨_, h2⟩ := r.ob n p _ hp ey
      cases h2 with | dK e1 t => exact ⟨p, rfl, _, r.fs _ _ e1, t⟩
    · cases e
theorem dget_ok {c : Cd} {H F : Hp} {as : List Addr} {S : Sto} (r : SR K c H F as S) {x y : A} {v u : V} {o : Option D} (hx : RpA K F as x v) (hy : RpA K F as y u) (e : dgetA S x y = some o) : ∃ p ov, v = .ref p ∧ IsD H p ∧ DGet H p u ov ∧ (o = none → ov = none) ∧ ∀ d, o = some d → ∃ w, ov = some w ∧ Rp K F d w := by
  unfold dgetA at e
  split at e
  · rename_i kvs ed
    obtain ⟨p, rfl, gs, h1, h2⟩ := dictA_ok r hx ed
    obtain ⟨k, ek, rfl⟩ := Option.map_eq_some_iff.mp e
    have := keyA_ok hy ek
    subst this
    obtain ⟨a, b⟩ := h2.get (k := k)
    exact ⟨p, _, rfl, .inl ⟨gs, .inl h1⟩, DGet.k h1, a, b⟩
  · rename_i kvs ed
    obtain ⟨p, rfl, gs, h1, h2⟩ := dictA_ok r hx ed
    obtain ⟨k, ek, rfl⟩ := Option.map_eq_some_iff.mp e
    obtain ⟨b, rfl, hb⟩ := keyT_ok hy ek
    obtain ⟨a, b⟩ := RpT.get (k := k) h2
    exact ⟨p, _, rfl, .inr ⟨gs, .inl h1⟩, DGet.t h1 (r.fs _ _ hb), a, b⟩
  · cases e
theorem dictR_ok {c : Cd} {H F : Hp} {as : List Addr} {S : Sto} (r : SR K c H F as S) {x : A} {v : V} {o : List (Key × A) ⊕ List (List Key × A)} (h : RpA K F as x v) (e : dictR S x = some o) : ∃ p, v = .ref p ∧ (match o with
    | .inl kvs => ∃ gs, H p = some (.dK gs) ∧ RaG K F as kvs gs
    | .inr kvs => ∃ gs, H p = some (.dT gs) ∧ RaG K F as kvs gs) := by
  cases x with
  | d y => cases e
  | ref n =>
    obtain ⟨p, hp, rfl⟩ := h
    have e : (match S[n]? with
      | some (.dR kvs) => some (.inl kvs)
      | some (.dS kvs) => some (.inr kvs)
      | _ => none) = some o := e
    split at e
    · rename_i kvs ey; cases e; obtain ⟨_, gs, h1, h2⟩ := r.ob n p _ hp ey; exact ⟨p, rfl, gs, h1, h2⟩
    · rename_i kvs ey; cases e; obtain ⟨_, gs, h1, h2⟩ := r.ob n p _ hp ey; exact ⟨p, rfl, gs, h1, h2⟩
    · cases e
theorem dgetR_ok {c : Cd} {H F : Hp} {as : List Addr} {S : Sto} (r : SR K c H F as S) {x y : A} {v u : V} {o : Option A} (hx : RpA K F as x v) (hy : RpA K F as y u) (e : dgetR S x y = some o) : ∃ p ov, v = .ref p ∧ IsD H p ∧ DGet H p u ov ∧ (o = none → ov = none) ∧ ∀ d, o = some d → ∃ w, ov = some w ∧ RpA K F as d w := by
  unfold dgetR at e
  split at e
  · rename_i kvs ed
    obtain ⟨p, rfl, gs, h1, h2⟩ := dictR_ok r hx ed
    obtain ⟨k, ek, rfl⟩ := Option.map_eq_some_iff.mp e
    have := keyA_ok hy ek
    subst this
    obtain ⟨a, b⟩ := h2.get (k := k)
    exact ⟨p, _, rfl, .inl ⟨gs, .inl h1⟩, DGet.k h1, a, b⟩
  · rename_i kvs ed
    obtain ⟨p, rfl, gs, h1, h2⟩ := dictR_ok r hx ed
    obtain ⟨k, ek, rfl⟩ := Option.map_eq_some_iff.mp e
    obtain ⟨b, rfl, hb⟩ := keyT_ok hy ek
    obtain ⟨a, b⟩ := h2.get (k := k)
    exact ⟨p, _, rfl, .inr ⟨gs, .inl h1⟩, DGet.t h1 (r.fs _ _ hb), a, b⟩
  · obtain ⟨o', eo, rfl⟩ := Option.map_eq_some_iff.mp e
    obtain ⟨p, ov, rfl, h1, h2, h3, h4⟩ := dget_ok r hx hy eo
    refine ⟨p, ov, rfl, h1, h2, fun z => h3 (Option.map_eq_none_iff.mp z), fun d z => ?_⟩
    obtain ⟨d', rfl, rfl⟩ := Option.map_eq_some_iff.mp z
    exact h4 d' rfl
def wDGet (wd wy : WE) : WE := fun ρ S Q => wd ρ S fun x S1 => wy ρ S1 fun y S2 => OnS (dgetR S2 x y) fun o => OnS o fun d => Q d S2
instance {td ty : TE} {wd wy : WE} [id : UpE K E X td wd] [iy : UpE K E X ty wy] : UpE K E X (tDGet td ty) (wDGet wd wy) where
  up := fun c ux ρ S Q σ H F as R r e h k => id.up c ux ρ S _ σ H F as _ r e h fun x v H1 F1 as1 S1 r1 s1 p1 rx q1 =>
    iy.up c ux ρ S1 _ σ H1 F1 as1 _ r1 (e.mono s1 p1) q1 fun y u H2 F2 as2 S2 r2 s2 p2 ry q2 => by
      obtain ⟨o, eo, d, rfl, q⟩ := q2
      obtain ⟨p, ov, rfl, _, hg, _, hd⟩ := dgetR_ok r2 (rx.mono s2 p2) ry eo
      obtain ⟨w, rfl, hw⟩ := hd d rfl
      exact ⟨p, w, rfl, hg, (k.mono (s1.trans s2) (p1.trans p2)).here r2 hw q⟩
def dhasA (S : Sto) (x y : A) : Option Bool := match dictR S x with
  | some (.inl kvs) => (keyA y).map fun k => (gK kvs k).isSome
  | some (.inr kvs) => (keyT y).map fun k => (gK kvs k).isSome
  | none => (dgetA S x y).map Option.isSome
theorem dhasA_ok {S : Sto} {x y : A} {b : Bool} (e : dhasA S x y = some b) : ∃ o, dgetR S x y = some o ∧ o.isSome = b := by
  unfold dhasA at e
  unfold dgetR
  split at e
  · rename_i kvs ed
    obtain ⟨k, ek, rfl⟩ := Option.map_eq_some_iff.mp e
    exact ⟨_, by rw [ek]; rfl, rfl⟩
  · rename_i kvs ed
    obtain ⟨k, ek, rfl⟩ := Option.map_eq_some_iff.mp e
    exact ⟨_, by rw [ek]; rfl, rfl⟩
  · obtain ⟨k, ek, rfl⟩ := Option.map_eq_some_iff.mp e
    exact ⟨k.map A.d, by rw [ek]; rfl, by cases k <;> rfl⟩
def wDIn (neg : Bool) (wy wd : WE) : WE := fun ρ S Q => wy ρ S fun y S1 => wd ρ S1 fun x S2 => OnS (dhasA S2 x y) fun o => Q (.d (.bl (match neg with | true => !o | false => o))) S2
theorem isSome_eq {α β : Type} {o : Option α} {p : Option β} (h1 : o = none → p = none) (h2 : ∀ x, o = some x → ∃ y, p = some y) : p.isSome = o.isSome := by
  cases o with
  | none => rw [h1 rfl]; rfl
  | some x => obtain ⟨y, rfl⟩ := h2 x rfl; rfl
instance {td ty : TE} {wd wy : WE} [id : UpE K E X td wd] [iy : UpE K E X ty wy] : UpE K E X (tDIn ty td) (wDIn false wy wd) where
  up := fun c ux ρ S Q σ H F as R r e h k => iy.up c ux ρ S _ σ H F as _ r e h fun y u H1 F1 as1 S1 r1 s1 p1 ry q1 =>
    id.up c ux ρ S1 _ σ H1 F1 as1 _ r1 (e.mono s1 p1) q1 fun x v H2 F2 as2 S2 r2 s2 p2 rx q2 => by
      obtain ⟨b0, eb, q⟩ := q2
      obtain ⟨o, eo, rfl⟩ := dhasA_ok eb
      obtain ⟨p, ov, rfl, _, hg, h1, h2⟩ := dgetR_ok r2 rx (ry.mono s2 p2) eo
      refine ⟨p, ov, rfl, hg, ?_⟩
      rw [isSome_eq h1 fun x z => (h2 x z).imp fun _ w => w.1]
      exact (k.mono (s1.trans s2) (p1.trans p2)).here (a := .d (.bl _)) r2 (.bl _) q
instance {td ty : TE} {wd wy : WE} [id : UpE K E X td wd] [iy : UpE K E X ty wy] : UpE K E X (tDNotIn ty td) (wDIn true wy wd) where
  up := fun c ux ρ S Q σ H F as R r e h k => iy.up c ux ρ S _ σ H F as _ r e h fun y u H1 F1 as1 S1 r1 s1 p1 ry q1 =>
    id.up c ux ρ S1 _ σ H1 F1 as1 _ r1 (e.mono s1 p1) q1 fun x v H2 F2 as2 S2 r2 s2 p2 rx q2 => by
      obtain ⟨b0, eb, q⟩ := q2
      obtain ⟨o, eo, rfl⟩ := dhasA_ok eb
      obtain ⟨p, ov, rfl, _, hg, h1, h2⟩ := dgetR_ok r2 rx (ry.mono s2 p2) eo
      refine ⟨p, ov, rfl, hg, ?_⟩
      rw [isSome_eq h1 fun x z => (h2 x z).imp fun _ w => w.1]
      exact (k.mono (s1.trans s2) (p1.trans p2)).here (a := .d (.bl _)) r2 (.bl _) q
def putA' (S : Sto) (x y v : A) (P : Sto → Prop) : Prop := match x with
  | .ref n => (match S[n]? with
    | some (.dK kvs) => OnS (keyA y) fun k => OnS (pureA S v) fun d => kvs.length < 1000000 ∧ P (S.set n (.dK (pK kvs k d)))
    | some (.dT kvs) => OnS (keyT y) fun k => OnS (pureA S v) fun d => kvs.length < 1000000 ∧ P (S.set n (.dT (pK kvs k d)))
    | some (.dR kvs) => OnS (keyA y) fun k => kvs.length < 1000000 ∧ P (S.set n (.dR (pK kvs k v)))
    | some (.dS kvs) => OnS (keyT y) fun k => kvs.length < 1000000 ∧ P (S.set n (.dS (pK kvs k v)))
    | _ => False)
  | _ => False
def wDPut (wd wy wv : WE) : WS := fun D ρ S => wv ρ S fun v S1 => wd ρ S1 fun x S2 => wy ρ S2 fun y S3 => putA' S3 x y v fun S4 => D.nx ρ S4
theorem RpT.length {F : Hp} {kvs : List (List Key × D)} {gs : List (List Key × V)} (h : RpT K F kvs gs) : kvs.length = gs.length := Paired.length h
theorem RaG.length {κ : Type} {F : Hp} {as : List Addr} {kvs : List (κ × A)} {gs : List (κ × V)} (h : RaG K F as kvs gs) : kvs.length = gs.length := Paired.length h
instance {td ty tv : TE} {wd wy wv : WE} [id : UpE K E X td wd] [iy : UpE K E X ty wy] [iv : UpE K E X tv wv] : UpS K E X (sDPut td ty tv) (wDPut wd wy wv) where
  up := fun c ux D Dh ed ρ S σ H F as r e h => iv.up c ux ρ S _ σ H F as _ r e h fun v vv H1 F1 as1 S1 r1 s1 p1 rv q1 =>
    id.up c ux ρ S1 _ σ H1 F1 as1 _ r1 (e.mono s1 p1) q1 fun x vx H2 F2 as2 S2 r2 s2 p2 rx q2 =>
      iy.up c ux ρ S2 _ σ H2 F2 as2 _ r2 (e.mono (s1.trans s2) (p1.trans p2)) q2 fun y vy H3 F3 as3 S3 r3 s3 p3 ry q3 => by
        have s13 := (s1.trans s2).trans s3
        have p13 := (p1.trans p2).trans p3
        have rv3 := rv.mono (s2.trans s3) (p2.trans p3)
        unfold putA' at q3
        split at q3
        · obtain ⟨p, hp, rfl⟩ := rx.mono s3 p3
          split at q3
          · rename_i kvs ey
            obtain ⟨k, ek, d, hd, hl, q⟩ := q3
            obtain ⟨f0, gs, h1, h2⟩ := r3.ob _ p _ hp ey
            have := keyA_ok ry ek
            subst this
            refine ⟨p, _, rfl, DPut.k h1 (lt_size (by rw [← h2.length]; exact hl)), ?_⟩
            exact ed.nx ρ _ σ _ F3 as3 (r3.put hp f0 (obK f0 upd_same (h2.put (pureA_ok r3 rv3 hd)))) (e.mono s13 p13) q
          · rename_i kvs ey
            obtain ⟨k, ek, d, hd, hl, q⟩ := q3
            obtain ⟨f0, gs, h1, h2⟩ := r3.ob _ p _ hp ey
            obtain ⟨b, rfl, hb⟩ := keyT_ok ry ek
            refine ⟨p, _, rfl, DPut.t h1 (r3.fs _ _ hb) (lt_size (by rw [← RpT.length h2]; exact hl)), ?_⟩
            exact ed.nx ρ _ σ _ F3 as3 (r3.put hp f0 (obT f0 upd_same (RpT.put h2 (pureA_ok r3 rv3 hd)))) (e.mono s13 p13) q
          · rename_i kvs ey
            obtain ⟨k, ek, hl, q⟩ := q3
            obtain ⟨f0, gs, h1, h2⟩ := r3.ob _ p _ hp ey
            have := keyA_ok ry ek
            subst this
            refine ⟨p, _, rfl, DPut.k h1 (lt_size (by rw [← RaG.length h2]; exact hl)), ?_⟩
            exact ed.nx ρ _ σ _ F3 as3 (r3.put hp f0 (obDR f0 upd_same (RaG.put h2 rv3))) (e.mono s13 p13) q
          · rename_i kvs ey
            obtain ⟨k, ek, hl, q⟩ := q3
            obtain ⟨f0, gs, h1, h2⟩ := r3.ob _ p _ hp ey
            obtain ⟨b, rfl, hb⟩ := keyT_ok ry ek
            refine ⟨p, _, rfl, DPut.t h1 (r3.fs _ _ hb) (lt_size (by rw [← RaG.length h2]; exact hl)), ?_⟩
            exact ed.nx ρ _ σ _ F3 as3 (r3.put hp f0 (obDS f0 upd_same (RaG.put h2 rv3))) (e.mono s13 p13) q
          · exact q3.elim
        · exact q3.elim
/-- an empty dict of atoms -/
def tDR (t : TE) : TE := t
instance : UpE K E X (tDR tDNewK) (fun _ S Q => Q (.ref S.length) (S ++ [.dR []])) where
  up := fun c ux ρ S Q σ H F as R r e h k => fun p hp => k.newO r hp (obDR (r.none_F hp) upd_same .nil) h
instance : UpE K E X (tDR tDNewT) (fun _ S Q => Q (.ref S.length) (S ++ [.dS []])) where
  up := fun c ux ρ S Q σ H F as R r e h k => fun p hp => k.newO r hp (obDS (r.none_F hp) upd_same .nil) h
instance : UpE K E X tDNewK (fun _ S Q => Q (.ref S.length) (S ++ [.dK []])) where
  up := fun c ux ρ S Q σ H F as R r e h k => fun p hp => k.newO r hp (obK (r.none_F hp) upd_same .nil) h
instance : UpE K E X tDNewT (fun _ S Q => Q (.ref S.length) (S ++ [.dT []])) where
  up := fun c ux ρ S Q σ H F as R r e h k => fun p hp => k.newO r hp (obT (r.none_F hp) upd_same .nil) h
/-! ### methods -/
def isL (S : Sto) : A → Bool
  | .ref n => match S[n]? with
    | some (.lst _) => true
    | some (.lsR _) => true
    | some (.fz (.lst _)) => true
    | _ => false
  | .d (.lst _) => true
  | _ => false
/-- o.m(..) of a list -/
def wBM (wr : A → List A → Sto → WQ → Prop) (wo : WE) (wa : WA) : WE := fun ρ S Q => wo ρ S fun x S1 => isL S1 x = true ∧ wa ρ S1 fun xs S2 => wr x xs S2 Q
theorem isL_ok {c : Cd} {H F : Hp} {as : List Addr} {S : Sto} (r : SR K c H F as S) {x : A} {v : V} (h : RpA K F as x v) (e : isL S x = true) : ∃ p vs, v = .ref p ∧ SqL K H p vs := by
  cases x with
  | d y =>
    cases y with
    | lst xs => cases h with | lst h1 t => exact ⟨_, _, rfl, .inl (.inl (r.fs _ _ h1))⟩
    | _ => cases e
  | ref n =>
    obtain ⟨p, hp, rfl⟩ := h
    have e : (match S[n]? with
      | some (.lst _) => true
      | some (.lsR _) => true
      | some (.fz (.lst _)) => true
      | _ => false) = true := e
    split at e
    · rename_i kvs ey; obtain ⟨_, gs, h1, h2⟩ := r.ob n p _ hp ey; exact ⟨p, gs, rfl, .inl (.inl h1)⟩
    · rename_i kvs ey; obtain ⟨_, gs, h1, h2⟩ := r.ob n p _ hp ey; exact ⟨p, gs, rfl, .inl (.inl h1)⟩
    · rename_i kvs ey; obtain ⟨_, h2⟩ := r.ob n p _ hp ey
      cases h2 with | lst h1 t => exact ⟨p, _, rfl, .inl (.inl (r.fs _ _ h1))⟩
    · cases e
instance {m : V → List V → Hp → VK → Prop} {to : TE} {t : TA} {wr : A → List A → Sto → WQ → Prop} {wo : WE} {wa : WA} [im : UpM K m wr] [io : UpE K E X to wo] [ia : UpA K E X t wa] : UpE K E X (tBM K "list" m to t) (wBM wr wo wa) where
  up := fun c ux ρ S Q σ H F as R r e h k => rd_bm (io.up c ux ρ S _ σ H F as _ r e h fun x v H1 F1 as1 S1 r1 s1 p1 rx q1 => by
    obtain ⟨hl, q1⟩ := q1
    obtain ⟨p, vs, rfl, hp⟩ := isL_ok r1 rx hl
    exact ⟨.inl ⟨rfl, vs, hp⟩, ia.up c ux ρ S1 _ σ H1 F1 as1 _ r1 (e.mono s1 p1) q1 fun xs ws H2 F2 as2 S2 r2 s2 p2 rxs q2 =>
      im.up c S2 Q H2 F2 as2 R x _ xs ws r2 (rx.mono s2 p2) rxs q2 (k.mono (s1.trans s2) (p1.trans p2))⟩)
instance : UpM K rExtend (fun o xs S Q => one (fun x => (match o with
    | .ref n => (match S[n]? with
      | some (.lst ys) => OnS (mulD S x) fun zs => ys.length + zs.length ≤ 1000000 ∧ Q (.d .non) (S.set n (.lst (ys ++ zs)))
      | _ => False)
    | _ => False)) xs) where
  up := fun c S Q H F as R o ov xs vs r ho h q k => by
    obtain ⟨x, v, rfl, hx, q⟩ := one_ok h q
    split at q
    · obtain ⟨p, hp, rfl⟩ := ho
      split at q
      · rename_i ys ey
        obtain ⟨zs, ez, hl, q⟩ := q
        obtain ⟨f0, ws, h1, h2⟩ := r.ob _ p _ hp ey
        obtain ⟨b, us, rfl, h3, h4⟩ := mulD_ok r hx ez
        exact ⟨p, b, ws, us, rfl, rfl, h1, h3, le_size (by rw [← h2.length, ← h4.length]; exact hl), k.here' (r.put hp f0 (obL f0 upd_same (h2.append h4))) .non q⟩
      · exact q.elim
    · exact q.elim
instance : UpM K (fun x vs H Q => ∃ (l : Addr) (xs : List V) (i : Int) (y : V), x = .ref l ∧ vs = [.int i, y] ∧ H l = some (.lst xs) ∧ xs.length < sizeLine ∧ 0 ≤ i ∧ i < 2 ^ 63 ∧ Q .non (upd H l (.lst (xs.take i.toNat ++ [y] ++ xs.drop i.toNat))))
    (fun o xs S Q => two (fun a x => (match o with
      | .ref n => (match S[n]? with
        | some (.lst ys) => asI (fun i => OnS (pureA S x) fun d => ys.length < 1000000 ∧ 0 ≤ i ∧ i < 2 ^ 63 ∧ Q (.d .non) (S.set n (.lst (ys.take i.toNat ++ [d] ++ ys.drop i.toNat)))) a
        | _ => False)
      | _ => False)) xs) where
  up := fun c S Q H F as R o ov xs vs r ho h q k => by
    obtain ⟨a, x, va, v, rfl, ha, hx, q⟩ := two_ok h q
    split at q
    · obtain ⟨p, hp, rfl⟩ := ho
      split at q
      · rename_i ys ey
        obtain ⟨i, rfl, d, hd, hl, h0, h1', q⟩ := asI_ok ha q
        obtain ⟨f0, ws, h1, h2⟩ := r.ob _ p _ hp ey
        exact ⟨p, ws, i, v, rfl, rfl, h1, lt_size (by rw [← h2.length]; exact hl), h0, h1', k.here' (r.put hp f0 (obL f0 upd_same (((h2.take _).append (.cons (pureA_ok r hx hd) .nil)).append (h2.drop _)))) .non q⟩
      · exact q.elim
    · exact q.elim
def strsD : List D → Option (List Str)
  | [] => some []
  | .str x :: r => (strsD r).map (x :: ·)
  | _ :: _ => none
theorem strsD_map (xs : List Str) : strsD (xs.map D.str) = some xs := by
  induction xs with
  | nil => rfl
  | cons b r ih => rw [List.map_cons, strsD, ih]; rfl
theorem strsD_ok {F : Hp} : ∀ {xs : List D} {vs : List V} {bs : List Str}, RpL K F xs vs → strsD xs = some bs → vs = bs.map V.str ∧ ∀ z ∈ bs, Cp z
  | [], _, _, .nil, e => by cases e; exact ⟨rfl, fun _ h => by cases h⟩
  | x :: r, _, bs, .cons h t, e => by
    cases x with
    | str b =>
      rw [strsD] at e
      obtain ⟨bs', e1, rfl⟩ := Option.map_eq_some_iff.mp e
      cases h with | str cp =>
      obtain ⟨a, b'⟩ := strsD_ok t e1
      rw [a]
      exact ⟨rfl, fun z hz => (List.mem_cons.mp hz).elim (fun q => q ▸ cp) (b' z)⟩
    | _ => cases e
/-- sep.join(..) -/
def wM1 (wr : A → List A → Sto → WQ → Prop) (wo we : WE) : WE := fun ρ S Q => wo ρ S fun x S1 => strA x = true ∧ we ρ S1 fun y S2 => wr x [y] S2 Q
theorem strA_ok {F : Hp} {as : List Addr} {x : A} {v : V} (h : RpA K F as x v) (e : strA x = true) : ∃ a, v = .str a := by
  cases x with
  | d y => cases y <;> first | (cases e; done) | (cases h; exact ⟨_, rfl⟩)
  | ref n => cases e
instance {m : V → List V → Hp → VK → Prop} {to te : TE} {wr : A → List A → Sto → WQ → Prop} {wo we : WE} [im : UpM K m wr] [io : UpE K E X to wo] [ie : UpE K E X te we] : UpE K E X (tM1 m to te) (wM1 wr wo we) where
  up := fun c ux ρ S Q σ H F as R r e h k => rd_m1 (io.up c ux ρ S _ σ H F as _ r e h fun x v H1 F1 as1 S1 r1 s1 p1 rx q1 => by
    obtain ⟨hs, q1⟩ := q1
    exact ⟨strA_ok rx hs, ie.up c ux ρ S1 _ σ H1 F1 as1 _ r1 (e.mono s1 p1) q1 fun y u H2 F2 as2 S2 r2 s2 p2 ry q2 =>
      im.up c S2 Q H2 F2 as2 R x v [y] [u] r2 (rx.mono s2 p2) (.cons ry .nil) q2 (k.mono (s1.trans s2) (p1.trans p2))⟩)
instance : UpM K (fun x xs H Q => ∃ a p, ∃ ys : List Str, x = .str a ∧ xs = [.ref p] ∧ (SqL K H p (ys.map V.str) ∨ SqT K H p (ys.map V.str)) ∧ (ys.map (·.length)).sum + ys.length * a.length ≤ 16777216 ∧ Q (.str (Txt.join a ys)) H)
    (fun o xs S Q => one (fun x => (match o with
      | .d (.str a) => OnS (seqD S x) fun ds => OnS (strsD ds) fun ys => (ys.map (·.length)).sum + ys.length * a.length ≤ 16777216 ∧ Q (.d (.str (Str.join a ys))) S
      | _ => False)) xs) where
  up := fun c S Q H F as R o ov xs vs r ho h q k => by
    obtain ⟨x, v, rfl, hx, q⟩ := one_ok h q
    split at q
    · obtain ⟨ds, e1, ys, e2, hl, q⟩ := q
      cases ho with | str cp =>
      obtain ⟨p, ws, rfl, h1, t⟩ := seqD_ok r hx e1
      obtain ⟨rfl, hc⟩ := strsD_ok t e2
      refine ⟨_, p, ys, rfl, rfl, h1, hl, ?_⟩
      rw [TL.join_eq]
      exact k.here (a := .d (.str _)) r (.str (Cp.join cp hc)) q
    · exact q.elim
end
theorem pe_dR {X : Cx} {e : Expr} {t : TE} (h : PE X e t) : PE X e (tDR t) := h
end VL

namespace VL
open PySem PySem.Spec PyProof.Rows L2 RX
/-! ### forms one uses -/
theorem CallP.p {sp : SpD} {X : WX} {ds : List A} {S1 : Sto} {Q : WQ} (hd : ds = ds.map (A.ren (rn [] S1.length))) (h : sp ds [] (fun a S' => Q (a.ren (rn [] S1.length)) (scat (rn [] S1.length) S1 [] S')) (fun C fs S' => X C fs (scat (rn [] S1.length) S1 [] S'))) : CallP sp X ds S1 Q :=
  .mk ⟨[], ds, [], List.nodup_nil, hd, trivial, h⟩
/-- one handle n goes along, as 0 -/
theorem CallP.h1 {sp : SpD} {X : WX} {ds ds0 : List A} {S1 : Sto} {Q : WQ} (n : Nat) {o o0 : Ob} (hd : ds = ds0.map (A.ren (rn [n] S1.length))) (ho : S1[n]? = some o) (h0 : o = o0.ren (rn [n] S1.length))
    (h : sp ds0 [o0] (fun a S' => Q (a.ren (rn [n] S1.length)) (scat (rn [n] S1.length) S1 [n] S')) (fun C fs S' => X C fs (scat (rn [n] S1.length) S1 [n] S'))) : CallP sp X ds S1 Q :=
  .mk ⟨[n], ds0, [o0], by simp, hd, ⟨by rw [ho, h0], trivial⟩, h⟩
theorem CallP.h2 {sp : SpD} {X : WX} {ds ds0 : List A} {S1 : Sto} {Q : WQ} (n m : Nat) {o o0 p p0 : Ob} (nm : n ≠ m) (hd : ds = ds0.map (A.ren (rn [n, m] S1.length))) (ho : S1[n]? = some o) (h0 : o = o0.ren (rn [n, m] S1.length)) (hp : S1[m]? = some p) (hp0 : p = p0.ren (rn [n, m] S1.length))
    (h : sp ds0 [o0, p0] (fun a S' => Q (a.ren (rn [n, m] S1.length)) (scat (rn [n, m] S1.length) S1 [n, m] S')) (fun C fs S' => X C fs (scat (rn [n, m] S1.length) S1 [n, m] S'))) : CallP sp X ds S1 Q :=
  .mk ⟨[n, m], ds0, [o0, p0], by simp [nm], hd, ⟨by rw [ho, h0], by rw [hp, hp0], trivial⟩, h⟩
/-- a new instance; the other values are data -/
theorem MakeP.p {C : Addr} {sp : SpD} {X : WX} {ds : List A} {S1 : Sto} {Q : WQ} (hd : ds = ds.map (A.ren (rn [S1.length] (S1 ++ [Ob.ins C []]).length)))
    (h : sp (.ref 0 :: ds) [.ins C []] (fun a S' => a.ren (rn [S1.length] (S1 ++ [Ob.ins C []]).length) = .d .non ∧ Q (.ref S1.length) (scat (rn [S1.length] (S1 ++ [Ob.ins C []]).length) (S1 ++ [.ins C []]) [S1.length] S')) (fun C' fs S' => X C' fs (scat (rn [S1.length] (S1 ++ [Ob.ins C []]).length) (S1 ++ [.ins C []]) [S1.length] S'))) : MakeP C sp X ds S1 Q :=
  ⟨.mk ⟨[S1.length], .ref 0 :: ds, [.ins C []], by simp, by rw [List.map_cons, ← hd]; rfl, ⟨by rw [List.getElem?_append_right (Nat.le_refl _), Nat.sub_self]; rfl, trivial⟩, h⟩⟩
/-- a comprehension whose items only read: f what comes of each -/
theorem LcP.map {xs : List D} {gd : Sto → Prop} {g : WG} {is vs : List Nat} {wt : WT} {we : WE} {ρ : Env} {S1 : Sto} {Q : WQ} (f : D → Option D) (hi : is.all (fun i => vs.contains i) = true) (hl : xs.length < 1000000) (hg : gd S1)
    (hs : ∀ x ∈ xs, ∀ (P : Option D → Sto → Prop), P (f x) S1 → g (.d x) (wipeE ρ vs) S1 fun ρ2 S2 => wt ρ2 S2 fun b S3 => Br b (we ρ2 S3 fun y S4 => OnS (pureA S4 y) fun d => P (some d) S4) (P none S3)) (k : Q (.d (.lst (xs.filterMap f))) S1) : LcP xs gd g is wt we vs ρ S1 Q := by
  refine ⟨hi, hl, fun i acc S' => S' = S1 ∧ acc = (xs.take i).filterMap f, ⟨rfl, rfl⟩, ?_, ?_⟩
  · rintro i x acc S' hx ⟨rfl, rfl⟩
    refine ⟨hg, ?_⟩
    have ht : xs.take (i + 1) = xs.take i ++ [x] := by rw [List.take_add_one, hx]; rfl
    refine hs x (List.mem_of_getElem? hx) (fun o S5 => match o with
      | some d => Fin S'.length (fun _ S5 => S5 = S' ∧ (xs.take i).filterMap f ++ [d] = (xs.take (i + 1)).filterMap f) [] S5
      | none => Fin S'.length (fun _ S5 => S5 = S' ∧ (xs.take i).filterMap f = (xs.take (i + 1)).filterMap f) [] S5) ?_
    rw [ht, List.filterMap_append]
    cases e : f x with
    | some d => exact Fin.now ⟨rfl, by simp [e]⟩
    | none => exact Fin.now ⟨rfl, by simp [e]⟩
  · rintro acc S' ⟨rfl, rfl⟩
    exact ⟨hg, by rw [List.take_length]; exact k⟩
/-- a loop over encoded things -/
theorem ForP.of {α : Type} {l : List α} {enc : α → D} {gd : Sto → Prop} {g : WG} {b : WS} {D' : EndD} {ρ : Env} {S1 : Sto} (Inv : Nat → Env → Sto → Prop) (h0 : Inv 0 ρ S1)
    (hs : ∀ i c ρ' S', l[i]? = some c → c ∈ l → l.take (i + 1) = l.take i ++ [c] → Inv i ρ' S' → gd S' ∧ g (.d (enc c)) ρ' S' fun ρ2 S2 => b { D' with nx := Fin S1.length (Inv (i + 1)), ct := Fin S1.length (Inv (i + 1)), bk := D'.nx, n0 := S1.length } ρ2 S2)
    (hd : ∀ ρ' S', Inv l.length ρ' S' → gd S' ∧ D'.nx ρ' S') : ForP (l.map enc) gd g b D' ρ S1 := by
  refine ⟨Inv, h0, fun i x ρ' S' hx iv => ?_, fun ρ' S' iv => hd ρ' S' (by rw [List.length_map] at iv; exact iv)⟩
  rw [List.getElem?_map] at hx
  obtain ⟨c, hc, rfl⟩ := Option.map_eq_some_iff.mp hx
  exact hs i c ρ' S' hc (List.mem_of_getElem? hc) (by rw [List.take_add_one, hc]; rfl) iv
/-- a comprehension over encoded things that only reads -/
theorem LcP.of {α : Type} {l : List α} {enc : α → D} {gd : Sto → Prop} {g : WG} {is vs : List Nat} {wt : WT} {we : WE} {ρ : Env} {S1 : Sto} {Q : WQ} (f : α → Option D) (hi : is.all (fun i => vs.contains i) = true) (hl : l.length < 1000000) (hg : gd S1)
    (hs : ∀ c ∈ l, ∀ (P : Option D → Sto → Prop), P (f c) S1 → g (.d (enc c)) (wipeE ρ vs) S1 fun ρ2 S2 => wt ρ2 S2 fun b S3 => Br b (we ρ2 S3 fun y S4 => OnS (pureA S4 y) fun d => P (some d) S4) (P none S3)) (k : Q (.d (.lst (l.filterMap f))) S1) : LcP (l.map enc) gd g is wt we vs ρ S1 Q := by
  refine ⟨hi, by rw [List.length_map]; exact hl, fun i acc S' => S' = S1 ∧ acc = (l.take i).filterMap f, ⟨rfl, rfl⟩, ?_, ?_⟩
  · rintro i x acc S' hx ⟨rfl, rfl⟩
    refine ⟨hg, ?_⟩
    rw [List.getElem?_map] at hx
    obtain ⟨c, hc, rfl⟩ := Option.map_eq_some_iff.mp hx
    have ht : l.take (i + 1) = l.take i ++ [c] := by rw [List.take_add_one, hc]; rfl
    refine hs c (List.mem_of_getElem? hc) (fun o S5 => match o with
      | some d => Fin S'.length (fun _ S5 => S5 = S' ∧ (l.take i).filterMap f ++ [d] = (l.take (i + 1)).filterMap f) [] S5
      | none => Fin S'.length (fun _ S5 => S5 = S' ∧ (l.take i).filterMap f = (l.take (i + 1)).filterMap f) [] S5) ?_
    rw [ht, List.filterMap_append]
    cases e : f c with
    | some d => exact Fin.now ⟨rfl, by simp [e]⟩
    | none => exact Fin.now ⟨rfl, by simp [e]⟩
  · rintro acc S' ⟨rfl, rfl⟩
    exact ⟨hg, by rw [List.length_map, List.take_length]; exact k⟩
/-- every item gives one -/
theorem LcP.all {α : Type} {l : List α} {enc : α → D} {gd : Sto → Prop} {g : WG} {is vs : List Nat} {wt : WT} {we : WE} {ρ : Env} {S1 : Sto} {Q : WQ} (f : α → D) (hi : is.all (fun i => vs.contains i) = true) (hl : l.length < 1000000) (hg : gd S1)
    (hs : ∀ c ∈ l, ∀ (P : Option D → Sto → Prop), P (some (f c)) S1 → g (.d (enc c)) (wipeE ρ vs) S1 fun ρ2 S2 => wt ρ2 S2 fun b S3 => Br b (we ρ2 S3 fun y S4 => OnS (pureA S4 y) fun d => P (some d) S4) (P none S3)) (k : Q (.d (.lst (l.map f))) S1) : LcP (l.map enc) gd g is wt we vs ρ S1 Q :=
  LcP.of (fun c => some (f c)) hi hl hg hs (by rw [show l.filterMap (fun c => some (f c)) = l.map f from by rw [← List.filterMap_eq_map]; rfl]; exact k)
/-- turn by turn -/
def ForL (L : Nat) (gd : Sto → Prop) (g : WG) (b : WS) (D' : EndD) : List D → Env → Sto → Prop
  | [], ρ, S => gd S ∧ D'.nx ρ S
  | x :: xs, ρ, S => gd S ∧ g (.d x) ρ S fun ρ2 S2 => b { D' with nx := Fin L (ForL L gd g b D' xs), ct := Fin L (ForL L gd g b D' xs), bk := D'.nx, n0 := L } ρ2 S2
theorem ForP.un {xs : List D} {gd : Sto → Prop} {g : WG} {b : WS} {D' : EndD} {ρ : Env} {S1 : Sto} (h : ForL S1.length gd g b D' xs ρ S1) : ForP xs gd g b D' ρ S1 := by
  refine ⟨fun i ρ S => ForL S1.length gd g b D' (xs.drop i) ρ S, h, fun i x ρ' S' hx iv => ?_, fun ρ' S' iv => ?_⟩
  · have e : xs.drop i = x :: xs.drop (i + 1) := by
      obtain ⟨hl, rfl⟩ := List.getElem?_eq_some_iff.mp hx
      exact List.drop_eq_getElem_cons hl
    have iv : ForL S1.length gd g b D' (xs.drop i) ρ' S' := iv
    rw [e] at iv
    exact iv
  · have iv : ForL S1.length gd g b D' (xs.drop xs.length) ρ' S' := iv
    rw [List.drop_length] at iv
    exact iv
theorem all_fl (xs : List Str) : (xs.map D.str).all D.fl = true := by
  rw [List.all_eq_true]
  intro x hx
  obtain ⟨y, _, rfl⟩ := List.mem_map.mp hx
  rfl
theorem D.eqv_str (x y : Str) : D.eqv (.str x) (.str y) = decide (x = y) := by
  show (x == y) = _
  rw [Bool.eq_iff_iff, beq_iff_eq, decide_eq_true_eq]
theorem D.eqv_int (x y : Int) : D.eqv (.int x) (.int y) = decide (x = y) := by
  show (x == y) = _
  rw [Bool.eq_iff_iff, beq_iff_eq, decide_eq_true_eq]
theorem inD_strs (x : Str) (xs : List Str) : inD (.str x) (xs.map D.str) = decide (x ∈ xs) := by
  unfold inD
  rw [List.any_map, Bool.eq_iff_iff, List.any_eq_true, decide_eq_true_eq]
  constructor
  · rintro ⟨y, hy, h⟩
    have h : D.eqv (.str y) (.str x) = true := h
    rw [D.eqv_str, decide_eq_true_eq] at h
    rw [← h]; exact hy
  · intro h
    exact ⟨x, h, by show D.eqv (.str x) (.str x) = true; rw [D.eqv_str]; simp⟩
/-- not in a list of texts -/
theorem nin_t {x : Str} {xs : List Str} (h : (if true = true then !inD (.str x) (xs.map D.str) else inD (.str x) (xs.map D.str)) = true) : x ∉ xs := by simpa [inD_strs] using h
theorem nin_f {x : Str} {xs : List Str} (h : (if true = true then !inD (.str x) (xs.map D.str) else inD (.str x) (xs.map D.str)) = false) : x ∈ xs := by simpa [inD_strs] using h
theorem in_t {x : Str} {xs : List Str} (h : (if false = true then !inD (.str x) (xs.map D.str) else inD (.str x) (xs.map D.str)) = true) : x ∈ xs := by simpa [inD_strs] using h
theorem in_f {x : Str} {xs : List Str} (h : (if false = true then !inD (.str x) (xs.map D.str) else inD (.str x) (xs.map D.str)) = false) : x ∉ xs := by simpa [inD_strs] using h
/-- over enumerate -/
theorem ForP.enum {α : Type} {l : List α} {enc : α → D} {gd : Sto → Prop} {g : WG} {b : WS} {D' : EndD} {ρ : Env} {S1 : Sto} (Inv : Nat → Env → Sto → Prop) (h0 : Inv 0 ρ S1)
    (hs : ∀ i c ρ' S', l[i]? = some c → c ∈ l → l.take (i + 1) = l.take i ++ [c] → Inv i ρ' S' → gd S' ∧ g (.d (.tup [.int (i : Nat), enc c])) ρ' S' fun ρ2 S2 => b { D' with nx := Fin S1.length (Inv (i + 1)), ct := Fin S1.length (Inv (i + 1)), bk := D'.nx, n0 := S1.length } ρ2 S2)
    (hd : ∀ ρ' S', Inv l.length ρ' S' → gd S' ∧ D'.nx ρ' S') : ForP (enumD (l.map enc)) gd g b D' ρ S1 := by
  refine ⟨Inv, h0, fun i x ρ' S' hx iv => ?_, fun ρ' S' iv => hd ρ' S' (by rw [enumD_len, List.length_map] at iv; exact iv)⟩
  obtain ⟨y, hy, rfl⟩ := enumD_get hx
  rw [List.getElem?_map] at hy
  obtain ⟨c, hc, rfl⟩ := Option.map_eq_some_iff.mp hy
  exact hs i c ρ' S' hc (List.mem_of_getElem? hc) (by rw [List.take_add_one, hc]; rfl) iv
theorem kEnum {X : Cx} {K : PySem.W.Frag} (h : X.K = K) {e : Expr} {ta : TA} {p pos tpos : Pos} {elts : List Expr} {kk : Nat} (hg : Gl X "enumerate") (hm : X.mg "enumerate" = none) (ha : PA X [e] ta) (hs : starEach [e] X.env = [(false, eval e X.env)] := by rfl) :
    PI X (.Tuple elts kk tpos) (.Call (.Name "enumerate" p) [e] [] pos) (iEnum K ta) := h ▸ pi_enum hg hm ha hs
theorem kEnumT {X : Cx} {K : PySem.W.Frag} (h : X.K = K) {e : Expr} {ta : TA} {p pos tpos : Pos} {elts : List Expr} {kk : Nat} (hg : Gl X "enumerate") (hm : X.mg "enumerate" = none) (ha : PA X [e] ta) (hs : starEach [e] X.env = [(false, eval e X.env)] := by rfl) :
    PI X (.Tuple elts kk tpos) (.Call (.Name "enumerate" p) [e] [] pos) (iEnumT K ta) := h ▸ pi_enumT hg hm ha hs
theorem kRevL {X : Cx} {K : PySem.W.Frag} (h : X.K = K) {e : Expr} {te : TE} {k : Nat} {p1 p2 p3 pos : Pos} (he : PE X e te) : PE X (.Subscript e (.Slice none none (some (.UnaryOp .USub (.Constant (.int 1) k p1) p2)) p3) pos) (tRevL K te) := h ▸ pe_revL he
theorem kAny {X : Cx} {K : PySem.W.Frag} (h : X.K = K) (hc : X.calm = true) : CallR X (.builtin "any") (rAny K) := h ▸ cr_any hc
theorem kIsi {X : Cx} {K : PySem.W.Frag} (h : X.K = K) : CallR X (.builtin "isinstance") (rIsi K) := h ▸ call_isi
theorem CallP.all' {sp : SpD} {X : WX} {ds : List A} {S1 S2 : Sto} {Q : WQ} (e : S1 = S2) (h : sp ds S2 Q X) : CallP sp X ds S1 Q := e ▸ .all (e ▸ h)
theorem Ret.now' {n0 : Nat} {Q : WQ} {a : A} {S S' : Sto} (e : S = S') (h : Q a S') : Ret n0 Q a S := .now (e ▸ h)
end VL

namespace VL
open PySem PySem.Spec PyProof.Rows L2 RX

/-! ### try: body, except x as n: suite -/
def tTryAs (K : PySem.W.Frag) (c : Value) (i : Nat) (tb : L2.WX → TS) (ts : Addr → Value → Option Addr → TS) (Wout : L2.WX) : TS := fun D σ H => tb (wAs K c i ts Wout D) D σ H
def tTryOnly (K : PySem.W.Frag) (c : Value) (tb : L2.WX → TS) (ts : Addr → Value → Option Addr → TS) (Wout : L2.WX) : TS := fun D σ H => tb (wOnly K c ts Wout D) D σ H
section
variable {X : Cx} {x n : Str} {c : Value} {i : Nat} {body suite : List Stmt} {b₀ : Stmt} {np pos pos' : Pos} {tb : L2.WX → TS} {ts : Addr → Value → Option Addr → TS} {Wout : L2.WX}
theorem ps_try_asD (hs : X.stack = X.env :: X.outer) (hf : X.env.frame = some X.env.locals) (hN : X.N.Nodup) (hi : X.N[i]? = some n) (hln : X.env.kindOf n = some .local) (hc : Names X x c) (tk : HK.Takes X Wout)
    (hb : ∀ (W : L2.WX) (pn : List (Addr × Obj)) (xe : Value → Shared → Prop), HK.Takes (X.tr pn xe) W → PassesOwn (model X.prog X.w) X.A X.env xe → PSs (X.tr pn xe) body (tb W))
    (hsu : HK.Su X (b₀ :: suite) ts) :
    PS X (.Try body [.ExceptHandler (some (.Name x np)) (some n) (b₀ :: suite) pos'] [] [] pos) (tTryAs X.K c i tb ts Wout) := HK.ps_try (l := [⟨c, some i, ts⟩]) hs hf hN tk hb (.as hc hi hln hsu .nil)
theorem ps_try_onlyD (hs : X.stack = X.env :: X.outer) (hf : X.env.frame = some X.env.locals) (hN : X.N.Nodup) (hc : Names X x c) (tk : HK.Takes X Wout)
    (hb : ∀ (W : L2.WX) (pn : List (Addr × Obj)) (xe : Value → Shared → Prop), HK.Takes (X.tr pn xe) W → PassesOwn (model X.prog X.w) X.A X.env xe → PSs (X.tr pn xe) body (tb W))
    (hsu : HK.Su X (b₀ :: suite) ts) :
    PS X (.Try body [.ExceptHandler (some (.Name x np)) none (b₀ :: suite) pos'] [] [] pos) (tTryOnly X.K c tb ts Wout) := HK.ps_try (l := [⟨c, none, ts⟩]) hs hf hN tk hb (.only hc hsu .nil)
end
section
variable {K : PySem.W.Frag} {E : L2.St → XK} {X : Env → WX}
/-- what the clause wishes -/
inductive XTry (K : PySem.W.Frag) (c : Value) (i : Nat) (ws : Addr → Value → Option Addr → WS) (X : Env → WX) (D : EndD) (ρ : Env) (C : Addr) (fs : List (Str × VL.D)) (S : Sto) : Prop
  | yes (e : PySem.W.exmOne K (.ref C) c = some true) (h : ∀ a dd, ws a (.ref C) (some dd) { D with nx := fun ρ' S' => D.nx (ρ'.set i none) S', bk := fun ρ' S' => D.bk (ρ'.set i none) S', ct := fun ρ' S' => D.ct (ρ'.set i none) S' } (ρ.set i (some (.d (.exn a C dd fs)))) S)
  | no (e : PySem.W.exmOne K (.ref C) c = some false) (h : X ρ C fs S)
def wTryAs (K : PySem.W.Frag) (c : Value) (i : Nat) (wb : (Env → WX) → WS) (ws : Addr → Value → Option Addr → WS) (X : Env → WX) : WS := fun D ρ S => wb (fun ρ' C fs S' => fs ≠ [] ∧ XTry K c i ws X D ρ' C fs S') D ρ S
theorem EnvR.unset {F : Hp} {as : List Addr} {ρ : Env} {σ : L2.St} (e : EnvR K F as ρ σ) (i : Nat) : EnvR K F as (ρ.set i none) (σ.set i none) := e.non i none
instance {c : Value} {i : Nat} {tb : L2.WX → TS} {ts : Addr → Value → Option Addr → TS} {wb : (Env → WX) → WS} {ws : Addr → Value → Option Addr → WS} [ib : ∀ (W : L2.WX) (X' : Env → WX), UpS K (fun σ cls d H => W cls d σ H) X' (tb W) (wb X')]
    [is : ∀ a cls d, UpS K (fun _ _ _ _ => False) (fun _ _ _ _ => False) (ts a cls d) (ws a cls d)] : UpS K E X (tTryAs K c i tb ts (fun cls d σ H => E σ cls d H)) (wTryAs K c i wb ws X) where
  up := fun c0 ux D Dh ed ρ S σ H F as r e h => by
    refine (ib (wAs K c i ts (fun cls d σ H => E σ cls d H) Dh) _).up c0 ?_ D Dh ed ρ S σ H F as r e h
    constructor
    · rintro ρ1 σ1 C dd fs gs H1 F1 as1 S1 r1 e1 h1 h2 h3 ⟨_, q⟩
      show ∃ b, PySem.W.exmOne K (.ref C) c = some b ∧ _
      cases q with
      | yes ex q =>
        refine ⟨true, ex, fun _ a ha => ?_, fun z => by cases z⟩
        refine (is a (.ref C) (some dd)).up c0 ⟨fun _ _ _ _ _ _ _ _ _ _ _ _ _ _ _ q => q, fun _ _ _ _ _ _ _ _ _ q => q⟩ _ _ ?_ _ S1 _ H1 F1 as1 r1 (e1.set i (a := .d (.exn a C dd fs)) (.exn h2 h3)) (q a dd)
        exact ⟨ed.n0, fun ρ S σ H F as r e q => ed.nx _ S _ H F as r (e.unset i) q, ed.rt, fun ρ S σ H F as r e q => ed.bk _ S _ H F as r (e.unset i) q, fun ρ S σ H F as r e q => ed.ct _ S _ H F as r (e.unset i) q⟩
      | no ex q => exact ⟨false, ex, fun z => (by cases z), fun _ => ux.dct ρ1 σ1 C dd fs gs H1 F1 as1 S1 r1 e1 h1 h2 h3 q⟩
    · rintro ρ1 σ1 C H1 F1 as1 S1 r1 e1 ⟨z, q⟩
      exact absurd rfl z
def wTryOnly (K : PySem.W.Frag) (c : Value) (wb : (Env → WX) → WS) (ws : Addr → Value → Option Addr → WS) (X : Env → WX) : WS := fun D ρ S => wb (fun ρ' C fs S' => fs ≠ [] ∧ ∃ b, PySem.W.exmOne K (.ref C) c = some b ∧ (b = true → ∀ a dd, ws a (.ref C) (some dd) D ρ' S') ∧ (b = false → X ρ' C fs S')) D ρ S
instance {c : Value} {tb : L2.WX → TS} {ts : Addr → Value → Option Addr → TS} {wb : (Env → WX) → WS} {ws : Addr → Value → Option Addr → WS} [ib : ∀ (W : L2.WX) (X' : Env → WX), UpS K (fun σ cls d H => W cls d σ H) X' (tb W) (wb X')]
    [is : ∀ a cls d, UpS K (fun _ _ _ _ => False) (fun _ _ _ _ => False) (ts a cls d) (ws a cls d)] : UpS K E X (tTryOnly K c tb ts (fun cls d σ H => E σ cls d H)) (wTryOnly K c wb ws X) where
  up := fun c0 ux D Dh ed ρ S σ H F as r e h => by
    refine (ib (wOnly K c ts (fun cls d σ H => E σ cls d H) Dh) _).up c0 ?_ D Dh ed ρ S σ H F as r e h
    constructor
    · rintro ρ1 σ1 C dd fs gs H1 F1 as1 S1 r1 e1 h1 h2 h3 ⟨_, b, ex, q1, q2⟩
      refine ⟨b, ex, fun z a ha => ?_, fun z => ux.dct ρ1 σ1 C dd fs gs H1 F1 as1 S1 r1 e1 h1 h2 h3 (q2 z)⟩
      exact (is a (.ref C) (some dd)).up c0 ⟨fun _ _ _ _ _ _ _ _ _ _ _ _ _ _ _ q => q, fun _ _ _ _ _ _ _ _ _ q => q⟩ _ _ ed _ S1 _ H1 F1 as1 r1 e1 (q1 z a dd)
    · rintro ρ1 σ1 C H1 F1 as1 S1 r1 e1 ⟨z, q⟩
      exact absurd rfl z
/-! ### the caught one -/
/-- a class for isinstance -/
def clsA : A → Option Value
  | .d (.cst (.ref C)) => some (.ref C)
  | .d (.cst (.ty n)) => some (.type n)
  | _ => none
theorem clsA_ok {F : Hp} {as : List Addr} {y : A} {u : V} {t : Value} (h : RpA K F as y u) (e : clsA y = some t) : ClsV u t ∧ ∀ w, RelV u w → w = t := by
  unfold clsA at e
  split at e
  · cases e; cases h; exact ⟨.own _, fun _ h => h⟩
  · cases e; cases h; exact ⟨.ty _, fun _ h => h⟩
  · cases e
instance {a : Addr} {cls : Value} {d : Option Addr} {f : Str} {t : TE} {w : WE} [ia : UpE K E X t w] : UpE K E X (tXfD K a cls d f t) (fun ρ S Q => w ρ S fun x S1 => match x with
    | .d (.exn a' C dd fs) => (a' = a ∧ cls = .ref C ∧ d = some dd) ∧ (XfC K C ∧ PySem.W.findIn K (.ref C) f = some none) ∧ OnS (fs.lookup f) fun y => Q (.d y) S1
    | _ => False) where
  up := fun c ux ρ S Q σ H F as R r e h k => ia.up c ux ρ S _ σ H F as _ r e h fun x v H1 F1 as1 S1 r1 s1 p1 rx q => by
    split at q
    · obtain ⟨⟨rfl, rfl, rfl⟩, ⟨h1, h2⟩, y, ey, q⟩ := q
      cases rx with | exn e1 t1 =>
      obtain ⟨u, hu, ru⟩ := t1.look ey
      exact ⟨rfl, _, _, _, u, rfl, rfl, h1, h2, r1.fs _ _ e1, hu, (k.mono s1 p1).here (a := .d y) r1 ru q⟩
    · exact q.elim
instance {a : Addr} {cls : Value} {d : Option Addr} : UpC K (rIsD K a cls d) (fun xs S Q => two (fun x y => match x with
    | .d (.exn a' C dd fs) => (a' = a ∧ cls = .ref C ∧ d = some dd) ∧ ExcC K C ∧ OnS (clsA y) fun t => OnS (PySem.W.kitOne K (.ref C) t) fun b => Q (.d (.bl b)) S
    | _ => False) xs) where
  up := fun c S Q H F as R xs vs r h q k => by
    obtain ⟨x, y, v, w, rfl, hx, hy, q⟩ := two_ok h q
    split at q
    · obtain ⟨⟨rfl, rfl, rfl⟩, h1, t, et, b, eb, q⟩ := q
      cases hx with | exn e1 t1 =>
      exact ⟨_, _, w, t, b, _, rfl, rfl, h1, rfl, (clsA_ok hy et).2, r.fs _ _ e1, eb, k.here (a := .d (.bl _)) r (.bl _) q⟩
    · exact q.elim
/-- in a def that is called with it -/
instance {pn : Addr × Obj} {f : Str} {t : TE} {w : WE} [ia : UpE K E X t w] : UpE K E X (tXfP K pn f t) (fun ρ S Q => w ρ S fun x S1 => match x with
    | .d (.exn a' C dd fs) => (a' = pn.1 ∧ Zc (.ref C) (some dd) pn.2 ∧ (∃ vs, pn.2.data = .fields vs)) ∧ (XfC K C ∧ PySem.W.findIn K (.ref C) f = some none) ∧ OnS (fs.lookup f) fun y => Q (.d y) S1
    | _ => False) where
  up := fun c ux ρ S Q σ H F as R r e h k => ia.up c ux ρ S _ σ H F as _ r e h fun x v H1 F1 as1 S1 r1 s1 p1 rx q => by
    split at q
    · obtain ⟨⟨rfl, hz, hf⟩, ⟨h1, h2⟩, y, ey, q⟩ := q
      cases rx with | exn e1 t1 =>
      obtain ⟨u, hu, ru⟩ := t1.look ey
      exact ⟨rfl, _, _, _, u, hz, hf, h1, h2, r1.fs _ _ e1, hu, (k.mono s1 p1).here (a := .d y) r1 ru q⟩
    · exact q.elim
instance {pn : Addr × Obj} : UpC K (rIsP K pn) (fun xs S Q => two (fun x y => match x with
    | .d (.exn a' C dd fs) => (a' = pn.1 ∧ Zc (.ref C) (some dd) pn.2 ∧ (∃ vs, pn.2.data = .fields vs)) ∧ ExcC K C ∧ OnS (clsA y) fun t => OnS (PySem.W.kitOne K (.ref C) t) fun b => Q (.d (.bl b)) S
    | _ => False) xs) where
  up := fun c S Q H F as R xs vs r h q k => by
    obtain ⟨x, y, v, w, rfl, hx, hy, q⟩ := two_ok h q
    split at q
    · obtain ⟨⟨rfl, hz, hf⟩, h1, t, et, b, eb, q⟩ := q
      cases hx with | exn e1 t1 =>
      exact ⟨_, _, _, w, t, b, rfl, hz, hf, r.fs _ _ e1, h1, (clsA_ok hy et).2, eb, k.here (a := .d (.bl _)) r (.bl _) q⟩
    · exact q.elim
/-- isinstance of an own instance -/
instance : UpC K (rIsi K) (fun xs S Q => two (fun x y => OnS (insA S x) fun p => (Cls K p.1 ∧ IsiC K p.1) ∧ OnS (clsA y) fun t => OnS (PySem.W.kitOne K (.ref p.1) t) fun b => Q (.d (.bl b)) S) xs) where
  up := fun c S Q H F as R xs vs r h q k => by
    obtain ⟨x, y, v, w, rfl, hx, hy, q⟩ := two_ok h q
    obtain ⟨⟨C, fs⟩, e1, ⟨h1, i⟩, t, et, b, eb, q⟩ := q
    obtain ⟨p, dx, gs, rfl, h2, _⟩ := insA_ok r hx e1
    exact ⟨_, _, _, _, b, rfl, (clsA_ok hy et).1, .base (.ins h2 h1 i.ha i.hn i.ht i.hm), eb, k.here (a := .d (.bl _)) r (.bl _) q⟩
/-- a promise of a def that is called with the caught one: its address, its class, its own dict -/
def toSpP (K : PySem.W.Frag) (sp : Addr → Addr → Addr → SpD) : Addr × Obj → Sp := fun pn vs H Q _ => ∃ C dd, Zc (.ref C) (some dd) pn.2 ∧ (∃ vs, pn.2.data = .fields vs) ∧ toSp K (sp pn.1 C dd) vs H Q fun _ _ _ => False
def wCallP (a : Addr) (cls : Value) (d : Option Addr) (sp : Addr → Addr → Addr → SpD) (wa : WA) : WE := fun ρ S Q => wa ρ S fun ds S1 => ∃ C dd, (cls = .ref C ∧ d = some dd) ∧ CallP (sp a C dd) (fun _ _ _ => False) ds S1 Q
instance {a : Addr} {cls : Value} {d : Option Addr} {sp : Addr → Addr → Addr → SpD} {t : TA} {wa : WA} [ia : UpA K E X t wa] : UpE K E X (tCallP a cls d (toSpP K sp) t) (wCallP a cls d sp wa) where
  up := fun c ux ρ S Q σ H F as R r e h k => ia.up c ux ρ S _ σ H F as _ r e h fun ds vs H1 F1 as1 S1 r1 s1 p1 rx q => by
    obtain ⟨C, dd, ⟨rfl, rfl⟩, q⟩ := q
    intro oe hz hf
    exact ⟨C, dd, hz, hf, CallP.ok (E := fun _ _ _ _ => False) (X := fun _ _ _ _ => False) (c := c) ⟨fun _ _ _ _ _ _ _ _ _ _ _ _ _ _ _ q => q, fun _ _ _ _ _ _ _ _ _ q => q⟩ r1 (e.mono s1 p1) rx (k.mono s1 p1) q⟩
end
theorem OkP.ofD {P : Program} {w : World} {K : PySem.W.Frag} {mg : Str → Option Value} {base : Heap} {x qual : Str} {st : Stmt} {f : Addr} {N ps : List Str} {k : Nat} {sp : Addr → Addr → Addr → SpD} (F : DefAt K x qual st f) (S : FnScope N ps (defScope st))
    (hb : ∀ (kV doc pm : Value) (an : Option Addr) (cdv ct : Value) (us : List Value), us.length = ps.length → bindArgs (PySem.W.fnOf x qual (defArgs st) (defBody st) (defScope st) .none kV doc pm an cdv ct) ⟨us, []⟩ = pure (ps.zip us))
    (len : ∀ a C dd ds S Q X, sp a C dd ds S Q X → ds.length = ps.length)
    (hbody : ∀ (cdv : Value) (A : Around) (outer : List PySem.Env) (s : Shared) (H : Hp) (pn : Addr × Obj) (qs : List (Addr × Obj)), L2H.RoomH k (A.deeper (envOfC qual (defScope st) s.heap.objs.size f cdv)) → HK.HotP (A.deeper (envOfC qual (defScope st) s.heap.objs.size f cdv)) (pn :: qs) → ∀ (n0 : Nat) (Xd : WX),
      ∃ (t : TS) (wd : WS), PSs (cxK P w K mg base N qual (defScope st) f cdv A outer s H pn qs) (defBody st) t ∧ UpS K (fun _ _ _ _ => False) (fun _ _ _ _ => False) t wd ∧
        ∀ C dd ds S Q, S.length = n0 → Zc (.ref C) (some dd) pn.2 → (∃ vs, pn.2.data = .fields vs) → sp pn.1 C dd ds S Q Xd → wd (endD n0 Q) (startE N ds) S) : OkP P w K mg base (k + 1) f ps (toSpP K sp) := by
  refine OkP.of F S hb (fun pn vs H Q E h => ?_) (fun cdv A outer s H vs Q pn qs hr hot h => ?_)
  · obtain ⟨C, dd, _, _, h⟩ := h
    exact toSp_len (len pn.1 C dd) h
  · obtain ⟨C, dd, hz, hf, B, Fd, as, S0, ds, Qd, Xd, r, ra, h, kq, kx⟩ := h
    obtain ⟨t, wd, hp, hu, hw⟩ := hbody cdv A outer s H pn qs hr hot S0.length Xd
    refine ⟨t, hp, ?_⟩
    have hn : (Cd.as ⟨B, Fd, as⟩).length ≤ S0.length := by show as.length ≤ _; rw [r.len]; exact Nat.le_refl _
    have ret : ∀ (a : VL.A) (v : V) (S : Sto) (H F : Hp) (as' : List Addr), SR K ⟨B, Fd, as⟩ H F as' S → RpA K F as' a v → Ret S0.length Qd a S → Q v H := fun a v S H F as' r' ra q =>
      Ret.ok hn q r' ra fun a' F' as' S' r'' ra' q' => kq a' v H F' as' S' r'' r''.f0 r''.a0 ra' q'
    refine hu.up _ ⟨fun _ _ _ _ _ _ _ _ _ _ _ _ _ _ _ q => q, fun _ _ _ _ _ _ _ _ _ q => q⟩ (endD S0.length Qd) _ ?_ (startE N ds) S0 _ H Fd as r (EnvR.start ra) (hw C dd ds S0 Qd rfl hz hf h)
    exact ⟨hn, fun ρ S σ H F as r' e' q => ret (.d .non) .non S H F as r' .non q, ret, fun _ _ _ _ _ _ _ _ q => q, fun _ _ _ _ _ _ _ _ q => q⟩
section
variable {K : PySem.W.Frag} {E0 : XK} {X : Env → WX}
/-- x == y by x's own __eq__ -/
instance {C D' : Addr} {sp : SpD} {ta tb : TE} {wa wb : WE} [ia : UpE K (fun _ => E0) X ta wa] [ib : UpE K (fun _ => E0) X tb wb] : UpE K (fun _ => E0) X (tOp (rEqO C D' (toSp K sp) E0) ta tb)
    (fun ρ S Q => wa ρ S fun x S1 => wb ρ S1 fun y S2 => OnS (insA S2 x) fun p => p.1 = C ∧ OnS (insA S2 y) fun q => q.1 = D' ∧ CallP sp (X ρ) [x, y] S2 (fun a S' => ∃ b, a = .d (.bl b) ∧ Q (.d (.bl b)) S')) where
  up := fun c ux ρ S Q σ H F as R r e h k => ia.up c ux ρ S _ σ H F as _ r e h fun x v H1 F1 as1 S1 r1 s1 p1 rx q1 =>
    ib.up c ux ρ S1 _ σ H1 F1 as1 _ r1 (e.mono s1 p1) q1 fun y u H2 F2 as2 S2 r2 s2 p2 ry q2 => by
      obtain ⟨⟨C', fs⟩, e1, rfl, ⟨D'', gs⟩, e2, rfl, q⟩ := q2
      have rx2 := rx.mono s2 p2
      obtain ⟨a, dx, fs', rfl, h1, _⟩ := insA_ok r2 rx2 e1
      obtain ⟨b, dy, gs', rfl, h2, _⟩ := insA_ok r2 ry e2
      refine ⟨a, b, dx, dy, fs', gs', rfl, rfl, h1, h2, ?_⟩
      refine CallP.ok (E := fun _ => E0) ux r2 (e.mono (s1.trans s2) (p1.trans p2)) (.cons rx2 (.cons ry .nil)) ?_ q
      rintro z w H' F' as' S' r' s' p' rz ⟨b, rfl, q⟩
      cases rz
      exact ⟨⟨b, rfl⟩, k (.d (.bl b)) _ H' F' as' S' r' ((s1.trans s2).trans s') ((p1.trans p2).trans p') (.bl b) q⟩
/-- str(x) by x's own __str__ -/
instance {C : Addr} {sp : SpD} {t : TA} {wa : WA} [ia : UpA K (fun _ => E0) X t wa] : UpE K (fun _ => E0) X (tCB (StrOwn C (toSp K sp) E0) t)
    (fun ρ S Q => wa ρ S fun xs S1 => one (fun x => OnS (insA S1 x) fun p => p.1 = C ∧ CallP sp (X ρ) [x] S1 (fun a S' => ∃ z, a = .d (.str z) ∧ Q (.d (.str z)) S')) xs) where
  up := fun c ux ρ S Q σ H F as R r e h k => ia.up c ux ρ S _ σ H F as _ r e h fun xs vs H1 F1 as1 S1 r1 s1 p1 rxs q1 => by
    obtain ⟨x, v, rfl, rx, ⟨C', fs⟩, e1, rfl, q⟩ := one_ok rxs q1
    obtain ⟨a, dx, fs', rfl, h1, _⟩ := insA_ok r1 rx e1
    refine ⟨a, dx, fs', rfl, h1, ?_⟩
    refine CallP.ok (E := fun _ => E0) ux r1 (e.mono s1 p1) (.cons rx .nil) ?_ q
    rintro z w H' F' as' S' r' s' p' rz ⟨b, rfl, q⟩
    have rz' := rz
    cases rz
    exact ⟨⟨b, rfl⟩, k (.d (.str b)) _ H' F' as' S' r' (s1.trans s') (p1.trans p') rz' q⟩
end
end VL

/-! x != y by x's own __eq__ -/
namespace VL
open PySem PySem.Spec PyProof.Rows L2 RX
section
variable {K : PySem.W.Frag} {E0 : XK} {X : Env → WX}
instance {C D' : Addr} {sp : SpD} {ta tb : TE} {wa wb : WE} [ia : UpE K (fun _ => E0) X ta wa] [ib : UpE K (fun _ => E0) X tb wb] : UpE K (fun _ => E0) X (tOp (rNeO C D' (toSp K sp) E0) ta tb)
    (fun ρ S Q => wa ρ S fun x S1 => wb ρ S1 fun y S2 => OnS (insA S2 x) fun p => p.1 = C ∧ OnS (insA S2 y) fun q => q.1 = D' ∧ CallP sp (X ρ) [x, y] S2 (fun a S' => ∃ b, a = .d (.bl b) ∧ Q (.d (.bl (!b))) S')) where
  up := fun c ux ρ S Q σ H F as R r e h k => ia.up c ux ρ S _ σ H F as _ r e h fun x v H1 F1 as1 S1 r1 s1 p1 rx q1 =>
    ib.up c ux ρ S1 _ σ H1 F1 as1 _ r1 (e.mono s1 p1) q1 fun y u H2 F2 as2 S2 r2 s2 p2 ry q2 => by
      obtain ⟨⟨C', fs⟩, e1, rfl, ⟨D'', gs⟩, e2, rfl, q⟩ := q2
      have rx2 := rx.mono s2 p2
      obtain ⟨a, dx, fs', rfl, h1, _⟩ := insA_ok r2 rx2 e1
      obtain ⟨b, dy, gs', rfl, h2, _⟩ := insA_ok r2 ry e2
      refine ⟨a, b, dx, dy, fs', gs', rfl, rfl, h1, h2, ?_⟩
      refine CallP.ok (E := fun _ => E0) ux r2 (e.mono (s1.trans s2) (p1.trans p2)) (.cons rx2 (.cons ry .nil)) ?_ q
      rintro z w H' F' as' S' r' s' p' rz ⟨b, rfl, q⟩
      cases rz
      exact ⟨b, rfl, k (.d (.bl (!b))) _ H' F' as' S' r' ((s1.trans s2).trans s') ((p1.trans p2).trans p') (.bl (!b)) q⟩
end
/-! ### a comprehension whose new list is owned -/
def tLcO (t : TE) : TE := t
theorem pe_lcO {X : Cx} {e : Expr} {t : TE} (h : PE X e t) : PE X e (tLcO t) := h
def asO (Q : WQ) : WQ := fun a S => match a with
  | .d (.lst xs) => Q (.ref S.length) (S ++ [.lst xs])
  | _ => False
def wLcO (wi : WI) (g : WG) (is : List Nat) (wt : WT) (we : WE) (vs : List Nat) : WE := fun ρ S Q => wi ρ S fun xs gd S1 => LcP xs gd g is wt we vs ρ S1 (asO Q)
section
variable {K : PySem.W.Frag} {E : L2.St → XK} {X : Env → WX}
instance {ti : TI} {g : TG} {tt : TT} {te : TE} {vs : List Nat} {wi : WI} {wg : WG} {wt : WT} {we : WE} {is : List Nat} [ii : UpI K E X ti wi] [ig : UpG1 K E X g wg is] [it : UpT K E X tt wt] [ie : UpE K E X te we] : UpE K E X (tLcO (tLc ti g tt te vs)) (wLcO wi wg is wt we vs) where
  up := fun c ux ρ S Q σ H F as R r e h k => ii.up c ux ρ S _ σ H F as _ r e h fun J xs gd H1 F1 as1 S1 r1 s1 p1 wk q => by
    obtain ⟨hi, hlen, Inv, i0, hs, hd⟩ := q.ex
    obtain ⟨G, Y, hw, hG, hY⟩ := wk.ok
    have hi : ∀ j ∈ is, j ∈ vs := fun j hj => by
      have := List.all_eq_true.mp hi j hj
      simpa using this
    intro L hL
    have hB : c.B L = none := r1.none_B hL
    have hF1 : F1 L = none := r1.none_F hL
    have hn1 : as1.length ≤ S1.length := by rw [r1.len]; exact Nat.le_refl _
    have r1' : SR K (c.lc F1 as1 L []) (upd H1 L (.lst [])) F1 as1 S1 := by
      have hA : ∀ (n : Nat) (a : Addr), as1[n]? = some a → a ≠ L := fun n a h => r1.ne_new h hL
      refine SR.toLc (vs := []) ⟨r1.len, r1.nd, fun a u e => ?_, fun a u e => ?_, r1.bf, r1.ba, fun n a o h1 h2 => ?_, r1.f0, r1.a0, r1.nw⟩ upd_same hF1 (fun m => ?_) rfl rfl
      · rw [upd_ne (ne_of_none e hF1)]; exact r1.fs _ _ e
      · rw [upd_ne (ne_of_none e hB)]; exact r1.bs _ _ e
      · exact (r1.ob n a o h1 h2).mono (Same.refl _) (List.prefix_refl _) (fun e => e) (fun _ => by rw [upd_ne (hA n a h1)])
      · obtain ⟨n, h⟩ := List.getElem?_of_mem m
        exact hA n L h rfl
    refine lc_it hw (fun i H => ∃ acc ws S' F' as', SR K (c.lc F1 as1 L ws) H F' as' S' ∧ RpL K F' acc ws ∧ acc.length ≤ i ∧ Inv i acc S') ⟨[], [], S1, F1, as1, r1', .nil, Nat.le_refl _, i0⟩ ?_ ?_ ?_
    · rintro i H' hi' ⟨acc, ws, S', F', as', r', ra, hl, iv⟩
      by_cases z : i < xs.length
      · exact hG _ H' F' as' S' r' r'.f0 r'.a0 (hs i xs[i] acc S' (List.getElem?_eq_getElem z) iv).1
      · have : i = xs.length := by omega
        subst this
        exact hG _ H' F' as' S' r' r'.f0 r'.a0 (hd acc S' iv).1
    · rintro i v H' H2 hi' ⟨acc, ws, S', F', as', r', ra, hl, iv⟩ y
      obtain ⟨hg, st⟩ := hs i xs[i] acc S' (List.getElem?_eq_getElem hi') iv
      obtain ⟨F2, r2, s2, rx⟩ := hY _ i xs[i] H' v H2 F' as' S' (List.getElem?_eq_getElem hi') r' r'.f0 r'.a0 hg y
      have ux' := ux.lc (L := L) (vs := ws) r1 hB
      have e2 : EnvR K F2 as' (wipeE ρ vs) (L2.wipe σ vs) := (e.mono (s1.trans r2.f0) (p1.trans r2.a0)).wipe vs
      refine ig.up _ ux' (.d xs[i]) v (wipeE ρ vs) S' _ H2 F2 as' _ _ r2 e2 rx st fun ρ3 σ3 H3 F3 as3 S3 r3 s3 p3 e3 k3 l3 q3 => ?_
      refine ⟨wipe_eq hi k3 l3, ?_⟩
      refine it.up _ ux' ρ3 S3 _ σ3 H3 F3 as3 _ r3 e3 q3 fun b H4 F4 as4 S4 r4 s4 p4 q4 => ?_
      have s24 : Same F' F4 := s2.trans (s3.trans s4)
      have fin : ∀ {acc' : List D} {ws' : List V} {H : Hp} {F : Hp} {as : List Addr} {S : Sto}, SR K (c.lc F1 as1 L ws') H F as S → RpL K F acc' ws' → acc'.length ≤ i + 1 → Fin S1.length (fun _ S5 => Inv (i + 1) acc' S5) [] S →
          ∃ acc ws S' F' as', SR K (c.lc F1 as1 L ws) H F' as' S' ∧ RpL K F' acc ws ∧ acc.length ≤ i + 1 ∧ Inv (i + 1) acc S' := by
        rintro acc' ws' H F as S r ra hl ⟨ρ5, S5, g5, iv5⟩
        obtain ⟨F6, as6, r6, _, s6, _⟩ := g5.ok hn1 r EnvR.nil
        exact ⟨acc', ws', S5, F6, as6, r6, ra.mono s6, hl, iv5⟩
      refine rd_ite (fun z => ?_) (fun z => ?_)
      · refine ie.up _ ux' ρ3 S4 _ σ3 H4 F4 as4 _ r4 (e3.mono s4 p4) (q4.1 z) fun yy vy H5 F5 as5 S5 r5 s5 p5 ry q5 => ?_
        obtain ⟨d, hd', f5⟩ := q5
        have rd := pureA_ok r5 ry hd'
        obtain ⟨_, hL5, _, _⟩ := r1.ofLc r5 hB
        have ra5 := ra.mono (s24.trans s5)
        refine ⟨ws, hL5, lt_size (by rw [← ra.length]; omega), ?_⟩
        exact fin (r5.stepLc hB) (ra5.append (.cons rd .nil)) (by rw [List.length_append, List.length_singleton]; omega) f5
      · exact fin r4 (ra.mono s24) (by omega) (q4.2 z)
    · rintro H' ⟨acc, ws, S', F', as', r', ra, hl, iv⟩
      obtain ⟨rr, hL', hF', hA'⟩ := r1.ofLc r' hB
      have := (hd acc S' iv).2
      -- the new list is owned
      have cF : c.F L = none := by
        cases z : c.F L with
        | none => rfl
        | some u => have := rr.f0 _ _ z; rw [hF'] at this; cases this
      have pre : as' <+: as' ++ [L] := List.prefix_append _ _
      have r'' : SR K c H' F' (as' ++ [L]) (S' ++ [.lst acc]) := by
        refine ⟨by rw [List.length_append, List.length_append, rr.len]; rfl, nodup_snoc rr.nd hA', rr.fs, rr.bs, rr.bf, fun n a h => ?_, fun n a u h1 h2 => ?_, rr.f0, rr.a0.trans pre, fun n a hn h => ?_⟩
        · by_cases q : n < as'.length
          · rw [List.getElem?_append_left q] at h; exact rr.ba n a h
          · rw [List.getElem?_append_right (by omega), List.getElem?_singleton] at h
            split at h
            · cases h; exact hB
            · cases h
        · by_cases q : n < as'.length
          · rw [List.getElem?_append_left q] at h1
            rw [List.getElem?_append_left (by rw [← rr.len]; exact q)] at h2
            exact (rr.ob n a u h1 h2).mono (Same.refl _) pre (fun e => e) (fun _ => rfl)
          · rw [List.getElem?_append_right (by omega), List.getElem?_singleton] at h1
            rw [List.getElem?_append_right (by rw [← rr.len]; omega), List.getElem?_singleton, ← rr.len] at h2
            split at h1
            · rename_i e0
              rw [if_pos e0] at h2
              cases h1; cases h2
              exact ⟨hF', ws, hL', ra⟩
            · cases h1
        · by_cases q : n < as'.length
          · rw [List.getElem?_append_left q] at h; exact rr.nw n a hn h
          · rw [List.getElem?_append_right (by omega), List.getElem?_singleton] at h
            split at h
            · cases h; exact cF
            · cases h
      exact k (.ref S'.length) (.ref L) _ _ _ _ r'' (s1.trans r'.f0) ((p1.trans r'.a0).trans pre) ⟨L, by rw [List.getElem?_append_right (by rw [rr.len]; exact Nat.le_refl _), rr.len, Nat.sub_self]; rfl, rfl⟩ this

end
/-- a new instance; handles n, m go along as 1, 2 -/
theorem MakeP.h2 {C : Addr} {sp : SpD} {X : WX} {ds ds0 : List A} {S1 : Sto} {Q : WQ} (n m : Nat) {o o0 p p0 : Ob} (hd : .ref S1.length :: ds = (.ref 0 :: ds0).map (A.ren (rn [S1.length, n, m] (S1 ++ [Ob.ins C []]).length))) (nd : n < S1.length ∧ m < S1.length ∧ n ≠ m)
    (ho : S1[n]? = some o) (h0 : o = o0.ren (rn [S1.length, n, m] (S1 ++ [Ob.ins C []]).length)) (hp : S1[m]? = some p) (hp0 : p = p0.ren (rn [S1.length, n, m] (S1 ++ [Ob.ins C []]).length))
    (h : sp (.ref 0 :: ds0) [.ins C [], o0, p0] (fun a S' => a.ren (rn [S1.length, n, m] (S1 ++ [Ob.ins C []]).length) = .d .non ∧ Q (.ref S1.length) (scat (rn [S1.length, n, m] (S1 ++ [Ob.ins C []]).length) (S1 ++ [.ins C []]) [S1.length, n, m] S')) (fun C' fs S' => X C' fs (scat (rn [S1.length, n, m] (S1 ++ [Ob.ins C []]).length) (S1 ++ [.ins C []]) [S1.length, n, m] S'))) : MakeP C sp X ds S1 Q := by
  obtain ⟨h1, h2, h3⟩ := nd
  refine ⟨.mk ⟨[S1.length, n, m], .ref 0 :: ds0, [.ins C [], o0, p0], ?_, hd, ⟨by rw [List.getElem?_append_right (Nat.le_refl _), Nat.sub_self]; rfl, ?_, ?_, trivial⟩, h⟩⟩
  · simp only [List.nodup_cons, List.mem_cons, List.not_mem_nil, or_false, not_or, not_false_eq_true, List.nodup_nil, and_true, true_and]
    exact ⟨⟨by omega, by omega⟩, h3⟩
  · rw [List.getElem?_append_left h1, ho, h0]
  · rw [List.getElem?_append_left h2, hp, hp0]
end VL

/-! == of plain data is equality -/
namespace VL
open PySem PySem.Spec PyProof.Rows L2 RX
mutual
def Pl : D → Bool
  | .non => true
  | .int _ => true
  | .str _ => true
  | .tup xs => PlL xs
  | .lst xs => PlL xs
  | _ => false
def PlL : List D → Bool
  | [] => true
  | x :: r => Pl x && PlL r
end
theorem PlL_map {α : Type} {f : α → D} (h : ∀ a, Pl (f a) = true) : ∀ xs : List α, PlL (xs.map f) = true
  | [] => rfl
  | a :: r => by rw [List.map_cons]; show (Pl _ && PlL _) = true; rw [h a, PlL_map h r]; rfl
theorem PlL_strs (xs : List Str) : PlL (xs.map D.str) = true := PlL_map (fun _ => rfl) xs
mutual
theorem eqv_pl : ∀ {x y : D}, Pl x = true → Pl y = true → (D.eqv x y = true ↔ x = y)
  | .non, y, _, h => by cases y <;> simp [D.eqv, toPy, PyData.eqv, Pl] at h ⊢
  | .int i, y, _, h => by cases y <;> simp [D.eqv, toPy, PyData.eqv, Pl] at h ⊢
  | .str i, y, _, h => by cases y <;> simp [D.eqv, toPy, PyData.eqv, Pl] at h ⊢
  | .tup xs, y, h', h => by
    cases y with
    | tup ys => rw [show D.eqv (.tup xs) (.tup ys) = D.eqvL xs ys from by simp only [D.eqv, D.eqvL, toPy, PyData.eqv], D.tup.injEq]; exact eqvL_pl h' h
    | _ => simp [D.eqv, toPy, PyData.eqv, Pl] at h ⊢
  | .lst xs, y, h', h => by
    cases y with
    | lst ys => rw [show D.eqv (.lst xs) (.lst ys) = D.eqvL xs ys from by simp only [D.eqv, D.eqvL, toPy, PyData.eqv], D.lst.injEq]; exact eqvL_pl h' h
    | _ => simp [D.eqv, toPy, PyData.eqv, Pl] at h ⊢
theorem eqvL_pl : ∀ {x y : List D}, PlL x = true → PlL y = true → (D.eqvL x y = true ↔ x = y)
  | [], [], _, _ => by simp [D.eqvL, toPyL, PyData.eqvAll]
  | [], _ :: _, _, _ => by simp [D.eqvL, toPyL, PyData.eqvAll]
  | _ :: _, [], _, _ => by simp [D.eqvL, toPyL, PyData.eqvAll]
  | x :: xs, y :: ys, h, h' => by
    obtain ⟨h1, h2⟩ := Bool.and_eq_true_iff.mp (show (Pl x && PlL xs) = true from h)
    obtain ⟨h1', h2'⟩ := Bool.and_eq_true_iff.mp (show (Pl y && PlL ys) = true from h')
    rw [show D.eqvL (x :: xs) (y :: ys) = (D.eqv x y && D.eqvL xs ys) from by simp only [D.eqv, D.eqvL, toPyL, PyData.eqvAll], Bool.and_eq_true, eqv_pl h1 h1', eqvL_pl h2 h2', List.cons.injEq]
end
theorem str_inj : Function.Injective D.str := fun _ _ h => D.str.inj h
theorem map_str_inj {a b : List Str} : a.map D.str = b.map D.str ↔ a = b := ⟨fun h => (List.map_inj_right (fun _ _ => D.str.inj)).mp h, fun h => by rw [h]⟩
theorem EdL_map {α : Type} {f : α → D} {k : Nat} : ∀ {xs : List α}, (∀ a ∈ xs, Ed k (f a)) → EdL k (xs.map f)
  | [], _ => by simp [EdL]
  | a :: r, h => by rw [List.map_cons]; simp only [EdL]; exact ⟨h a List.mem_cons_self, EdL_map fun b hb => h b (List.mem_cons_of_mem _ hb)⟩
theorem EdL_strs (k : Nat) (xs : List Str) : EdL k (xs.map D.str) := EdL_map fun _ _ => by simp only [Ed]
/-- the item of a written list at a drawn place -/
theorem at_lt {α : Type} {l : List α} {i : Int} (h0 : 0 ≤ i) (h1 : i < l.length) : ∃ x, atI l i = some x ∧ x ∈ l := by
  obtain ⟨n, rfl⟩ := Int.eq_ofNat_of_zero_le h0
  have hn : n < l.length := by omega
  exact ⟨l[n], at_j n rfl (List.getElem?_eq_getElem hn), List.getElem_mem hn⟩
theorem Fin.cut {n0 : Nat} {P : Env → Sto → Prop} {ρ : Env} {S : Sto} (hn : (S.take n0).all (noRef n0) = true) (h : P (dropE n0 ρ) (S.take n0)) : Fin n0 P ρ S :=
  ⟨_, _, .drop n0 (Nat.le_refl _) (List.all_eq_true.mp hn) (.refl _ _), h⟩
/-- a call in a comprehension: nothing may get out -/
instance {K : PySem.W.Frag} {E : L2.St → XK} {X : Env → WX} {sp : SpD} {t : TA} {wa : WA} [ia : UpA K E X t wa] : UpE K E X (tCall (toSp K sp) [] E0 t) (wCall sp (fun _ _ _ _ => False) wa) where
  up := fun c ux ρ S Q σ H F as R r e h k => ia.up c ux ρ S _ σ H F as _ r e h fun ds vs H1 F1 as1 S1 r1 s1 p1 rx q => by
    rw [List.append_nil]
    exact CallP.ok (E := fun _ => E0) (X := fun _ _ _ _ => False) (c := c) ⟨fun _ _ _ _ _ _ _ _ _ _ _ _ _ _ _ q => q, fun _ _ _ _ _ _ _ _ _ q => q⟩ r1 (e.mono s1 p1) rx (k.mono s1 p1) q
theorem kBM {X : Cx} {K : PySem.W.Frag} (h : X.K = K) {e : Expr} {T : String} {r : V → List V → Hp → VK → Prop} {to : TE} {t : TA} (he : PE X e (tBM X.K T r to t)) : PE X e (tBM K T r to t) := h ▸ he
theorem kXfP {X : Cx} {K : PySem.W.Frag} (h : X.K = K) {e : Expr} {q : Addr × Obj} {n : Str} {t : TE} (he : PE X e (tXfP X.K q n t)) : PE X e (tXfP K q n t) := h ▸ he
theorem kIsP {X : Cx} {K : PySem.W.Frag} (h : X.K = K) {b : Value} {q : Addr × Obj} (he : CallR X b (rIsP X.K q)) : CallR X b (rIsP K q) := h ▸ he
theorem kXfD {X : Cx} {K : PySem.W.Frag} (h : X.K = K) {e : Expr} {a : Addr} {cls : Value} {d : Option Addr} {f : Str} {t : TE} (he : PE X e (tXfD X.K a cls d f t)) : PE X e (tXfD K a cls d f t) := h ▸ he
theorem kIsD {X : Cx} {K : PySem.W.Frag} (h : X.K = K) {b : Value} {a : Addr} {cls : Value} {d : Option Addr} (he : CallR X b (rIsD X.K a cls d)) : CallR X b (rIsD K a cls d) := h ▸ he
theorem ForP.eq {xs ys : List D} {gd : Sto → Prop} {g : WG} {b : WS} {D' : EndD} {ρ : Env} {S1 : Sto} (e : xs = ys) (h : ForP ys gd g b D' ρ S1) : ForP xs gd g b D' ρ S1 := e ▸ h
theorem cutD_take {xs : List D} {k : Nat} (h : k ≤ xs.length) : cutD xs none (some (k : Int)) = xs.take k := by
  unfold cutD HT.sIx
  simp only [Int.toNat_natCast, Nat.sub_zero, List.drop_zero]
  try rw [if_neg (by omega)]
  try congr 1
  try omega
theorem range_at {n i c : Nat} (h : (List.range n)[i]? = some c) : c = i ∧ i < n := by
  obtain ⟨h1, h2⟩ := List.getElem?_eq_some_iff.mp h
  rw [List.getElem_range] at h2
  rw [List.length_range] at h1
  exact ⟨h2.symm, h1⟩
theorem split_at {α : Type} {l : List α} {i : Nat} {c : α} (h : l.take (i + 1) = l.take i ++ [c]) : l = l.take i ++ c :: l.drop (i + 1) := by
  conv => lhs; rw [← List.take_append_drop (i + 1) l, h, List.append_assoc]
  rfl
theorem Ret.fzs {n0 n m : Nat} {Q : WQ} {o : Ob} {x : D} {S : Sto} (e : S[m]? = some o) (ex : obD S o = some x) (hm : n ≠ m) (h : Ret n0 Q (.ref n) (S.set m (.fz x))) : Ret n0 Q (.ref n) S := by
  obtain ⟨a', S', g, q⟩ := h
  refine ⟨a', S', .fz m o x e ex ?_, q⟩
  have : fzE m x [some (.ref n)] = [some (.ref n)] := by
    show [if n = m then some (A.d x) else some (.ref n)] = _
    rw [if_neg hm]
  rw [this]
  exact g
theorem kTryAs {X : Cx} {K : PySem.W.Frag} (h : X.K = K) {st : Stmt} {c : Value} {i : Nat} {tb : L2.WX → TS} {ts : Addr → Value → Option Addr → TS} {Wo : L2.WX} (he : PS X st (tTryAs X.K c i tb ts Wo)) : PS X st (tTryAs K c i tb ts Wo) := h ▸ he
theorem kTryOnly {X : Cx} {K : PySem.W.Frag} (h : X.K = K) {st : Stmt} {c : Value} {tb : L2.WX → TS} {ts : Addr → Value → Option Addr → TS} {Wo : L2.WX} (he : PS X st (tTryOnly X.K c tb ts Wo)) : PS X st (tTryOnly K c tb ts Wo) := h ▸ he
theorem ne_self {d : D} (h : Pl d = true) : (if true = true then !D.eqv d d else D.eqv d d) = false := by
  rw [if_pos rfl, (eqv_pl h h).mpr rfl]
  rfl
theorem ixN_lt {n : Nat} {i : Int} (h0 : 0 ≤ i) (h1 : i < n) : ixN n i = some i.toNat := by
  unfold ixN
  rw [if_pos h0]
  first
  | rw [if_pos h1]
  | simp [h1]
/-- CallP.h1 with what comes back written out -/
theorem CallP.s1 {sp : SpD} {X : WX} {ds ds0 : List A} {S1 : Sto} {Q : WQ} (n : Nat) {o o0 : Ob} (hd : ds = ds0.map (A.ren (rn [n] S1.length))) (ho : S1[n]? = some o) (h0 : o = o0.ren (rn [n] S1.length))
    (h : sp ds0 [o0] (fun a S' => ∃ a2 S2, a.ren (rn [n] S1.length) = a2 ∧ scat (rn [n] S1.length) S1 [n] S' = S2 ∧ Q a2 S2) (fun C fs S' => X C fs (scat (rn [n] S1.length) S1 [n] S'))) : CallP sp X ds S1 Q := by
  refine .h1 n hd ho h0 ?_
  have e : (fun a S' => ∃ a2 S2, a.ren (rn [n] S1.length) = a2 ∧ scat (rn [n] S1.length) S1 [n] S' = S2 ∧ Q a2 S2) = fun (a : A) S' => Q (a.ren (rn [n] S1.length)) (scat (rn [n] S1.length) S1 [n] S') := by
    funext a S'
    exact propext ⟨fun ⟨_, _, e1, e2, q⟩ => by rw [e1, e2]; exact q, fun q => ⟨_, _, rfl, rfl, q⟩⟩
  rw [e] at h
  exact h
theorem CallP.s0 {sp : SpD} {X : WX} {ds : List A} {S1 : Sto} {Q : WQ} (hd : ds = ds.map (A.ren (rn [] S1.length)))
    (h : sp ds [] (fun a S' => ∃ a2 S2, a.ren (rn [] S1.length) = a2 ∧ scat (rn [] S1.length) S1 [] S' = S2 ∧ Q a2 S2) (fun C fs S' => X C fs (scat (rn [] S1.length) S1 [] S'))) : CallP sp X ds S1 Q := by
  refine .p hd ?_
  have e : (fun a S' => ∃ a2 S2, a.ren (rn [] S1.length) = a2 ∧ scat (rn [] S1.length) S1 [] S' = S2 ∧ Q a2 S2) = fun (a : A) S' => Q (a.ren (rn [] S1.length)) (scat (rn [] S1.length) S1 [] S') := by
    funext a S'
    exact propext ⟨fun ⟨_, _, e1, e2, q⟩ => by rw [e1, e2]; exact q, fun q => ⟨_, _, rfl, rfl, q⟩⟩
  rw [e] at h
  exact h
theorem upTry {K : PySem.W.Frag} {E : L2.St → XK} {X : Env → WX} {c : Value} {i : Nat} {tb : L2.WX → TS} {ts : Addr → Value → Option Addr → TS} {wb : (Env → WX) → WS} {ws : Addr → Value → Option Addr → WS} (ib : ∀ (W : L2.WX) (X' : Env → WX), UpS K (L2.WE W) X' (tb W) (wb X'))
    (is : ∀ a cls d, UpS K (fun _ _ _ _ => False) (fun _ _ _ _ => False) (ts a cls d) (ws a cls d)) : UpS K E X (tTryAs K c i tb ts (fun cls d σ H => E σ cls d H)) (wTryAs K c i wb ws X) :=
  haveI ib' : ∀ (W : L2.WX) (X' : Env → WX), UpS K (fun σ cls d H => W cls d σ H) X' (tb W) (wb X') := fun W X' => ib W X'
  inferInstance
theorem upTryO {K : PySem.W.Frag} {E : L2.St → XK} {X : Env → WX} {c : Value} {tb : L2.WX → TS} {ts : Addr → Value → Option Addr → TS} {wb : (Env → WX) → WS} {ws : Addr → Value → Option Addr → WS} (ib : ∀ (W : L2.WX) (X' : Env → WX), UpS K (L2.WE W) X' (tb W) (wb X'))
    (is : ∀ a cls d, UpS K (fun _ _ _ _ => False) (fun _ _ _ _ => False) (ts a cls d) (ws a cls d)) : UpS K E X (tTryOnly K c tb ts (fun cls d σ H => E σ cls d H)) (wTryOnly K c wb ws X) :=
  haveI ib' : ∀ (W : L2.WX) (X' : Env → WX), UpS K (fun σ cls d H => W cls d σ H) X' (tb W) (wb X') := fun W X' => ib W X'
  inferInstance
theorem upSeq {K : PySem.W.Frag} {E : L2.St → XK} {X : Env → WX} {t1 t2 : TS} {w1 w2 : WS} (h1 : UpS K E X t1 w1) (h2 : UpS K E X t2 w2) : UpS K E X (tSeq t1 t2) (wSeq w1 w2) := inferInstance
theorem cutD_map {α : Type} (f : α → D) (l : List α) (lo hi : Option Int) : ∃ l' : List α, cutD (l.map f) lo hi = l'.map f := ⟨_, by unfold cutD; rw [← List.map_drop, ← List.map_take]⟩
theorem bb_eq {b b' : Bool} (h : b = b') : (if true = true then !D.eqv (.bl b) (.bl b') else D.eqv (.bl b) (.bl b')) = false := by
  subst h
  cases b <;> rfl
/-- MakeP.p with what comes back written out -/
theorem MakeP.s0 {C : Addr} {sp : SpD} {X : WX} {ds : List A} {S1 : Sto} {Q : WQ} (hd : ds = ds.map (A.ren (rn [S1.length] (S1 ++ [Ob.ins C []]).length)))
    (h : sp (.ref 0 :: ds) [.ins C []] (fun a S' => a.ren (rn [S1.length] (S1 ++ [Ob.ins C []]).length) = .d .non ∧ ∃ a2 S2, A.ref S1.length = a2 ∧ scat (rn [S1.length] (S1 ++ [Ob.ins C []]).length) (S1 ++ [.ins C []]) [S1.length] S' = S2 ∧ Q a2 S2) (fun C' fs S' => X C' fs (scat (rn [S1.length] (S1 ++ [Ob.ins C []]).length) (S1 ++ [.ins C []]) [S1.length] S'))) : MakeP C sp X ds S1 Q := by
  refine .p hd ?_
  have e : (fun a S' => a.ren (rn [S1.length] (S1 ++ [Ob.ins C []]).length) = .d .non ∧ ∃ a2 S2, A.ref S1.length = a2 ∧ scat (rn [S1.length] (S1 ++ [Ob.ins C []]).length) (S1 ++ [.ins C []]) [S1.length] S' = S2 ∧ Q a2 S2) = fun (a : A) S' => a.ren (rn [S1.length] (S1 ++ [Ob.ins C []]).length) = .d .non ∧ Q (.ref S1.length) (scat (rn [S1.length] (S1 ++ [Ob.ins C []]).length) (S1 ++ [.ins C []]) [S1.length] S') := by
    funext a S'
    exact propext ⟨fun ⟨h, _, _, e1, e2, q⟩ => ⟨h, by rw [e1, e2]; exact q⟩, fun ⟨h, q⟩ => ⟨h, _, _, rfl, rfl, q⟩⟩
  rw [e] at h
  exact h
end VL

/-! defaults, keywords, methods in a try's body; d[k] or else -/
namespace VL
open PySem PySem.Spec PyProof.Rows L2 RX
class UpVs (vs : List V) (ds : outParam (List D)) : Prop where
  up : ∀ K F, RpL K F ds vs
instance : UpVs [] [] where up := fun _ _ => .nil
instance {v : V} {d : D} {vs : List V} {ds : List D} [i : UpV v d] [j : UpVs vs ds] : UpVs (v :: vs) (d :: ds) where up := fun K F => .cons (i.up K F) (j.up K F)
theorem RaL.app {K : PySem.W.Frag} {F : Hp} {as : List Addr} : ∀ {xs ys : List A} {vs ws : List V}, RaL K F as xs vs → RaL K F as ys ws → RaL K F as (xs ++ ys) (vs ++ ws)
  | _, _, _, _, .nil, b => b
  | _, _, _, _, .cons h t, b => .cons h (RaL.app t b)
theorem RpL.ral {K : PySem.W.Frag} {F : Hp} {as : List Addr} : ∀ {xs : List D} {vs : List V}, RpL K F xs vs → RaL K F as (xs.map A.d) vs
  | _, _, .nil => .nil
  | _, _, .cons h t => .cons h (RpL.ral t)
section
variable {K : PySem.W.Frag} {E : L2.St → XK} {X : Env → WX}
def wMethD (C : Addr) (m : Str) (sp : SpD) (dv : List D) (X : Env → WX) (wo : WE) (wa : WA) : WE := fun ρ S Q => wo ρ S fun x S1 => OnS (insA S1 x) fun p => p.1 = C ∧ p.2.lookup m = none ∧ wa ρ S1 fun ds S2 => CallP sp (X ρ) ((x :: ds) ++ dv.map A.d) S2 Q
instance {C : Addr} {m : Str} {sp : SpD} {dvs : List V} {dv : List D} {to : TE} {t : TA} {wo : WE} {wa : WA} [iv : UpVs dvs dv] [io : UpE K E X to wo] [ia : UpA K E X t wa] : UpE K E X (tMethD C m (toSp K sp) dvs E to t) (wMethD C m sp dv X wo wa) where
  up := fun c ux ρ S Q σ H F as R r e h k => io.up c ux ρ S _ σ H F as _ r e h fun x v H1 F1 as1 S1 r1 s1 p1 rx q => by
    obtain ⟨⟨C', fs⟩, e1, rfl, e2, q⟩ := q
    obtain ⟨p, dx, gs, rfl, h1, h2⟩ := insA_ok r1 rx e1
    refine ⟨p, dx, gs, rfl, h1, h2.nolook e2, ?_⟩
    refine ia.up c ux ρ S1 _ σ H1 F1 as1 _ r1 (e.mono s1 p1) q fun ds vs H2 F2 as2 S2 r2 s2 p2 rds q2 => ?_
    exact CallP.ok ux r2 (e.mono (s1.trans s2) (p1.trans p2)) (RaL.app (.cons (rx.mono s2 p2) rds) (iv.up K F2).ral) (k.mono (s1.trans s2) (p1.trans p2)) q2
instance {C : Addr} {sp : SpD} {dvs : List V} {dv : List D} {E0 : XK} {t : TA} {wa : WA} [iv : UpVs dvs dv] [ia : UpA K (fun _ => E0) X t wa] : UpE K (fun _ => E0) X (tMake C (toSp K sp) dvs E0 t) (fun ρ S Q => wa ρ S fun ds S1 => MakeP C sp (X ρ) (ds ++ dv.map A.d) S1 Q) where
  up := fun c ux ρ S Q σ H F as R r e h k => ia.up c ux ρ S _ σ H F as _ r e h fun ds vs H1 F1 as1 S1 r1 s1 p1 rx q =>
    makeP_ok (E := fun _ => E0) ux r1 (e.mono s1 p1) (RaL.app rx (iv.up K F1).ral) (k.mono s1 p1) q
instance {sp : SpD} {dvs : List V} {dv : List D} {E0 : XK} {t : TA} {wa : WA} [iv : UpVs dvs dv] [ia : UpA K (fun _ => E0) X t wa] : UpE K (fun _ => E0) X (tCall (toSp K sp) dvs E0 t) (fun ρ S Q => wa ρ S fun ds S1 => CallP sp (X ρ) (ds ++ dv.map A.d) S1 Q) where
  up := fun c ux ρ S Q σ H F as R r e h k => ia.up c ux ρ S _ σ H F as _ r e h fun ds vs H1 F1 as1 S1 r1 s1 p1 rx q =>
    CallP.ok (E := fun _ => E0) ux r1 (e.mono s1 p1) (RaL.app rx (iv.up K F1).ral) (k.mono s1 p1) q
/-! keywords: g puts the values in the parameters' order -/
class UpGV (gV : List V → List V → List V) (g : outParam (List A → List A → List A)) : Prop where
  up : ∀ K F as (xs ys : List A) (vs ws : List V), RaL K F as xs vs → RaL K F as ys ws → RaL K F as (g xs ys) (gV vs ws)
def wMethK (C : Addr) (m : Str) (n j : Nat) (sp : SpD) (g : List A → List A → List A) (X : Env → WX) (wo : WE) (wa wk : WA) : WE := fun ρ S Q => wo ρ S fun x S1 => OnS (insA S1 x) fun p => p.1 = C ∧ p.2.lookup m = none ∧ wa ρ S1 fun ds S2 => wk ρ S2 fun zs S3 => (x :: ds).length = n ∧ zs.length = j ∧ CallP sp (X ρ) (g (x :: ds) zs) S3 Q
instance {C : Addr} {m : Str} {n j : Nat} {sp : SpD} {gV : List V → List V → List V} {g : List A → List A → List A} {to : TE} {t tk : TA} {wo : WE} {wa wk : WA} [ig : UpGV gV g] [io : UpE K E X to wo] [ia : UpA K E X t wa] [ik : UpA K E X tk wk] : UpE K E X (tMethK C m n j (toSp K sp) gV E to t tk) (wMethK C m n j sp g X wo wa wk) where
  up := fun c ux ρ S Q σ H F as R r e h k => io.up c ux ρ S _ σ H F as _ r e h fun x v H1 F1 as1 S1 r1 s1 p1 rx q => by
    obtain ⟨⟨C', fs⟩, e1, rfl, e2, q⟩ := q
    obtain ⟨p, dx, gs, rfl, h1, h2⟩ := insA_ok r1 rx e1
    refine ⟨p, dx, gs, rfl, h1, h2.nolook e2, ?_⟩
    refine ia.up c ux ρ S1 _ σ H1 F1 as1 _ r1 (e.mono s1 p1) q fun ds vs H2 F2 as2 S2 r2 s2 p2 rds q2 => ?_
    have s12 := s1.trans s2
    have p12 := p1.trans p2
    refine ik.up c ux ρ S2 _ σ H2 F2 as2 _ r2 (e.mono s12 p12) q2 fun zs ws H3 F3 as3 S3 r3 s3 p3 rzs q3 => ?_
    obtain ⟨l1, l2, q3⟩ := q3
    have rall : RaL K F3 as3 (x :: ds) (.ref p :: vs) := .cons (rx.mono (s2.trans s3) (p2.trans p3)) (RaL.mono s3 p3 rds)
    refine ⟨?_, ?_, CallP.ok ux r3 (e.mono (s12.trans s3) (p12.trans p3)) (ig.up K F3 as3 _ _ _ _ rall rzs) (k.mono (s12.trans s3) (p12.trans p3)) q3⟩
    · rw [← Paired.length rall]; exact l1
    · rw [← Paired.length rzs]; exact l2
def wFnK (n j : Nat) (sp : SpD) (g : List A → List A → List A) (X : Env → WX) (wa wk : WA) : WE := fun ρ S Q => wa ρ S fun ds S2 => wk ρ S2 fun zs S3 => ds.length = n ∧ zs.length = j ∧ CallP sp (X ρ) (g ds zs) S3 Q
instance {n j : Nat} {sp : SpD} {gV : List V → List V → List V} {g : List A → List A → List A} {t tk : TA} {wa wk : WA} [ig : UpGV gV g] [ia : UpA K E X t wa] [ik : UpA K E X tk wk] : UpE K E X (tFnK n j (toSp K sp) gV E t tk) (wFnK n j sp g X wa wk) where
  up := fun c ux ρ S Q σ H F as R r e h k => ia.up c ux ρ S _ σ H F as _ r e h fun ds vs H2 F2 as2 S2 r2 s2 p2 rds q2 => by
    refine ik.up c ux ρ S2 _ σ H2 F2 as2 _ r2 (e.mono s2 p2) q2 fun zs ws H3 F3 as3 S3 r3 s3 p3 rzs q3 => ?_
    obtain ⟨l1, l2, q3⟩ := q3
    have rall : RaL K F3 as3 ds vs := RaL.mono s3 p3 rds
    refine ⟨?_, ?_, CallP.ok ux r3 (e.mono (s2.trans s3) (p2.trans p3)) (ig.up K F3 as3 _ _ _ _ rall rzs) (k.mono (s2.trans s3) (p2.trans p3)) q3⟩
    · rw [← Paired.length rall]; exact l1
    · rw [← Paired.length rzs]; exact l2
/-! d[k], or else an own exception -/
def wKeyOr (K : PySem.W.Frag) (C : Addr) (f : Str) (wd wy : WE) (wa : WA) (X : Env → WX) : WS := fun D ρ S => wd ρ S fun x S1 => wy ρ S1 fun y S2 => OnS (dgetR S2 x y) fun o => match o with
  | some d => D.rt d S2
  | none => PySem.W.exmOne K (.type "KeyError") (.type "KeyError") = some true ∧ wX1 C f wa ρ S2 (X ρ)
instance {C : Addr} {f : Str} {td ty : TE} {ta : TA} {wd wy : WE} {wa : WA} [id : UpE K E X td wd] [iy : UpE K E X ty wy] [ia : UpA K E X ta wa] : UpS K E X (tKeyOr K C f td ty ta (fun cls d σ H => E σ cls d H)) (wKeyOr K C f wd wy wa X) where
  up := fun c ux D Dh ed ρ S σ H F as r e h => id.up c ux ρ S _ σ H F as _ r e h fun x v H1 F1 as1 S1 r1 s1 p1 rx q1 =>
    iy.up c ux ρ S1 _ σ H1 F1 as1 _ r1 (e.mono s1 p1) q1 fun y u H2 F2 as2 S2 r2 s2 p2 ry q2 => by
      obtain ⟨o, eo, q⟩ := q2
      obtain ⟨p, ov, rfl, _, hg, h1, h2⟩ := dgetR_ok r2 (rx.mono s2 p2) ry eo
      have e2 := e.mono (s1.trans s2) (p1.trans p2)
      cases o with
      | some d =>
        obtain ⟨w, rfl, hw⟩ := h2 d rfl
        exact ⟨p, _, rfl, hg, fun v z => (by cases z; exact ed.rt d w S2 H2 F2 as2 r2 hw q), fun z => by cases z⟩
      | none =>
        obtain ⟨hk, q⟩ := q
        refine ⟨p, ov, rfl, hg, fun v z => (by rw [h1 rfl] at z; cases z), fun _ d => ⟨true, hk, fun _ _ _ => ?_, fun z => by cases z⟩⟩
        have ik : UpK K E X (tMkO C (spX1 C f) [] ta) (wX1 C f wa) := inferInstance
        refine ik.up c ux ρ S2 _ σ H2 F2 as2 _ r2 e2 q (fun C' dd fs gs H' F' as' S' r' s' p' a1 a2 a3 q' => ?_) (fun C' H' F' as' S' r' s' p' q' => ?_)
        · exact ux.dct ρ σ C' dd fs gs H' F' as' S' r' (e2.mono s' p') a1 a2 a3 q'
        · exact ux.non ρ σ C' H' F' as' S' r' (e2.mono s' p') q'
instance {is : List (Bool × Nat)} {dvs : List V} {dv : List D} [iv : UpVs dvs dv] : UpGV (fun vs zs => vs ++ pk is zs dvs) (fun xs ys => xs ++ pk is ys (dv.map A.d)) where
  up := fun K F as xs ys vs ws h g => RaL.app h (pk_rel g (iv.up K F).ral is)
end
/-- a def with defaults, by data -/
theorem OkD.ofDV {P : Program} {w : World} {K : PySem.W.Frag} {mg : Str → Option Value} {base : Heap} {x qual : Str} {st : Stmt} {f : Addr} {N ps : List Str} {dvs : List V} {k : Nat} {sp : SpD} (F : DefV K x qual st dvs f) (S : FnScope N ps (defScope st)) (hd : dvs ≠ [])
    (hb : ∀ (T : Addr) (kV doc pm : Value) (an : Option Addr) (cdv ct : Value) (us its : List Value), us.length = ps.length → its.length = dvs.length →
      ∃ k, bindArgs (PySem.W.fnOf x qual (defArgs st) (defBody st) (defScope st) (.ref T) kV doc pm an cdv ct) ⟨us, []⟩ = seqItems? (.ref T) >>= k ∧ k (some its.toArray) = pure (ps.zip (us ++ its.drop dvs.length)))
    (len : ∀ ds S Q X, sp ds S Q X → ds.length = ps.length) (hbody : BodyD P w K mg base qual st f N k sp) : OkD P w K mg base (k + 1) f ps (toSp K sp) :=
  OkD.ofV F S hd hb (fun vs H Q E h => toSp_len len h) (fun cdv A outer s H vs Q E hr h => hbody.ok cdv A outer s H vs Q E hr h)
end VL

/-! sorted of tuples of texts; list of a dict -/
namespace VL
open PySem PySem.Spec PyProof.Rows L2 RX
def insW (x : List Str) : List (List Str) → List (List Str)
  | [] => [x]
  | y :: r => if ltW x y = true then x :: y :: r else y :: insW x r
def sortW (l : List (List Str)) : List (List Str) := l.foldr insW []
theorem insW_perm (x : List Str) : ∀ l, (insW x l).Perm (x :: l)
  | [] => .refl _
  | y :: r => by
    unfold insW
    split
    · exact .refl _
    · exact ((insW_perm x r).cons y).trans (List.Perm.swap x y r)
theorem sortW_perm : ∀ l, (sortW l).Perm l
  | [] => .refl _
  | x :: r => (insW_perm x _).trans ((sortW_perm r).cons x)
theorem insW_srt {x : List Str} : ∀ {l : List (List Str)}, l.Pairwise (fun p q => ltW q p = false) → (insW x l).Pairwise fun p q => ltW q p = false
  | [], _ => by unfold insW; exact List.pairwise_singleton _ _
  | y :: r, h => by
    obtain ⟨h1, h2⟩ := List.pairwise_cons.mp h
    unfold insW
    split
    · rename_i e
      have hxy : ltW y x = false := ltW_asym e
      refine List.pairwise_cons.mpr ⟨fun z hz => ?_, h⟩
      rcases List.mem_cons.mp hz with rfl | hz
      · exact hxy
      · exact ltW_neg hxy (h1 z hz)
    · rename_i e
      have hxy : ltW x y = false := by simpa using e
      refine List.pairwise_cons.mpr ⟨fun z hz => ?_, insW_srt h2⟩
      rcases List.mem_cons.mp ((insW_perm x r).subset hz) with rfl | hz
      · exact hxy
      · exact h1 z hz
theorem sortW_srt : ∀ l, (sortW l).Pairwise fun p q => ltW q p = false
  | [] => .nil
  | x :: r => insW_srt (sortW_srt r)
theorem srt_uniq : ∀ {l m : List (List Str)}, l.Pairwise (fun p q => ltW q p = false) → m.Pairwise (fun p q => ltW q p = false) → l.Perm m → l = m
  | [], m, _, _, h => (List.Perm.eq_nil h.symm).symm
  | x :: l, [], _, _, h => absurd h.length_eq (by simp)
  | x :: l, y :: m, hl, hm, h => by
    obtain ⟨l1, l2⟩ := List.pairwise_cons.mp hl
    obtain ⟨m1, m2⟩ := List.pairwise_cons.mp hm
    have e : x = y := by
      have a : x ∈ y :: m := h.subset List.mem_cons_self
      have b : y ∈ x :: l := h.symm.subset List.mem_cons_self
      rcases List.mem_cons.mp a with e | a
      · exact e
      rcases List.mem_cons.mp b with e | b
      · exact e.symm
      exact ltW_tot (m1 x a) (l1 y b)
    subst e
    rw [srt_uniq l2 m2 (List.Perm.cons_inv h)]
theorem sortW_uniq {l m : List (List Str)} (h : l.Pairwise fun p q => ltW q p = false) (p : l.Perm m) : l = sortW m := srt_uniq h (sortW_srt m) (p.trans (sortW_perm m).symm)
theorem sortW_id {l : List (List Str)} (h : l.Pairwise fun p q => ltW q p = false) : sortW l = l := (sortW_uniq h (.refl _)).symm
theorem sortW_congr {l m : List (List Str)} (p : l.Perm m) : sortW l = sortW m := sortW_uniq (sortW_srt l) ((sortW_perm l).trans p)
/-- tuples of texts -/
def wD (x : List Str) : D := .tup (x.map .str)
def wsD : List D → Option (List (List Str))
  | [] => some []
  | .tup xs :: r => match strsD xs, wsD r with
    | some (z :: zs), some ws => some ((z :: zs) :: ws)
    | _, _ => none
  | _ :: _ => none
theorem wsD_map : ∀ {l : List (List Str)}, (∀ x ∈ l, x ≠ []) → wsD (l.map wD) = some l
  | [], _ => rfl
  | x :: r, h => by
    have hx := h x List.mem_cons_self
    have ih := wsD_map fun y hy => h y (List.mem_cons_of_mem _ hy)
    cases x with
    | nil => exact absurd rfl hx
    | cons z zs =>
      rw [List.map_cons]
      show (match strsD ((z :: zs).map D.str), wsD (r.map wD) with
        | some (z :: zs), some ws => some ((z :: zs) :: ws)
        | _, _ => none) = _
      rw [strsD_map, ih]
section
variable {K : PySem.W.Frag} {E : L2.St → XK} {X : Env → WX}
theorem wsD_ok {F : Hp} : ∀ {xs : List D} {vs : List V} {ws : List (List Str)}, RpL K F xs vs → wsD xs = some ws → ∃ ps : List (Addr × List Str), vs = ps.map (fun p => V.ref p.1) ∧ ws = ps.map (·.2) ∧ ∀ p ∈ ps, F p.1 = some (.tup (p.2.map V.str)) ∧ p.2 ≠ [] ∧ ∀ z ∈ p.2, Cp z
  | [], _, _, .nil, e => by cases e; exact ⟨[], rfl, rfl, fun _ h => by cases h⟩
  | x :: r, _, ws, .cons h t, e => by
    cases x with
    | tup xs =>
      have e : (match strsD xs, wsD r with
        | some (z :: zs), some ws => some ((z :: zs) :: ws)
        | _, _ => none) = some ws := e
      split at e
      · rename_i z zs ws' e1 e2
        cases e
        obtain ⟨ps, p1, p2, p3⟩ := wsD_ok t e2
        cases h with | tup h1 h2 =>
        rename_i a vs'
        obtain ⟨rfl, hc⟩ := strsD_ok h2 e1
        refine ⟨(a, z :: zs) :: ps, by rw [List.map_cons, p1], by rw [List.map_cons, p2], fun p hp => ?_⟩
        rcases List.mem_cons.mp hp with rfl | hp
        · exact ⟨h1, by simp, hc⟩
        · exact p3 p hp
      · cases e
    | _ => cases e
theorem rpl_strs {F : Hp} : ∀ {zs : List Str}, (∀ z ∈ zs, Cp z) → RpL K F (zs.map D.str) (zs.map V.str)
  | [], _ => .nil
  | z :: zs, h => .cons (.str (h z List.mem_cons_self)) (rpl_strs fun y hy => h y (List.mem_cons_of_mem _ hy))
theorem rpl_ws {F : Hp} : ∀ {qs : List (Addr × List Str)}, (∀ p ∈ qs, F p.1 = some (.tup (p.2.map V.str)) ∧ p.2 ≠ [] ∧ ∀ z ∈ p.2, Cp z) → RpL K F (qs.map fun p => wD p.2) (qs.map fun p => V.ref p.1)
  | [], _ => .nil
  | q :: qs, h => by
    obtain ⟨a, _, b⟩ := h q List.mem_cons_self
    exact .cons (.tup a (rpl_strs b)) (rpl_ws fun p hp => h p (List.mem_cons_of_mem _ hp))
theorem sorted_ok {F : Hp} {xs : List D} {vs : List V} {ws : List (List Str)} (t : RpL K F xs vs) (e : wsD xs = some ws) : ∃ ps : List (Addr × List Str), vs = ps.map (fun p => V.ref p.1) ∧ (∀ p ∈ ps, F p.1 = some (.tup (p.2.map V.str)) ∧ p.2 ≠ []) ∧
    ∀ qs : List (Addr × List Str), qs.Perm ps → qs.Pairwise (fun p q => ltW q.2 p.2 = false) → RpL K F ((sortW ws).map wD) (qs.map fun p => V.ref p.1) := by
  obtain ⟨ps, p1, p2, p3⟩ := wsD_ok t e
  refine ⟨ps, p1, fun p hp => ⟨(p3 p hp).1, (p3 p hp).2.1⟩, fun qs q1 q2 => ?_⟩
  have e2 : qs.map (·.2) = sortW ws := by
    refine sortW_uniq (List.pairwise_map.mpr q2) ?_
    rw [p2]
    exact q1.map _
  rw [← e2, List.map_map]
  exact rpl_ws fun p hp => p3 p (q1.subset hp)
instance : UpC K (rSortedW K) (fun xs S Q => one (fun x => OnS (lstD S x) fun ys => OnS (wsD ys) fun ws => Q (.d (.lst ((sortW ws).map wD))) S) xs) where
  up := fun c S Q H F as R xs vs r h q k => by
    obtain ⟨x, v, rfl, hx, ys, e, ws, ew, q⟩ := one_ok h q
    obtain ⟨p, us, rfl, h1, t⟩ := lstD_ok r hx e
    obtain ⟨ps, rfl, p2, p3⟩ := sorted_ok t ew
    exact ⟨p, ps, rfl, h1, fun q hq => ⟨r.fs _ _ (p2 q hq).1, (p2 q hq).2⟩, fun qs l q1 q2 hl => k.newD r hl (fun F' s' e' => .lst e' ((p3 qs q1 q2).mono s')) q⟩
/-- owned -/
def wSortO (wa : WA) : WE := fun ρ S Q => wa ρ S fun xs S1 => one (fun x => OnS (lstD S1 x) fun ys => OnS (wsD ys) fun ws => Q (.ref S1.length) (S1 ++ [.lst ((sortW ws).map wD)])) xs
instance {t : TA} {wa : WA} [ia : UpA K E X t wa] : UpE K E X (tOwn (tCB (rSortedW K) t)) (wSortO wa) where
  up := fun c ux ρ S Q σ H F as R r e h k => ia.up c ux ρ S _ σ H F as _ r e h fun xs vs H1 F1 as1 S1 r1 s1 p1 rx q1 => by
    obtain ⟨x, v, rfl, hx, ys, e, ws, ew, q⟩ := one_ok rx q1
    obtain ⟨p, us, rfl, h1, t⟩ := lstD_ok r1 hx e
    obtain ⟨ps, rfl, p2, p3⟩ := sorted_ok t ew
    exact ⟨p, ps, rfl, h1, fun q hq => ⟨r1.fs _ _ (p2 q hq).1, (p2 q hq).2⟩, fun qs l q1 q2 hl => (k.mono s1 p1).newO r1 hl (obL (r1.none_F hl) upd_same (p3 qs q1 q2)) q⟩
/-! list(d) -/
def kD : Key → D
  | .inl i => .int i
  | .inr x => .str x
def keysA (S : Sto) : A → Option (List Key)
  | .ref n => match S[n]? with
    | some (.dK kvs) => some (kvs.map (·.1))
    | some (.dR kvs) => some (kvs.map (·.1))
    | _ => none
  | _ => none
def keysT (S : Sto) : A → Option (List (List Key))
  | .ref n => match S[n]? with
    | some (.dT kvs) => some (kvs.map (·.1))
    | some (.dS kvs) => some (kvs.map (·.1))
    | _ => none
  | _ => none
theorem RpK.keys {F : Hp} : ∀ {kvs : List (Key × D)} {gs : List (Key × V)}, RpK K F kvs gs → kvs.map (·.1) = gs.map (·.1)
  | _, _, .nil => rfl
  | _, _, .cons h t => by rw [List.map_cons, List.map_cons, RpK.keys t]
theorem paired_keys {κ β γ : Type} {R : β → γ → Prop} : ∀ {kvs : List (κ × β)} {gs : List (κ × γ)}, PySem.Paired (fun p q => p.1 = q.1 ∧ R p.2 q.2) kvs gs → kvs.map (·.1) = gs.map (·.1)
  | _, _, .nil => rfl
  | _, _, .cons h t => by rw [List.map_cons, List.map_cons, paired_keys t, h.1]
theorem keysA_ok {c : Cd} {H F : Hp} {as : List Addr} {S : Sto} (r : SR K c H F as S) {x : A} {v : V} {ks : List Key} (h : RpA K F as x v) (e : keysA S x = some ks) : ∃ p gs, v = .ref p ∧ H p = some (.dK gs) ∧ gs.map (·.1) = ks := by
  cases x with
  | d y => cases e
  | ref n =>
    obtain ⟨p, hp, rfl⟩ := h
    have e : (match S[n]? with
      | some (.dK kvs) => some (kvs.map (·.1))
      | some (.dR kvs) => some (kvs.map (·.1))
      | _ => none) = some ks := e
    split at e
    · rename_i kvs ey; cases e; obtain ⟨_, gs, h1, h2⟩ := r.ob n p _ hp ey; exact ⟨p, gs, rfl, h1, h2.keys.symm⟩
    · rename_i kvs ey; cases e; obtain ⟨_, gs, h1, h2⟩ := r.ob n p _ hp ey; exact ⟨p, gs, rfl, h1, (paired_keys h2).symm⟩
    · cases e
theorem keysT_ok {c : Cd} {H F : Hp} {as : List Addr} {S : Sto} (r : SR K c H F as S) {x : A} {v : V} {ks : List (List Key)} (h : RpA K F as x v) (e : keysT S x = some ks) : ∃ p gs, v = .ref p ∧ H p = some (.dT gs) ∧ gs.map (·.1) = ks := by
  cases x with
  | d y => cases e
  | ref n =>
    obtain ⟨p, hp, rfl⟩ := h
    have e : (match S[n]? with
      | some (.dT kvs) => some (kvs.map (·.1))
      | some (.dS kvs) => some (kvs.map (·.1))
      | _ => none) = some ks := e
    split at e
    · rename_i kvs ey; cases e; obtain ⟨_, gs, h1, h2⟩ := r.ob n p _ hp ey; exact ⟨p, gs, rfl, h1, (paired_keys h2).symm⟩
    · rename_i kvs ey; cases e; obtain ⟨_, gs, h1, h2⟩ := r.ob n p _ hp ey; exact ⟨p, gs, rfl, h1, (paired_keys h2).symm⟩
    · cases e
/-- the texts of the keys have true code points: the values tell -/
def kCp : Key → Prop
  | .inl _ => True
  | .inr x => Cp x
theorem rpl_keys {F : Hp} : ∀ {ks : List Key}, (∀ k ∈ ks, kCp k) → RpL K F (ks.map kD) (ks.map kV)
  | [], _ => .nil
  | .inl i :: r, h => .cons (.int i) (rpl_keys fun k hk => h k (List.mem_cons_of_mem _ hk))
  | .inr x :: r, h => .cons (.str (h _ List.mem_cons_self)) (rpl_keys fun k hk => h k (List.mem_cons_of_mem _ hk))
instance : UpC K rListD (fun xs S Q => one (fun x => OnS (keysA S x) fun ks => (∀ k ∈ ks, kCp k) ∧ Q (.d (.lst (ks.map kD))) S) xs) where
  up := fun c S Q H F as R xs vs r h q k => by
    obtain ⟨x, v, rfl, hx, ks, e, hk, q⟩ := one_ok h q
    obtain ⟨p, gs, rfl, h1, rfl⟩ := keysA_ok r hx e
    refine ⟨p, gs, rfl, h1, fun l hl => k.newD r hl (fun F' s' e' => .lst e' ?_) q⟩
    have := rpl_keys (K := K) (F := F') hk
    rw [List.map_map, List.map_map] at this
    rw [List.map_map]
    exact this
def rListT : List V → Hp → VK → Prop := fun xs H Q => ∃ d kvs, xs = [V.ref d] ∧ Rd H d (.dT kvs) ∧ ∀ p bs, H p = none → IsKeys H kvs bs → Q (.ref p) (upd H p (.lst (bs.map V.ref)))
theorem call_listT {X : Cx} (hc : X.calm = true) : CallR X (.type "list") rListT := call_list_dT hc
def tD (ks : List Key) : D := .tup (ks.map kD)
/-- the keys, made data -/
theorem SR.keysT {c : Cd} {H : Hp} {as : List Addr} {S : Sto} : ∀ {kvs : List (List Key × V)} {bs : List Addr} {F : Hp}, SR K c H F as S → IsKeys H kvs bs → (∀ p ∈ kvs, ∀ k ∈ p.1, kCp k) → ∃ F', SR K c H F' as S ∧ Same F F' ∧ RpL K F' (kvs.map fun p => tD p.1) (bs.map V.ref)
  | _, _, F, r, .nil, _ => ⟨F, r, Same.refl _, .nil⟩
  | p :: kvs, b :: bs, F, r, .cons h t, hc => by
    obtain ⟨F1, r1, s1, e1⟩ := r.addT h
    obtain ⟨F2, r2, s2, t2⟩ := SR.keysT r1 t fun p hp => hc p (List.mem_cons_of_mem _ hp)
    exact ⟨F2, r2, s1.trans s2, .cons (.tup (s2 _ _ e1) (rpl_keys (hc p List.mem_cons_self))) t2⟩
instance : UpC K rListT (fun xs S Q => one (fun x => OnS (keysT S x) fun ks => (∀ p ∈ ks, ∀ k ∈ p, kCp k) ∧ Q (.d (.lst (ks.map tD))) S) xs) where
  up := fun c S Q H F as R xs vs r h q k => by
    obtain ⟨x, v, rfl, hx, ks, e, hk, q⟩ := one_ok h q
    obtain ⟨p, gs, rfl, h1, rfl⟩ := keysT_ok r hx e
    refine ⟨p, gs, rfl, .inl h1, fun l bs hl hb => ?_⟩
    obtain ⟨F1, r1, s1, t1⟩ := r.keysT hb fun p hp => hk p.1 (List.mem_map.mpr ⟨p, hp, rfl⟩)
    rw [List.map_map] at q
    exact (k.mono s1 (List.prefix_refl _)).newD r1 hl (fun F' s' e' => .lst e' (t1.mono s')) q
end
end VL

/-! xs += ys; xs.index(y); {k: v, ..}; what is never reached -/
namespace VL
open PySem PySem.Spec PyProof.Rows L2 RX
/-! ### never -/
def tNeverE : TE := fun _ _ _ => False
theorem pe_never {X : Cx} {e : Expr} : PE X e tNeverE := ⟨fun _ _ _ _ _ _ h => False.elim h⟩
/-! ### x += e -/
class UpIp (K : PySem.W.Frag) (t : TIp) (w : outParam (A → A → Sto → WQ → Prop)) : Prop where
  up : ∀ (c : Cd) (S : Sto) (Q : WQ) (H F : Hp) (as : List Addr) (R : VK) (x y : A) (v u : V), SR K c H F as S → RpA K F as x v → RpA K F as y u → w x y S Q → KtE K c F as Q R → t v u H R
theorem ip_ext {X : Cx} : PIp X .Add rExt2 := fun pins s σ H x y v u Q I rx ry h => iop_ext pins s σ H x y v u Q I rx ry h
section
variable {K : PySem.W.Frag} {E : L2.St → XK} {X : Env → WX}
instance : UpE K E X tNeverE (fun _ _ _ => False) where
  up := fun c ux ρ S Q σ H F as R r e h k => h
def wAug (i : Nat) (we : WE) (wi : A → A → Sto → WQ → Prop) : WS := fun D ρ S => match ρ[i]? with
  | some (some a) => we ρ S fun y S1 => wi a y S1 fun z S2 => D.nx (ρ.set i (some z)) S2
  | _ => False
instance {i : Nat} {te : TE} {ti : TIp} {we : WE} {wi : A → A → Sto → WQ → Prop} [ie : UpE K E X te we] [ii : UpIp K ti wi] : UpS K E X (tAug i te ti) (wAug i we wi) where
  up := fun c ux D Dh ed ρ S σ H F as r e h => by
    unfold wAug at h
    split at h
    · rename_i a ea
      obtain ⟨v, h1, h2⟩ := e.2 i a ea
      refine ⟨v, h1, ie.up c ux ρ S _ σ H F as _ r e h fun y u H1 F1 as1 S1 r1 s1 p1 ry q1 => ?_⟩
      refine ii.up c S1 _ H1 F1 as1 _ a y v u r1 (h2.mono s1 p1) ry q1 fun z w H2 F2 as2 S2 r2 s2 p2 rz q2 => ?_
      exact ed.nx _ S2 _ H2 F2 as2 r2 ((e.mono (s1.trans s2) (p1.trans p2)).set i rz) q2
    · exact h.elim
instance : UpIp K rExt2 (fun x y S Q => match x with
    | .ref n => (match S[n]? with
      | some (.lst xs) => OnS (mulD S y) fun ys => xs.length + ys.length ≤ 1000000 ∧ Q (.ref n) (S.set n (.lst (xs ++ ys)))
      | _ => False)
    | _ => False) where
  up := fun c S Q H F as R x y v u r hx hy q k => by
    split at q
    · rename_i n
      have hx' := hx
      obtain ⟨p, hp, rfl⟩ := hx
      split at q
      · rename_i xs ey
        obtain ⟨ys, e1, hl, q⟩ := q
        obtain ⟨f0, ws, h1, h2⟩ := r.ob _ p _ hp ey
        obtain ⟨b, us, rfl, h3, h4⟩ := mulD_ok r hy e1
        refine ⟨p, b, ws, us, rfl, rfl, h1, h3, le_size (by rw [← h2.length, ← h4.length]; exact hl), ?_⟩
        exact k (.ref n) _ _ _ _ _ (r.put hp f0 (obL f0 upd_same (h2.append h4))) (Same.refl _) (List.prefix_refl _) hx' q
      · exact q.elim
    · exact q.elim
instance {g : Int → Int → Int} : UpIp K (ipI g) (fun x y S Q => asII (fun i j => Q (.d (.int (g i j))) S) x y) where
  up := fun c S Q H F as R x y v u r hx hy q k => by
    obtain ⟨i, j, rfl, rfl, q⟩ := asII_ok hx hy q
    exact ⟨i, j, rfl, rfl, k.here (a := .d (.int _)) r (.int _) q⟩
/-! ### xs.index(y) -/
def idxD (y : D) (xs : List D) : Option Nat := xs.findIdx? fun z => D.eqv z y
instance : UpM K (rIndex K) (fun o xs S Q => one (fun x => OnS (lstD S o) fun ys => OnS (pureA S x) fun d => d.fl = true ∧ ys.all D.fl = true ∧ OnS (idxD d ys) fun j => Q (.d (.int (j : Nat))) S) xs) where
  up := fun c S Q H F as R o ov xs vs r ho h q k => by
    obtain ⟨x, v, rfl, hx, ys, e1, d, ed, f1, f2, j, ej, q⟩ := one_ok h q
    obtain ⟨p, ws, rfl, h1, t⟩ := lstD_ok r ho e1
    have rx := pureA_ok r hx ed
    obtain ⟨a1, _⟩ := inV_ok rx f1 t f2
    obtain ⟨hj, hp, hb⟩ := List.findIdx?_eq_some_iff_getElem.mp ej
    obtain ⟨z, hz, rz⟩ := t.get (List.getElem?_eq_getElem hj)
    refine ⟨p, ws, v, j, z, rfl, rfl, h1, fl_ok rx f1, a1, hz, ?_, fun m z' hm hz' => ?_, k.here (a := .d (.int _)) r (.int _) q⟩
    · rw [eqV_ok rz rx (List.all_eq_true.mp f2 _ (List.getElem_mem hj)) f1]; exact hp
    · have hm' : m < ys.length := by omega
      have rz' := t.get' (List.getElem?_eq_getElem hm') hz'
      rw [eqV_ok rz' rx (List.all_eq_true.mp f2 _ (List.getElem_mem hm')) f1]
      simpa using hb m hm
/-! ### {k: v, ..} -/
abbrev WPP := Env → Sto → (List (Key × A) → Sto → Prop) → Prop
class UpPP (K : PySem.W.Frag) (E : L2.St → XK) (X : Env → WX) (t : List (TE × TE)) (w : outParam WPP) : Prop where
  up : ∀ c, UpX K c E X → ∀ (ρ : Env) (S : Sto) (Q : List (Key × A) → Sto → Prop) (σ : L2.St) (H F : Hp) (as : List Addr) (R : List (V × V) → Hp → Prop), SR K c H F as S → EnvR K F as ρ σ → w ρ S Q →
    (∀ (kvs : List (Key × A)) (gs : List (Key × V)) (H' F' : Hp) (as' : List Addr) (S' : Sto), SR K c H' F' as' S' → Same F F' → as <+: as' → RaG K F' as' kvs gs → Q kvs S' → R (gs.map fun kv => (kV kv.1, kv.2)) H') → tPairs t σ H R
instance : UpPP K E X [] (fun _ S Q => Q [] S) where
  up := fun c ux ρ S Q σ H F as R r e h k => k [] [] H F as S r (Same.refl _) (List.prefix_refl _) .nil h
instance {tk tv : TE} {l : List (TE × TE)} {wk wv : WE} {wl : WPP} [ik : UpE K E X tk wk] [iv : UpE K E X tv wv] [il : UpPP K E X l wl] : UpPP K E X ((tk, tv) :: l) (fun ρ S Q => wk ρ S fun x S1 => OnS (keyA x) fun k => wv ρ S1 fun y S2 => wl ρ S2 fun kvs S3 => Q ((k, y) :: kvs) S3) where
  up := fun c ux ρ S Q σ H F as R r e h k => ik.up c ux ρ S _ σ H F as _ r e h fun x v H1 F1 as1 S1 r1 s1 p1 rx q1 => by
    obtain ⟨ky, ek, q1⟩ := q1
    have := keyA_ok rx ek
    subst this
    refine iv.up c ux ρ S1 _ σ H1 F1 as1 _ r1 (e.mono s1 p1) q1 fun y u H2 F2 as2 S2 r2 s2 p2 ry q2 => ?_
    refine il.up c ux ρ S2 _ σ H2 F2 as2 _ r2 (e.mono (s1.trans s2) (p1.trans p2)) q2 fun kvs gs H3 F3 as3 S3 r3 s3 p3 rg q3 => ?_
    exact k _ ((ky, u) :: gs) H3 F3 as3 S3 r3 ((s1.trans s2).trans s3) ((p1.trans p2).trans p3) (.cons ⟨rfl, ry.mono s3 p3⟩ rg) q3
def mergeA {κ β : Type} [DecidableEq κ] : List (κ × β) → List (κ × β) → List (κ × β)
  | kvs, [] => kvs
  | kvs, p :: r => mergeA (pK kvs p.1 p.2) r
theorem RaG.merge {F : Hp} {as : List Addr} : ∀ {l : List (Key × A)} {ms : List (Key × V)} {kvs : List (Key × A)} {gs : List (Key × V)}, RaG K F as kvs gs → RaG K F as l ms → RaG K F as (mergeA kvs l) (mergeK gs ms)
  | [], _, _, _, h, .nil => h
  | p :: l, q :: ms, kvs, gs, h, .cons g t => by
    obtain ⟨k, a⟩ := p
    obtain ⟨k', v⟩ := q
    obtain ⟨e, g⟩ := g
    cases (show k = k' from e)
    exact RaG.merge (kvs := pK kvs k a) (gs := putK gs k v) (RaG.put h g) t
/-- the new dict is made first -/
def wDisp (wl : WPP) : WE := fun ρ S Q => wl ρ (S ++ [.dR []]) fun kvs S1 => kvs.length ≤ 15 ∧ S1[S.length]? = some (.dR []) ∧ Q (.ref S.length) (S1.set S.length (.dR (mergeA [] kvs)))
instance {l : List (TE × TE)} {wl : WPP} [il : UpPP K E X l wl] : UpE K E X (tDR (tDisp l)) (wDisp wl) where
  up := fun c ux ρ S Q σ H F as R r e h k => fun p hp => by
    have nF := r.none_F hp
    have r1 := r.newO (o := .dK []) hp (obDR (K := K) (H := upd H p (.dK [])) (F := F) (as := as ++ [p]) nF upd_same .nil)
    have pre : as <+: as ++ [p] := List.prefix_append _ _
    have at1 : (as ++ [p])[S.length]? = some p := by rw [← r.len, List.getElem?_append_right (Nat.le_refl _), Nat.sub_self]; rfl
    refine il.up c ux ρ _ _ σ _ F _ _ r1 (e.mono (Same.refl _) pre) h fun kvs gs H2 F2 as2 S2 r2 s2 p2 rg q2 => ?_
    obtain ⟨hl, ho, q⟩ := q2
    have at2 := pre_get p2 at1
    obtain ⟨f0, gs0, h1, h2⟩ := r2.ob _ p _ at2 ho
    have g0 : gs0 = [] := by cases h2; rfl
    subst g0
    refine ⟨h1, gs, rfl, by rw [← RaG.length rg]; exact hl, ?_⟩
    exact k (.ref S.length) _ _ _ _ _ (r2.put at2 f0 (obDR f0 upd_same (RaG.merge .nil rg))) s2 (pre.trans p2) ⟨p, at2, rfl⟩ q
/-! ### owned results -/
instance {t : TA} {wa : WA} [ia : UpA K E X t wa] : UpE K E X (tOwn (tCB rListD t)) (fun ρ S Q => wa ρ S fun xs S1 => one (fun x => OnS (keysA S1 x) fun ks => (∀ k ∈ ks, kCp k) ∧ Q (.ref S1.length) (S1 ++ [.lst (ks.map kD)])) xs) where
  up := fun c ux ρ S Q σ H F as R r e h k => ia.up c ux ρ S _ σ H F as _ r e h fun xs vs H1 F1 as1 S1 r1 s1 p1 rx q1 => by
    obtain ⟨x, v, rfl, hx, ks, e, hk, q⟩ := one_ok rx q1
    obtain ⟨p, gs, rfl, h1, rfl⟩ := keysA_ok r1 hx e
    refine ⟨p, gs, rfl, h1, fun l hl => (k.mono s1 p1).newO r1 hl (obL (r1.none_F hl) upd_same ?_) q⟩
    have := rpl_keys (K := K) (F := F1) hk
    rw [List.map_map, List.map_map] at this
    rw [List.map_map]
    exact this
instance {t : TA} {wa : WA} [ia : UpA K E X t wa] : UpE K E X (tOwn (tCB rListT t)) (fun ρ S Q => wa ρ S fun xs S1 => one (fun x => OnS (keysT S1 x) fun ks => (∀ p ∈ ks, ∀ k ∈ p, kCp k) ∧ Q (.ref S1.length) (S1 ++ [.lst (ks.map tD)])) xs) where
  up := fun c ux ρ S Q σ H F as R r e h k => ia.up c ux ρ S _ σ H F as _ r e h fun xs vs H1 F1 as1 S1 r1 s1 p1 rx q1 => by
    obtain ⟨x, v, rfl, hx, ks, e, hk, q⟩ := one_ok rx q1
    obtain ⟨p, gs, rfl, h1, rfl⟩ := keysT_ok r1 hx e
    refine ⟨p, gs, rfl, .inl h1, fun l bs hl hb => ?_⟩
    obtain ⟨F2, r2, s2, t2⟩ := r1.keysT hb fun p hp => hk p.1 (List.mem_map.mpr ⟨p, hp, rfl⟩)
    rw [List.map_map] at q
    exact ((k.mono s1 p1).mono s2 (List.prefix_refl _)).newO r2 hl (obL (r2.none_F hl) upd_same t2) q
end
theorem kSortW {X : Cx} {K : PySem.W.Frag} (h : X.K = K) : CallR X (.builtin "sorted") (rSortedW K) := h ▸ cr_sortedW
theorem kMtIndex {X : Cx} {K : PySem.W.Frag} (h : X.K = K) : MtR X "list.index" (rIndex K) := h ▸ mt_index
theorem kExt {X : Cx} {K : PySem.W.Frag} (h : X.K = K) {e : Expr} {t : TE} (he : PE X e t) : PE X e t := he
theorem kKeyOr {X : Cx} {K : PySem.W.Frag} (h : X.K = K) {st : Stmt} {C : Addr} {f : Str} {td ty : TE} {ta : TA} {W : L2.WX} (he : PS X st (tKeyOr X.K C f td ty ta W)) : PS X st (tKeyOr K C f td ty ta W) := h ▸ he
end VL

namespace VL
open PySem PySem.Spec PyProof.Rows L2 RX
/-- four handles go along, as 0 .. 3; what comes back is written out -/
theorem CallP.s4 {sp : SpD} {X : WX} {ds ds0 : List A} {S1 : Sto} {Q : WQ} (n m k l : Nat) {o p q r : Ob} (nd : [n, m, k, l].Nodup) (hd : ds = ds0.map (A.ren (rn [n, m, k, l] S1.length)))
    (h1 : S1[n]? = some (o.ren (rn [n, m, k, l] S1.length))) (h2 : S1[m]? = some (p.ren (rn [n, m, k, l] S1.length))) (h3 : S1[k]? = some (q.ren (rn [n, m, k, l] S1.length))) (h4 : S1[l]? = some (r.ren (rn [n, m, k, l] S1.length)))
    (h : sp ds0 [o, p, q, r] (fun a S' => ∃ a2 S2, a.ren (rn [n, m, k, l] S1.length) = a2 ∧ scat (rn [n, m, k, l] S1.length) S1 [n, m, k, l] S' = S2 ∧ Q a2 S2) (fun C fs S' => ∃ S2, scat (rn [n, m, k, l] S1.length) S1 [n, m, k, l] S' = S2 ∧ X C fs S2)) : CallP sp X ds S1 Q := by
  refine .mk ⟨[n, m, k, l], ds0, [o, p, q, r], nd, hd, ⟨h1, h2, h3, h4, trivial⟩, ?_⟩
  have e : (fun a S' => ∃ a2 S2, a.ren (rn [n, m, k, l] S1.length) = a2 ∧ scat (rn [n, m, k, l] S1.length) S1 [n, m, k, l] S' = S2 ∧ Q a2 S2) = fun (a : A) S' => Q (a.ren (rn [n, m, k, l] S1.length)) (scat (rn [n, m, k, l] S1.length) S1 [n, m, k, l] S') := by
    funext a S'
    exact propext ⟨fun ⟨_, _, e1, e2, q⟩ => by rw [e1, e2]; exact q, fun q => ⟨_, _, rfl, rfl, q⟩⟩
  have e' : (fun C fs S' => ∃ S2, scat (rn [n, m, k, l] S1.length) S1 [n, m, k, l] S' = S2 ∧ X C fs S2) = fun C fs S' => X C fs (scat (rn [n, m, k, l] S1.length) S1 [n, m, k, l] S') := by
    funext C fs S'
    exact propext ⟨fun ⟨_, e2, q⟩ => by rw [e2]; exact q, fun q => ⟨_, rfl, q⟩⟩
  rw [e, e'] at h
  exact h
/-- a new key stands behind the others -/
theorem pK_new {κ β : Type} [DecidableEq κ] {kvs : List (κ × β)} {k : κ} {v : β} (h : gK kvs k = none) : pK kvs k v = kvs ++ [(k, v)] := by
  unfold pK
  rw [if_neg]
  intro z
  obtain ⟨kv, h1, h2⟩ := List.any_eq_true.mp z
  unfold gK at h
  rw [Option.map_eq_none_iff, List.find?_eq_none] at h
  exact h kv h1 h2
theorem pK_old {κ β : Type} [DecidableEq κ] {kvs : List (κ × β)} {k : κ} {v : β} (h : (gK kvs k).isSome = true) : pK kvs k v = kvs.map fun kv => if kv.1 = k then (kv.1, v) else kv := by
  unfold pK
  rw [if_pos]
  unfold gK at h
  rw [Option.isSome_map] at h
  obtain ⟨kv, e⟩ := Option.isSome_iff_exists.mp h
  exact List.any_eq_true.mpr ⟨kv, List.mem_of_find?_eq_some e, (List.find?_some (p := fun kv : κ × β => decide (kv.1 = k)) e)⟩
theorem gK_map {κ α β : Type} [DecidableEq κ] {f : α → κ} {g : α → β} (k : κ) (l : List α) : gK (l.map fun a => (f a, g a)) k = (l.find? fun a => decide (f a = k)).map g := by
  unfold gK
  rw [List.find?_map, Option.map_map]
  rfl
end VL

namespace VL
open PySem PySem.Spec PyProof.Rows L2 RX
/-! ### lists of own ones, alike item by item -/
/-- its own __eq__ says True of two such -/
def OkO (C : Addr) (sp : SpD) (d : D) : Prop := ∃ fs, d = .obj C fs ∧ sp [.d d, .d d] [] (fun a S => a = .d (.bl true) ∧ S = []) (fun _ _ _ => False)
def DO (K : PySem.W.Frag) (C : Addr) (sp : SpD) : Eqv := fun x y H => ∃ d, OkO C sp d ∧ Rp K H d x ∧ Rp K H d y
theorem mon_DO {K : PySem.W.Frag} {C : Addr} {sp : SpD} : Mon (DO K C sp) := fun x y H H' e ⟨d, h, a, b⟩ => ⟨d, h, a.mono e, b.mono e⟩
theorem sr_all {K : PySem.W.Frag} (H : Hp) : SR K ⟨fun _ => none, H, []⟩ H H [] [] :=
  ⟨rfl, List.nodup_nil, Same.refl _, fun a o e => (nomatch e), fun a => .inl rfl, fun n a h => by simp at h, fun n a o h => by simp at h, Same.refl _, List.prefix_refl _, fun n a _ h => by simp at h⟩
theorem eqG_DO {X : Cx} {k : Nat} {f C : Addr} {ps : List Str} {sp : SpD} {E : XK} (G : OkD X.prog X.w X.K X.mg X.base k f ps (toSp X.K sp)) (hs : PySem.W.findIn X.K (.ref C) "__eq__" = some (some (.ref f))) (hf : PySem.W.isFn X.K (.ref f) = true)
    (hx : Passes (HK.CX X.prog X.w) X E) : EqG X k (DO X.K C sp) := by
  obtain ⟨kp, fd, hb, F, _⟩ := G
  have F' : FnOk X.prog X.w X.K X.mg X.base (HK.CX X.prog X.w) k f fd ps (spEq fun a b H => DO X.K C sp (.ref a) (.ref b) H) := F.imp fun vs H Q E h => by
    obtain ⟨a, b, rfl, ⟨d, ⟨fs, rfl, h1⟩, ra, rb⟩, q⟩ := h
    refine ⟨fun _ => none, H, [], [], [.d _, .d _], _, _, sr_all H, .cons ra (.cons rb .nil), h1, ?_, ⟨?_, ?_⟩⟩
    · rintro z v H1 F1 as1 S1 r s p rz ⟨rfl, _⟩
      cases rz
      exact q H1 (s.trans r.fs)
    · intro _ _ _ _ _ _ _ _ _ _ _ _ _ _ _ z; exact z.elim
    · intro _ _ _ _ _ _ _ _ _ z; exact z.elim
  refine (eqG_ins (C := C) F' hs hf hb hx).imp fun x y H h => ?_
  obtain ⟨d, ⟨fs, rfl, h1⟩, ra, rb⟩ := h
  cases ra with
  | obj ha ta =>
    cases rb with
    | obj hb' tb => exact ⟨_, _, _, _, _, _, rfl, rfl, ha, hb', ⟨_, ⟨fs, rfl, h1⟩, .obj ha ta, .obj hb' tb⟩⟩
def lsOf (S : Sto) : A → Option (List D)
  | .d (.lst xs) => some xs
  | .ref n => match S[n]? with
    | some (.lst xs) => some xs
    | some (.fz (.lst xs)) => some xs
    | _ => none
  | _ => none
theorem lsOf_ok {K : PySem.W.Frag} {c : Cd} {H F : Hp} {as : List Addr} {S : Sto} (r : SR K c H F as S) {a : A} {v : V} {xs : List D} (h : RpA K F as a v) (e : lsOf S a = some xs) : ∃ p vs, v = .ref p ∧ H p = some (.lst vs) ∧ RpL K F xs vs := by
  cases a with
  | d y =>
    cases y with
    | lst ys => cases e; cases h with | lst h t => exact ⟨_, _, rfl, r.fs _ _ h, t⟩
    | _ => cases e
  | ref n =>
    obtain ⟨p, hp, rfl⟩ := h
    have e : (match S[n]? with
      | some (.lst xs) => some xs
      | some (.fz (.lst xs)) => some xs
      | _ => none) = some xs := e
    split at e
    · rename_i y ey
      cases e
      obtain ⟨_, vs, h1, h2⟩ := r.ob n p _ hp ey
      exact ⟨_, _, rfl, h1, h2⟩
    · rename_i y ey
      cases e
      obtain ⟨_, h2⟩ := r.ob n p _ hp ey
      cases h2 with | lst h t => exact ⟨_, _, rfl, r.fs _ _ h, t⟩
    · cases e
theorem prs_DO {K : PySem.W.Frag} {C : Addr} {sp : SpD} {H : Hp} : ∀ {xs : List D} {vs us : List V}, (∀ d ∈ xs, OkO C sp d) → RpL K H xs vs → RpL K H xs us → Prs (DO K C sp) vs us H
  | [], _, _, _, .nil, .nil => Prs.nil
  | d :: xs, _, _, h, .cons a t, .cons b u => Prs.cons ⟨d, h d List.mem_cons_self, a, b⟩ (prs_DO (fun x hx => h x (List.mem_cons_of_mem _ hx)) t u)
theorem sr_ext {K : PySem.W.Frag} {c : Cd} {H H' F : Hp} {as : List Addr} {S : Sto} (r : SR K c H F as S) (e : Ext H H') : SR K c H' F as S :=
  ⟨r.len, r.nd, r.fs.trans e, r.bs.trans e, r.bf, r.ba, fun n a o h1 h2 => by
    have q := r.ob n a o h1 h2
    cases o with
    | lst xs => obtain ⟨h1, vs, h2, h3⟩ := q; exact ⟨h1, vs, e _ _ h2, h3⟩
    | lsR xs => obtain ⟨h1, vs, h2, h3⟩ := q; exact ⟨h1, vs, e _ _ h2, h3⟩
    | tpR xs =>
      obtain ⟨vs, h3, h | h⟩ := q
      · exact ⟨vs, h3, .inl ⟨h.1, e _ _ h.2⟩⟩
      · exact ⟨vs, h3, .inr h⟩
    | dK xs => obtain ⟨h1, vs, h2, h3⟩ := q; exact ⟨h1, vs, e _ _ h2, h3⟩
    | dT xs => obtain ⟨h1, vs, h2, h3⟩ := q; exact ⟨h1, vs, e _ _ h2, h3⟩
    | dR xs => obtain ⟨h1, vs, h2, h3⟩ := q; exact ⟨h1, vs, e _ _ h2, h3⟩
    | dS xs => obtain ⟨h1, vs, h2, h3⟩ := q; exact ⟨h1, vs, e _ _ h2, h3⟩
    | ins C fs => obtain ⟨h1, dx, gs, h2, h3⟩ := q; exact ⟨h1, dx, gs, e _ _ h2, h3⟩
    | fz x => exact q, r.f0, r.a0, r.nw⟩
instance {K : PySem.W.Frag} {C : Addr} {sp : SpD} : UpR K (rNeG (DO K C sp)) (fun x y S Q => OnS (lsOf S x) fun xs => OnS (lsOf S y) fun ys => xs = ys ∧ (∀ d ∈ xs, OkO C sp d) ∧ Q (.d (.bl false)) S) where
  up := fun c S Q H F as R x y v u r hx hy q k => by
    obtain ⟨xs, e1, ys, e2, rfl, h, q⟩ := q
    obtain ⟨p, vs, rfl, h1, t1⟩ := lsOf_ok r hx e1
    obtain ⟨p2, us, rfl, h2, t2⟩ := lsOf_ok r hy e2
    exact ⟨⟨p, p2, vs, us, rfl, rfl, h1, h2, prs_DO h (t1.mono r.fs) (t2.mono r.fs)⟩, fun H' e => k.here' (a := .bl false) (sr_ext r e) (.bl false) q⟩
/-! ### a new instance by keywords -/
def wMakeK (C : Addr) (n j : Nat) (sp : SpD) (is : List (Bool × Nat)) (dv : List D) (X : Env → WX) (wa wk : WA) : WE := fun ρ S Q => wa ρ S fun ds S1 => wk ρ S1 fun zs S2 => ds.length = n ∧ zs.length = j ∧ MakeP C sp (X ρ) (ds ++ pk is zs (dv.map A.d)) S2 Q
instance {K : PySem.W.Frag} {X : Env → WX} {C : Addr} {n j : Nat} {sp : SpD} {is : List (Bool × Nat)} {dvs : List V} {dv : List D} {E0 : XK} {t tk : TA} {wa wk : WA} [iv : UpVs dvs dv] [ia : UpA K (fun _ => E0) X t wa] [ik : UpA K (fun _ => E0) X tk wk] : UpE K (fun _ => E0) X (tMakeK C n j (toSp K sp) (fun vs zs => vs ++ pk is zs dvs) E0 t tk) (wMakeK C n j sp is dv X wa wk) where
  up := fun c ux ρ S Q σ H F as R r e h k => ia.up c ux ρ S _ σ H F as _ r e h fun ds vs H2 F2 as2 S2 r2 s2 p2 rds q2 => by
    refine ik.up c ux ρ S2 _ σ H2 F2 as2 _ r2 (e.mono s2 p2) q2 fun zs ws H3 F3 as3 S3 r3 s3 p3 rzs q3 => ?_
    obtain ⟨l1, l2, q3⟩ := q3
    have rall : RaL K F3 as3 ds vs := RaL.mono s3 p3 rds
    refine ⟨?_, ?_, makeP_ok (E := fun _ => E0) ux r3 (e.mono (s2.trans s3) (p2.trans p3)) (RaL.app rall (pk_rel rzs (iv.up K F3).ral is)) (k.mono (s2.trans s3) (p2.trans p3)) q3⟩
    · rw [← Paired.length rall]; exact l1
    · rw [← Paired.length rzs]; exact l2
theorem upFor {K : PySem.W.Frag} {E : L2.St → XK} {X : Env → WX} {ti : TI} {g : TG} {tb : TS} {wi : WI} {wg : WG} {wb : WS} {is : List Nat} (ii : UpI K E X ti wi) (ig : UpG1 K E X g wg is) (ib : UpS K E X tb wb) : UpS K E X (tFor ti g tb) (wFor wi wg wb) := inferInstance
theorem upIfS {K : PySem.W.Frag} {E : L2.St → XK} {X : Env → WX} {c : TT} {t u : TS} {wc : WT} {wt wu : WS} (ic : UpT K E X c wc) (it : UpS K E X t wt) (iu : UpS K E X u wu) : UpS K E X (tIfS c t u) (wIfS wc wt wu) := inferInstance
end VL

namespace VL
open PySem PySem.Spec PyProof.Rows L2 RX
/-! ### a list unpacked -/
def wgLst (n : Nat) (w : WGs) : WG := fun a ρ S Q => OnS (lsOf S a) fun xs => xs.length = n ∧ w xs ρ S Q
instance {K : PySem.W.Frag} {E : L2.St → XK} {X : Env → WX} {t : TGs} {w : WGs} {n : Nat} {is : List Nat} [ia : UpGs K E X t w is] : UpG1 K E X (gLst K n t) (wgLst n w) is where
  up := fun c ux a v ρ S σ H F as Q R r e ha h k => by
    obtain ⟨xs, e1, h1, h⟩ := h
    obtain ⟨p, vs, rfl, h2, t1⟩ := lsOf_ok r ha e1
    exact ⟨p, vs, rfl, .inl (.inl h2), by rw [← t1.length]; exact h1, ia.up c ux _ _ ρ S σ H F as Q R r e t1 h k⟩
/-- lists of own ones, != -/
theorem kNeL {X : Cx} {K : PySem.W.Frag} (hK : X.K = K) {k : Nat} {f C : Addr} {ps : List Str} {sp : SpD} {E : XK} (G : OkD X.prog X.w K X.mg X.base k f ps (toSp K sp)) (hs : PySem.W.findIn K (.ref C) "__eq__" = some (some (.ref f))) (hf : PySem.W.isFn K (.ref f) = true)
    (hx : Passes (HK.CX X.prog X.w) X E) (hr : Room (k + 1) X.A) : OpR X (compareOp .NotEq) (rNeG (DO K C sp)) := by
  subst hK
  exact op_neG mon_DO (eqG_DO G hs hf hx) hr
end VL

namespace VL
open PySem PySem.Spec PyProof.Rows L2 RX
/-! ### sum; [int(x) for x in xs] where an exception is handled -/
def intsD : List D → Option (List Int)
  | [] => some []
  | .int i :: r => (intsD r).map (i :: ·)
  | _ => none
theorem intsD_map : ∀ is : List Int, intsD (is.map D.int) = some is
  | [] => rfl
  | i :: r => by show (intsD (r.map D.int)).map (i :: ·) = _; rw [intsD_map r]; rfl
theorem intsD_ok {K : PySem.W.Frag} {F : Hp} : ∀ {xs : List D} {vs : List V} {is : List Int}, RpL K F xs vs → intsD xs = some is → vs = is.map V.int
  | [], _, _, .nil, e => by cases e; rfl
  | x :: r, _, is, .cons h t, e => by
    cases x with
    | int i =>
      cases h
      have e : (intsD r).map (i :: ·) = some is := e
      obtain ⟨js, e1, rfl⟩ := Option.map_eq_some_iff.mp e
      rw [intsD_ok t e1]; rfl
    | _ => cases e
section
variable {K : PySem.W.Frag} {E : L2.St → XK} {X : Env → WX}
instance : UpC K (rSum K) (fun xs S Q => one (fun x => OnS (lstD S x) fun ys => OnS (intsD ys) fun ns => Q (.d (.int ns.sum)) S) xs) where
  up := fun c S Q H F as R x vs r rx h k => by
    obtain ⟨a, v, rfl, ra, ⟨ys, e1, ⟨ns, e2, q⟩⟩⟩ := one_ok rx h
    obtain ⟨p, us, rfl, hp, t⟩ := lstD_ok r ra e1
    rw [intsD_ok t e2] at hp
    exact ⟨p, ns, rfl, hp, k.here (a := .d (.int ns.sum)) r (.int _) q⟩
instance {t : TE} {w : WE} [ia : UpE K E X t w] : UpE K E X (HK.tLcI K t) (fun ρ S Q => w ρ S fun x S1 => OnS (lstD S1 x) fun ys => OnS (blsD ys) fun bs => Q (.d (.lst (bs.map fun b => D.int (if b then 1 else 0)))) S1) where
  up := fun c ux ρ S Q σ H F as R r e h k => ia.up c ux ρ S _ σ H F as _ r e h fun x v H1 F1 as1 S1 r1 s1 p1 rx ⟨ys, e1, ⟨bs, e2, q⟩⟩ => by
    obtain ⟨p, us, rfl, hp, t⟩ := lstD_ok r1 rx e1
    rw [blsD_ok t e2] at hp
    refine ⟨p, bs, rfl, hp, fun n hn => (k.mono s1 p1).newD r1 hn (fun F' s' e' => .lst e' ?_) q⟩
    clear e2 t hp q e'
    induction bs with
    | nil => exact .nil
    | cons b r ih => exact .cons (.int _) ih
theorem kSumH {X : Cx} {K : PySem.W.Frag} (h : X.K = K) (hot : HK.HotP X.A X.pn) : CallR X (.builtin "sum") (rSum K) := h ▸ HK.cr_sum hot
theorem kSum {X : Cx} {K : PySem.W.Frag} (h : X.K = K) (hc : X.calm = true) : CallR X (.builtin "sum") (rSum K) := h ▸ L2.cr_sum hc
theorem kLcI {X : Cx} {K : PySem.W.Frag} (h : X.K = K) {e : PySem.Expr} {t : TE} (he : PE X e (HK.tLcI X.K t)) : PE X e (HK.tLcI K t) := h ▸ he
end
end VL

theorem L2H.RoomH.units {k : Nat} {A : PySem.Around} (r : L2H.RoomH k A) : A.units + 64 < PySem.cLine := by have := r.un; omega
namespace VL
open PySem PySem.Spec PyProof.Rows L2 RX
/-! ### d.pop(k), k a tuple -/
def dTof (S : Sto) : A → Option (Nat × List (List Key × D))
  | .ref n => match S[n]? with
    | some (.dT kvs) => some (n, kvs)
    | _ => none
  | _ => none
theorem dTof_ok {K : PySem.W.Frag} {c : Cd} {H F : Hp} {as : List Addr} {S : Sto} (r : SR K c H F as S) {x : A} {v : V} {n : Nat} {kvs : List (List Key × D)} (h : RpA K F as x v) (e : dTof S x = some (n, kvs)) : ∃ p gs, v = .ref p ∧ as[n]? = some p ∧ F p = none ∧ H p = some (.dT gs) ∧ RpT K F kvs gs := by
  cases x with
  | d _ => cases e
  | ref m =>
    obtain ⟨p, hp, rfl⟩ := h
    have e : (match S[m]? with
      | some (.dT kvs) => some (m, kvs)
      | _ => none) = some (n, kvs) := e
    split at e
    · rename_i ks ey
      cases e
      obtain ⟨f0, gs, h1, h2⟩ := r.ob _ p _ hp ey
      exact ⟨p, gs, rfl, hp, f0, h1, h2⟩
    · cases e
section
variable {K : PySem.W.Frag} {E : L2.St → XK} {X : Env → WX}
instance {td ty : TE} {wd wy : WE} [id : UpE K E X td wd] [iy : UpE K E X ty wy] : UpE K E X (tDPopT td ty) (fun ρ S Q => wd ρ S fun x S1 => OnS (dTof S1 x) fun _ => wy ρ S1 fun y S2 => OnS (dTof S2 x) fun p => OnS (keyT y) fun k => OnS (gK p.2 k) fun v => Q (.d v) (S2.set p.1 (.dT (dropKey p.2 k)))) where
  up := fun c ux ρ S Q σ H F as R r e h k => id.up c ux ρ S _ σ H F as _ r e h fun x v H1 F1 as1 S1 r1 s1 p1 rx ⟨o, e1, q1⟩ => by
    obtain ⟨n, kvs⟩ := o
    obtain ⟨p, gs, rfl, hp, f0, h1, h2⟩ := dTof_ok r1 rx e1
    refine ⟨p, rfl, .inr ⟨gs, .inl h1⟩, iy.up c ux ρ S1 _ σ H1 F1 as1 _ r1 (e.mono s1 p1) q1 fun y u H2 F2 as2 S2 r2 s2 p2 ry ⟨o2, e2, key, e3, w, e4, q⟩ => ?_⟩
    obtain ⟨n2, kvs2⟩ := o2
    obtain ⟨p', gs2, ep, hp2, f2, h3, h4⟩ := dTof_ok r2 (rx.mono s2 p2) e2
    cases ep
    obtain ⟨b, rfl, hb⟩ := keyT_ok ry e3
    obtain ⟨v', g1, g2⟩ := (RpT.get h4).2 w e4
    refine ⟨gs2, key, b, v', h3, rfl, r2.fs _ _ hb, g1, ?_⟩
    exact (k.mono (s1.trans s2) (p1.trans p2)).here (a := .d w) (r2.put hp2 f2 (obT f2 upd_same (RpT.drop h4))) g2 q
end
theorem dropKey_map {κ α β : Type} [DecidableEq κ] {f : α → κ} {g : α → β} (k : κ) : ∀ l : List α, dropKey (l.map fun a => (f a, g a)) k = (l.filter fun a => decide (f a ≠ k)).map fun a => (f a, g a)
  | [] => rfl
  | a :: r => by
    have ih := dropKey_map (f := f) (g := g) k r
    unfold dropKey at ih ⊢
    rw [List.map_cons, List.filter_cons, List.filter_cons, ih]
    by_cases e : f a = k
    · simp [e]
    · simp [e]
theorem CallP.sl {sp : SpD} {X : WX} {ds ds0 : List A} {S1 : Sto} {Q : WQ} (hs : List Nat) (S0 : Sto) (nd : hs.Nodup) (hd : ds = ds0.map (A.ren (rn hs S1.length))) (hp : Picks (rn hs S1.length) S1 hs S0)
    (h : sp ds0 S0 (fun a S' => ∃ a2 S2, a.ren (rn hs S1.length) = a2 ∧ scat (rn hs S1.length) S1 hs S' = S2 ∧ Q a2 S2) (fun C fs S' => ∃ S2, scat (rn hs S1.length) S1 hs S' = S2 ∧ X C fs S2)) : CallP sp X ds S1 Q := by
  refine .mk ⟨hs, ds0, S0, nd, hd, hp, ?_⟩
  have e : (fun a S' => ∃ a2 S2, a.ren (rn hs S1.length) = a2 ∧ scat (rn hs S1.length) S1 hs S' = S2 ∧ Q a2 S2) = fun (a : A) S' => Q (a.ren (rn hs S1.length)) (scat (rn hs S1.length) S1 hs S') := by
    funext a S'
    exact propext ⟨fun ⟨_, _, e1, e2, q⟩ => by rw [e1, e2]; exact q, fun q => ⟨_, _, rfl, rfl, q⟩⟩
  have e' : (fun C fs S' => ∃ S2, scat (rn hs S1.length) S1 hs S' = S2 ∧ X C fs S2) = fun C fs S' => X C fs (scat (rn hs S1.length) S1 hs S') := by
    funext C fs S'
    exact propext ⟨fun ⟨_, e2, q⟩ => by rw [e2]; exact q, fun q => ⟨_, rfl, q⟩⟩
  rw [e, e'] at h
  exact h
theorem CallP.to {sp : SpD} {X : WX} {ds : List A} {S1 S2 : Sto} {Q : WQ} (e : S1 = S2) (h : CallP sp X ds S2 Q) : CallP sp X ds S1 Q := e ▸ h
end VL

/-! X() that is raised; len(own) -/
namespace VL
open PySem PySem.Spec PyProof.Rows L2 RX
theorem mkN0 {C : Addr} {f : Str} {n : V} {H : Hp} {Q : XK} (h : ∀ d, H d = none → Q (.ref C) (some d) (upd H d (.xd [(f, n)]))) : MkO C (spX0 C f n) [] H Q := by
  refine ⟨by show 0 ≤ 1000; decide, fun a ha => ⟨a, rfl, upd_same, fun d hd hda => ⟨rfl, d, [(f, n)], upd_same, ?_, ?_, ?_⟩⟩⟩
  · rw [upd_ne hda, upd_same]
  · rw [upd_ne hda] at hd; exact hd
  · rw [upd_ne hda] at hd
    exact mkN ha hd hda (fun b na nd => by rw [upd_ne na, upd_ne nd, upd_ne na]) h
def wX0 (C : Addr) (f v : Str) : Env → Sto → WX → Prop := fun _ S Q => PyData.strOk v = true ∧ Q C [(f, .str v)] S
instance {K : PySem.W.Frag} {E : L2.St → XK} {X : Env → WX} {C : Addr} {f v : Str} : UpK K E X (tMkO C (spX0 C f (.str v)) [] tNil) (wX0 C f v) where
  up := fun c ux ρ S Q σ H F as R r e h k1 k2 => rd_mkO (by
    refine mkN0 fun dd hdd => ?_
    obtain ⟨r2, s2⟩ := r.newD (o := .xd [(f, .str v)]) hdd
    exact k1 C dd _ _ _ _ _ _ r2 s2 (List.prefix_refl _) upd_same upd_same (.cons (.str (cp_ok h.1)) .nil) h.2)
/-! ### len(own object) -/
def lenD (sp : SpD) : SpD := fun ds S Q Xd => sp ds S (fun a S' => (∃ n : Int, a = .d (.int n) ∧ 0 ≤ n ∧ n < 2 ^ 63) ∧ Q a S') Xd
theorem spLen_ok {K : PySem.W.Frag} {sp : SpD} {vs : List V} {H : Hp} {R : VK} {E : XK} (h : toSp K (lenD sp) vs H R E) : spLen (toSp K sp) vs H R E := by
  obtain ⟨B, F, as, S, ds, Qd, Xd, r, rx, q, kt, ux⟩ := h
  refine ⟨B, F, as, S, ds, _, Xd, r, rx, q, fun a v H' F' as' S' r' s' p' ra q' => ?_, ux⟩
  obtain ⟨⟨n, rfl, h0, h1⟩, q'⟩ := q'
  refine ⟨?_, kt _ v H' F' as' S' r' s' p' ra q'⟩
  cases ra
  exact ⟨n, rfl, h0, h1⟩
def wLenO (C : Addr) (sp : SpD) (X : Env → WX) (wa : WA) : WE := fun ρ S Q => wa ρ S fun ds S1 => one (fun x => OnS (insA S1 x) fun p => p.1 = C ∧ CallP (lenD sp) (X ρ) [x] S1 Q) ds
instance {K : PySem.W.Frag} {X : Env → WX} {C : Addr} {sp : SpD} {E0 : XK} {t : TA} {wa : WA} [ia : UpA K (fun _ => E0) X t wa] : UpE K (fun _ => E0) X (tCB (LenOwn C (toSp K sp) E0) t) (wLenO C sp X wa) where
  up := fun c ux ρ S Q σ H F as R r e h k => ia.up c ux ρ S _ σ H F as _ r e h fun ds vs H1 F1 as1 S1 r1 s1 p1 rx q => by
    obtain ⟨x, v, rfl, hx, ⟨C', fs⟩, e1, e2, q2⟩ := one_ok rx q
    obtain rfl : C' = C := e2
    obtain ⟨p, dx, gs, rfl, h1, h2⟩ := insA_ok r1 hx e1
    exact ⟨p, dx, gs, rfl, h1, spLen_ok (CallP.ok (E := fun _ => E0) ux r1 (e.mono s1 p1) (.cons hx .nil) (k.mono s1 p1) q2)⟩
/-! ### where ways meet -/
def tCut (t : TS) : TS := t
theorem ps_cut {X : Cx} {s : Stmt} {t : TS} (h : PS X s t) : PS X s (tCut t) := h
structure WCut (w : WS) (D : EndD) (ρ : Env) (S : Sto) : Prop where
  intro ::
  h : w D ρ S
theorem WCut.at {w : WS} {D : EndD} {ρ : Env} {S : Sto} (I : Env → Sto → Prop) (k : ∀ ρ S, I ρ S → D.nx ρ S) (h : ∀ N : Env → Sto → Prop, (∀ ρ S, I ρ S → N ρ S) → w { D with nx := N } ρ S) : WCut w D ρ S := ⟨h D.nx k⟩
def wCut (w : WS) : WS := fun D ρ S => WCut w D ρ S
instance {K : PySem.W.Frag} {E : L2.St → XK} {X : Env → WX} {t : TS} {w : WS} [it : UpS K E X t w] : UpS K E X (tCut t) (wCut w) where
  up := fun c ux D Dh ed ρ S σ H F as r e h => it.up c ux D Dh ed ρ S σ H F as r e h.h
end VL

namespace VL
open PySem PySem.Spec PyProof.Rows L2 RX
/-! ### a dict of defs at the top -/
def notInT (b : Addr) (kvs : List (Str × Addr)) : A → A → Sto → WQ → Prop := fun x y S Q => match x, y with
  | .d (.str z), .d (.cst (.ref a)) => a = b ∧ Q (.d (.bl (!(kvs.lookup z).isSome))) S
  | _, _ => False
def inT (b : Addr) (kvs : List (Str × Addr)) : A → A → Sto → WQ → Prop := fun x y S Q => match x, y with
  | .d (.str z), .d (.cst (.ref a)) => a = b ∧ Q (.d (.bl (kvs.lookup z).isSome)) S
  | _, _ => False
def ixT (b : Addr) (kvs : List (Str × Addr)) : A → A → Sto → WQ → Prop := fun x y S Q => match x, y with
  | .d (.cst (.ref a)), .d (.str z) => a = b ∧ OnS (kvs.lookup z) fun f => Q (.d (.cst (.ref f))) S
  | _, _ => False
section
variable {K : PySem.W.Frag} {E : L2.St → XK} {X : Env → WX}
instance {b : Addr} {kvs : List (Str × Addr)} : UpR K (rNotInT b kvs) (notInT b kvs) where
  up := fun c S Q H F as R x y v u r rx ry h k => by
    unfold notInT at h
    split at h
    · obtain ⟨rfl, q⟩ := h
      cases rx; cases ry
      exact ⟨_, rfl, rfl, k.here (a := .d (.bl _)) r (.bl _) q⟩
    · exact h.elim
instance {b : Addr} {kvs : List (Str × Addr)} : UpR K (rInT b kvs) (inT b kvs) where
  up := fun c S Q H F as R x y v u r rx ry h k => by
    unfold inT at h
    split at h
    · obtain ⟨rfl, q⟩ := h
      cases rx; cases ry
      exact ⟨_, rfl, rfl, k.here (a := .d (.bl _)) r (.bl _) q⟩
    · exact h.elim
instance {b : Addr} {kvs : List (Str × Addr)} : UpR K (rIxT b kvs) (ixT b kvs) where
  up := fun c S Q H F as R x y v u r rx ry h k => by
    unfold ixT at h
    split at h
    · obtain ⟨rfl, f, ef, q⟩ := h
      cases rx; cases ry
      exact ⟨_, f, rfl, rfl, ef, k.here (a := .d (.cst (.ref f))) r (.cst _) q⟩
    · exact h.elim
/-- a call of what a name holds -/
def wCallV (i : Nat) (f : Addr) (sp : SpD) (X : Env → WX) (wa : WA) : WE := fun ρ S Q => ρ[i]? = some (some (.d (.cst (.ref f)))) ∧ wa ρ S fun ds S1 => CallP sp (X ρ) ds S1 Q
instance {i : Nat} {f : Addr} {sp : SpD} {E0 : XK} {t : TA} {wa : WA} [ia : UpA K (fun _ => E0) X t wa] : UpE K (fun _ => E0) X (ItX.tCallV i f (toSp K sp) E0 t) (wCallV i f sp X wa) where
  up := fun c ux ρ S Q σ H F as R r e h k => by
    obtain ⟨v, h1, h2⟩ := e.2 i _ h.1
    cases h2
    exact ⟨h1, ia.up c ux ρ S _ σ H F as _ r e h.2 fun ds vs H1 F1 as1 S1 r1 s1 p1 rx q => CallP.ok (E := fun _ => E0) ux r1 (e.mono s1 p1) rx (k.mono s1 p1) q⟩
end
end VL

namespace VL
open PySem PySem.Spec PyProof.Rows L2 RX RZ
/-! ### for over zip -/
section
variable {K : PySem.W.Frag} {a b : Addr} {xs ys : List V}
theorem walk_zipT : Walk (ItzT K a b) (min xs.length ys.length) (fun H => SqT K H a xs ∧ SqT K H b ys) (YPair (fun i => xs[i]?) (fun i => ys[i]?)) := by
  refine ⟨fun i _ hi q => ⟨xs, ys, xs[i]'(by omega), ys[i]'(by omega), q.1, q.2, by simp, by simp⟩, fun _ q => ⟨xs, ys, q.1, q.2, by omega⟩, fun i H v H' _ q y => ?_⟩
  obtain ⟨T, x, y, h1, h2, h3, h4, h5⟩ := y
  exact ⟨T, x, y, h1, h2, h3, h4 xs q.1, h5 ys q.2⟩
end
def zipD (xs ys : List D) : List D := (xs.zip ys).map fun p => D.tup [p.1, p.2]
theorem zipD_len {xs ys : List D} : (zipD xs ys).length = min xs.length ys.length := by unfold zipD; rw [List.length_map, List.length_zip]
theorem zipD_get {xs ys : List D} {i : Nat} {z : D} (h : (zipD xs ys)[i]? = some z) : ∃ x y, xs[i]? = some x ∧ ys[i]? = some y ∧ z = .tup [x, y] := by
  unfold zipD at h
  rw [List.getElem?_map] at h
  cases q : (xs.zip ys)[i]? with
  | none => rw [q] at h; cases h
  | some p =>
    rw [q] at h
    cases h
    obtain ⟨h1, h2⟩ := List.getElem?_zip_eq_some.mp q
    exact ⟨p.1, p.2, h1, h2, rfl⟩
section
variable {K : PySem.W.Frag} {E : L2.St → XK} {X : Env → WX}
theorem wk_zipT {F : Hp} {as : List Addr} {p q : Addr} {vs ws : List V} {xs ys : List D} {g : Sto → Prop} (t : RpL K F xs vs) (u : RpL K F ys ws)
    (h : ∀ (c : Cd) (H F' : Hp) (as' : List Addr) (S : Sto), SR K c H F' as' S → Same F F' → as <+: as' → g S → SqT K H p vs ∧ SqT K H q ws) : WkOk K (ItzT K p q) F as (zipD xs ys) g := by
  have hw : Walk (ItzT K p q) (zipD xs ys).length (fun H => SqT K H p vs ∧ SqT K H q ws) (YPair (fun i => vs[i]?) (fun i => ws[i]?)) := by
    rw [zipD_len, t.length, u.length]; exact walk_zipT
  refine ⟨_, _, hw, h, fun c i x H v H' F' as' S hx r s p' hg y => ?_⟩
  obtain ⟨T, a, b, rfl, hT, rfl, ha, hb⟩ := y
  obtain ⟨x, y, ex, ey, rfl⟩ := zipD_get hx
  exact r.pair hT ((t.mono s).get' ex ha) ((u.mono s).get' ey hb)
theorem wk_zipL {F : Hp} {as : List Addr} {p q : Addr} {vs ws : List V} {xs ys : List D} {g : Sto → Prop} (t : RpL K F xs vs) (u : RpL K F ys ws)
    (h : ∀ (c : Cd) (H F' : Hp) (as' : List Addr) (S : Sto), SR K c H F' as' S → Same F F' → as <+: as' → g S → SqL K H p vs ∧ SqL K H q ws) : WkOk K (Itz K p q) F as (zipD xs ys) g := by
  have hw : Walk (Itz K p q) (zipD xs ys).length (fun H => SqL K H p vs ∧ SqL K H q ws) (YPair (fun i => vs[i]?) (fun i => ws[i]?)) := by
    rw [zipD_len, t.length, u.length]; exact walk_zip rfl
  refine ⟨_, _, hw, h, fun c i x H v H' F' as' S hx r s p' hg y => ?_⟩
  obtain ⟨T, a, b, rfl, hT, rfl, ha, hb⟩ := y
  obtain ⟨x, y, ex, ey, rfl⟩ := zipD_get hx
  exact r.pair hT ((t.mono s).get' ex ha) ((u.mono s).get' ey hb)
def wZip (wa : WA) : WI := fun ρ S Q => wa ρ S fun xs S1 => two (fun x y => match x, y with
  | .d (.tup xs), .d (.tup ys) => Q (zipD xs ys) (fun _ => True) S1
  | .d (.lst xs), .d (.lst ys) => Q (zipD xs ys) (fun _ => True) S1
  | _, _ => False) xs
instance {t : TA} {w : WA} [ia : UpA K E X t w] : UpI K E X (iZipA K t) (wZip w) where
  up := fun c ux ρ S Q σ H F as R r e h k => ia.up c ux ρ S _ σ H F as _ r e h fun xs vs H1 F1 as1 S1 r1 s1 p1 rx q => by
    obtain ⟨x, y, v, w, rfl, hx, hy, q⟩ := two_ok rx q
    split at q
    · cases hx with | tup e1 t1 =>
      cases hy with | tup e2 t2 =>
      exact ⟨_, _, _, _, rfl, .inr ⟨.inl (.inl (r1.fs _ _ e1)), .inl (.inl (r1.fs _ _ e2)), k _ _ _ _ _ _ _ r1 s1 p1 (wk_zipT t1 t2 fun c H F' as' S r s p _ => ⟨.inl (.inl (r.fs _ _ (s _ _ e1))), .inl (.inl (r.fs _ _ (s _ _ e2)))⟩) q⟩⟩
    · cases hx with | lst e1 t1 =>
      cases hy with | lst e2 t2 =>
      exact ⟨_, _, _, _, rfl, .inl ⟨.inl (.inl (r1.fs _ _ e1)), .inl (.inl (r1.fs _ _ e2)), k _ _ _ _ _ _ _ r1 s1 p1 (wk_zipL t1 t2 fun c H F' as' S r s p _ => ⟨.inl (.inl (r.fs _ _ (s _ _ e1))), .inl (.inl (r.fs _ _ (s _ _ e2)))⟩) q⟩⟩
    · exact q.elim
end
/-- over a zip of two lists of things -/
theorem ForP.zip {α β : Type} {l : List α} {m : List β} {enc : α → D} {enb : β → D} {gd : Sto → Prop} {g : WG} {b : WS} {D' : EndD} {ρ : Env} {S1 : Sto} (Inv : Nat → Env → Sto → Prop) (h0 : Inv 0 ρ S1)
    (hs : ∀ i c d ρ' S', l[i]? = some c → m[i]? = some d → (l.zip m).take (i + 1) = (l.zip m).take i ++ [(c, d)] → Inv i ρ' S' → gd S' ∧ g (.d (.tup [enc c, enb d])) ρ' S' fun ρ2 S2 => b { D' with nx := Fin S1.length (Inv (i + 1)), ct := Fin S1.length (Inv (i + 1)), bk := D'.nx, n0 := S1.length } ρ2 S2)
    (hd : ∀ ρ' S', Inv (l.zip m).length ρ' S' → gd S' ∧ D'.nx ρ' S') : ForP (zipD (l.map enc) (m.map enb)) gd g b D' ρ S1 := by
  refine ⟨Inv, h0, fun i x ρ' S' hx iv => ?_, fun ρ' S' iv => hd ρ' S' (by rw [zipD_len, List.length_map, List.length_map] at iv; rw [List.length_zip]; exact iv)⟩
  obtain ⟨u, v, hu, hv, rfl⟩ := zipD_get hx
  rw [List.getElem?_map] at hu hv
  obtain ⟨c, hc, rfl⟩ := Option.map_eq_some_iff.mp hu
  obtain ⟨d, hd', rfl⟩ := Option.map_eq_some_iff.mp hv
  have hz : (l.zip m)[i]? = some (c, d) := List.getElem?_zip_eq_some.mpr ⟨hc, hd'⟩
  exact hs i c d ρ' S' hc hd' (by rw [List.take_add_one, hz]; rfl) iv
theorem kZip {X : Cx} {K : PySem.W.Frag} (h : X.K = K) {e e2 : Expr} {ta : TA} {p pos tpos : Pos} {elts : List Expr} {kk : Nat} (hg : Gl X "zip") (hm : X.mg "zip" = none) (ha : PA X [e, e2] ta)
    (hs : starEach [e, e2] X.env = (false, eval e X.env) :: starEach [e2] X.env := by rfl) (hpl : (backTo pos (starEach [e2] X.env)).any (·.1) = false := by rfl) :
    PI X (.Tuple elts kk tpos) (.Call (.Name "zip" p) [e, e2] [] pos) (iZipA K ta) := h ▸ pi_zipA hg hm ha hs hpl
end VL

namespace VL
open PySem PySem.Spec PyProof.Rows L2 RX
/-! ### max(i, j), min(i, j) -/
section
variable {K : PySem.W.Frag}
instance : UpC K (fun xs H Q => ∃ i j, xs = [V.int i, V.int j] ∧ Q (V.int (if j > i then j else i)) H) (fun xs S Q => two (asII fun i j => Q (.d (.int (if j > i then j else i))) S) xs) where
  up := fun c S Q H F as R xs vs r rx h k => by
    obtain ⟨x, y, v, w, rfl, hx, hy, q⟩ := two_ok rx h
    obtain ⟨i, j, rfl, rfl, q⟩ := asII_ok hx hy q
    exact ⟨i, j, rfl, k.here (a := .d (.int _)) r (.int _) q⟩
instance : UpC K (fun xs H Q => ∃ i j, xs = [V.int i, V.int j] ∧ Q (V.int (if j < i then j else i)) H) (fun xs S Q => two (asII fun i j => Q (.d (.int (if j < i then j else i))) S) xs) where
  up := fun c S Q H F as R xs vs r rx h k => by
    obtain ⟨x, y, v, w, rfl, hx, hy, q⟩ := two_ok rx h
    obtain ⟨i, j, rfl, rfl, q⟩ := asII_ok hx hy q
    exact ⟨i, j, rfl, k.here (a := .d (.int _)) r (.int _) q⟩
end
end VL

namespace VL
open PySem PySem.Spec PyProof.Rows L2 RX
/-! ### a new instance, nothing raised -/
theorem upx_no {K : PySem.W.Frag} {c : Cd} : UpX K c (fun _ _ _ _ => False) (fun _ _ _ _ => False) := ⟨fun _ _ _ _ _ _ _ _ _ _ _ _ _ _ _ q => q, fun _ _ _ _ _ _ _ _ _ q => q⟩
instance {K : PySem.W.Frag} {E : L2.St → XK} {X : Env → WX} {C : Addr} {sp : SpD} {t : TA} {wa : WA} [ia : UpA K E X t wa] : UpE K E X (tMake C (toSp K sp) [] (fun _ _ _ => False) t) (wMake C sp (fun _ _ _ _ => False) wa) where
  up := fun c ux ρ S Q σ H F as R r e h k => ia.up c ux ρ S _ σ H F as _ r e h fun ds vs H1 F1 as1 S1 r1 s1 p1 rx q => by
    rw [List.append_nil]
    exact makeP_ok (E := fun _ _ _ _ => False) upx_no r1 (e.mono s1 p1) rx (k.mono s1 p1) q
instance {K : PySem.W.Frag} {E : L2.St → XK} {X : Env → WX} {C : Addr} {m : Str} {sp : SpD} {to : TE} {t : TA} {wo : WE} {wa : WA} [io : UpE K E X to wo] [ia : UpA K E X t wa] : UpE K E X (tMeth C m (toSp K sp) [] (fun _ _ _ => False) to t) (wMeth C m sp (fun _ _ _ _ => False) wo wa) where
  up := fun c ux ρ S Q σ H F as R r e h k => io.up c ux ρ S _ σ H F as _ r e h fun x v H1 F1 as1 S1 r1 s1 p1 rx q => by
    obtain ⟨⟨C', fs⟩, e1, e0, e2, q⟩ := q
    obtain rfl : C' = C := e0
    obtain ⟨p, dx, gs, rfl, h1, h2⟩ := insA_ok r1 rx e1
    refine ⟨p, dx, gs, rfl, h1, h2.nolook e2, ia.up c ux ρ S1 _ σ H1 F1 as1 _ r1 (e.mono s1 p1) q fun ds vs H2 F2 as2 S2 r2 s2 p2 rds q2 => ?_⟩
    rw [List.append_nil]
    exact CallP.ok (E := fun _ _ _ _ => False) upx_no r2 (e.mono (s1.trans s2) (p1.trans p2)) (.cons (rx.mono s2 p2) rds) (k.mono (s1.trans s2) (p1.trans p2)) q2
end VL

namespace VL
open PySem PySem.Spec PyProof.Rows L2 RX
/-! ### d.get(k), d.get(k, v) -/
def isDA (S : Sto) (x : A) : Bool := (dictA S x).isSome || (dictR S x).isSome
theorem isDA_ok {K : PySem.W.Frag} {c : Cd} {H F : Hp} {as : List Addr} {S : Sto} (r : SR K c H F as S) {x : A} {v : V} (h : RpA K F as x v) (e : isDA S x = true) : ∃ p, v = .ref p ∧ IsD H p := by
  unfold isDA at e
  rcases Bool.or_eq_true_iff.mp e with e | e
  · obtain ⟨o, eo⟩ := Option.isSome_iff_exists.mp e
    obtain ⟨p, rfl, q⟩ := dictA_ok r h eo
    cases o with
    | inl kvs => obtain ⟨gs, h1, _⟩ := q; exact ⟨p, rfl, .inl ⟨gs, .inl h1⟩⟩
    | inr kvs => obtain ⟨gs, h1, _⟩ := q; exact ⟨p, rfl, .inr ⟨gs, .inl h1⟩⟩
  · obtain ⟨o, eo⟩ := Option.isSome_iff_exists.mp e
    obtain ⟨p, rfl, q⟩ := dictR_ok r h eo
    cases o with
    | inl kvs => obtain ⟨gs, h1, _⟩ := q; exact ⟨p, rfl, .inl ⟨gs, .inl h1⟩⟩
    | inr kvs => obtain ⟨gs, h1, _⟩ := q; exact ⟨p, rfl, .inr ⟨gs, .inl h1⟩⟩
def wDGet1 (wd wy : WE) : WE := fun ρ S Q => wd ρ S fun x S1 => isDA S1 x = true ∧ wy ρ S1 fun y S2 => OnS (dgetR S2 x y) fun o => Q (o.getD (.d .non)) S2
def wDGet2 (wd wy wz : WE) : WE := fun ρ S Q => wd ρ S fun x S1 => isDA S1 x = true ∧ wy ρ S1 fun y S2 => wz ρ S2 fun z S3 => OnS (dgetR S3 x y) fun o => Q (o.getD z) S3
section
variable {K : PySem.W.Frag} {E : L2.St → XK} {X : Env → WX}
instance {td ty : TE} {wd wy : WE} [id : UpE K E X td wd] [iy : UpE K E X ty wy] : UpE K E X (tDGet1 td ty) (wDGet1 wd wy) where
  up := fun c ux ρ S Q σ H F as R r e h k => id.up c ux ρ S _ σ H F as _ r e h fun x v H1 F1 as1 S1 r1 s1 p1 rx q1 => by
    obtain ⟨p, rfl, hD⟩ := isDA_ok r1 rx q1.1
    refine ⟨p, rfl, hD, iy.up c ux ρ S1 _ σ H1 F1 as1 _ r1 (e.mono s1 p1) q1.2 fun y u H2 F2 as2 S2 r2 s2 p2 ry q2 => ?_⟩
    obtain ⟨o, eo, q⟩ := q2
    obtain ⟨p', ov, ep, _, hg, hn, hd⟩ := dgetR_ok r2 (rx.mono s2 p2) ry eo
    cases ep
    refine ⟨ov, hg, ?_⟩
    cases o with
    | none => rw [hn rfl]; exact (k.mono (s1.trans s2) (p1.trans p2)).here (a := .d .non) r2 .non q
    | some d => obtain ⟨w, rfl, hw⟩ := hd d rfl; exact (k.mono (s1.trans s2) (p1.trans p2)).here r2 hw q
instance {td ty tz : TE} {wd wy wz : WE} [id : UpE K E X td wd] [iy : UpE K E X ty wy] [iz : UpE K E X tz wz] : UpE K E X (tDGet2 td ty tz) (wDGet2 wd wy wz) where
  up := fun c ux ρ S Q σ H F as R r e h k => id.up c ux ρ S _ σ H F as _ r e h fun x v H1 F1 as1 S1 r1 s1 p1 rx q1 => by
    obtain ⟨p, rfl, hD⟩ := isDA_ok r1 rx q1.1
    refine ⟨p, rfl, hD, iy.up c ux ρ S1 _ σ H1 F1 as1 _ r1 (e.mono s1 p1) q1.2 fun y u H2 F2 as2 S2 r2 s2 p2 ry q2 => ?_⟩
    refine iz.up c ux ρ S2 _ σ H2 F2 as2 _ r2 (e.mono (s1.trans s2) (p1.trans p2)) q2 fun z w H3 F3 as3 S3 r3 s3 p3 rz q3 => ?_
    obtain ⟨o, eo, q⟩ := q3
    obtain ⟨p', ov, ep, _, hg, hn, hd⟩ := dgetR_ok r3 (rx.mono (s2.trans s3) (p2.trans p3)) (ry.mono s3 p3) eo
    cases ep
    refine ⟨ov, hg, ?_⟩
    have k3 := k.mono ((s1.trans s2).trans s3) ((p1.trans p2).trans p3)
    cases o with
    | none => rw [hn rfl]; exact k3.here r3 rz q
    | some d => obtain ⟨w, rfl, hw⟩ := hd d rfl; exact k3.here r3 hw q
end
end VL

namespace VL
open PySem PySem.Spec PyProof.Rows L2 RX
/-! ### xs.pop() -/
theorem RpL.dropLast {K : PySem.W.Frag} {F : Hp} : ∀ {xs : List D} {vs : List V}, RpL K F xs vs → RpL K F xs.dropLast vs.dropLast
  | [], [], _ => .nil
  | [_], [_], _ => .nil
  | x :: y :: xs, v :: u :: vs, .cons h t => .cons h (RpL.dropLast (xs := y :: xs) (vs := u :: vs) t)
  | [_], _ :: _ :: _, .cons _ t => by cases t
  | _ :: _ :: _, [_], .cons _ t => by cases t
def popA (S : Sto) (o : A) (Q : WQ) : Prop := match o with
  | .ref n => (match S[n]? with
    | some (.lst xs) => OnS (xs[xs.length - 1]?) fun d => Q (.d d) (S.set n (.lst xs.dropLast))
    | _ => False)
  | _ => False
instance {K : PySem.W.Frag} : UpM K rPop (fun o xs S Q => xs = [] ∧ popA S o Q) where
  up := fun c S Q H F as R o ov xs vs r ho h q k => by
    obtain ⟨rfl, q⟩ := q
    cases h
    unfold popA at q
    split at q
    · obtain ⟨p, hp, rfl⟩ := ho
      split at q
      · rename_i ys ey
        obtain ⟨d, e, q⟩ := q
        obtain ⟨f0, ws, h1, h2⟩ := r.ob _ p _ hp ey
        obtain ⟨u, e1, hu⟩ := h2.get e
        refine ⟨p, ws, u, rfl, rfl, h1, by rw [← h2.length]; exact e1, ?_⟩
        exact k.here' (r.put hp f0 (obL f0 upd_same h2.dropLast)) hu q
      · exact q.elim
    · exact q.elim
def wBM0 (wr : A → List A → Sto → WQ → Prop) (wo : WE) : WE := fun ρ S Q => wo ρ S fun x S1 => isL S1 x = true ∧ wr x [] S1 Q
instance {K : PySem.W.Frag} {E : L2.St → XK} {X : Env → WX} {m : V → List V → Hp → VK → Prop} {to : TE} {wr : A → List A → Sto → WQ → Prop} {wo : WE} [im : UpM K m wr] [io : UpE K E X to wo] : UpE K E X (tBM0 K "list" m to) (wBM0 wr wo) where
  up := fun c ux ρ S Q σ H F as R r e h k => io.up c ux ρ S _ σ H F as _ r e h fun x v H1 F1 as1 S1 r1 s1 p1 rx q => by
    obtain ⟨p, vs, rfl, hs⟩ := isL_ok r1 rx q.1
    exact ⟨.inl ⟨rfl, vs, hs⟩, im.up c S1 Q H1 F1 as1 R x (.ref p) [] [] r1 rx .nil q.2 (k.mono s1 p1)⟩
theorem kBM0 {X : Cx} {K : PySem.W.Frag} (h : X.K = K) {e : Expr} {T : String} {r : V → List V → Hp → VK → Prop} {to : TE} (he : PE X e (tBM0 X.K T r to)) : PE X e (tBM0 K T r to) := h ▸ he
end VL

namespace VL
open PySem PySem.Spec PyProof.Rows L2 RX

/-- a comprehension over encoded things whose items may write -/
theorem LcP.inv {α : Type} {l : List α} {enc : α → D} {gd : Sto → Prop} {g : WG} {is vs : List Nat} {wt : WT} {we : WE} {ρ : Env} {S1 : Sto} {Q : WQ} (Inv : Nat → List D → Sto → Prop) (hi : is.all (fun i => vs.contains i) = true) (hl : l.length < 1000000) (h0 : Inv 0 [] S1)
    (hs : ∀ i c acc S', l[i]? = some c → c ∈ l → l.take (i + 1) = l.take i ++ [c] → Inv i acc S' → gd S' ∧ g (.d (enc c)) (wipeE ρ vs) S' fun ρ2 S2 => wt ρ2 S2 fun b S3 => Br b (we ρ2 S3 fun y S4 => OnS (pureA S4 y) fun d => Fin S1.length (fun _ S5 => Inv (i + 1) (acc ++ [d]) S5) [] S4) (Fin S1.length (fun _ S5 => Inv (i + 1) acc S5) [] S3))
    (hd : ∀ acc S', Inv l.length acc S' → gd S' ∧ Q (.d (.lst acc)) S') : LcP (l.map enc) gd g is wt we vs ρ S1 Q := by
  refine ⟨hi, by rw [List.length_map]; exact hl, Inv, h0, fun i x acc S' hx iv => ?_, fun acc S' iv => hd acc S' (by rw [List.length_map] at iv; exact iv)⟩
  rw [List.getElem?_map] at hx
  obtain ⟨c, hc, rfl⟩ := Option.map_eq_some_iff.mp hx
  exact hs i c acc S' hc (List.mem_of_getElem? hc) (by rw [List.take_add_one, hc]; rfl) iv
/-- the same over a list that is there as data -/
theorem LcP.eq {xs ys : List D} {gd : Sto → Prop} {g : WG} {is vs : List Nat} {wt : WT} {we : WE} {ρ : Env} {S1 : Sto} {Q : WQ} (e : xs = ys) (h : LcP ys gd g is wt we vs ρ S1 Q) : LcP xs gd g is wt we vs ρ S1 Q := e ▸ h
end VL

namespace VL
open PySem PySem.Spec PyProof.Rows L2 RX

/-! ### a slice of a tuple -/
theorem kSlA {X : Cx} {K : PySem.W.Frag} (h : X.K = K) : SlR X (rSlA K) := h ▸ sl_tupA
theorem cutD_whole {xs : List D} {lo hi : Option Int} (h : HT.sIx xs.length 0 lo = 0 ∧ HT.sIx xs.length xs.length hi = xs.length) : cutD xs lo hi = xs := by
  unfold cutD
  rw [h.1, h.2, List.drop_zero, Nat.sub_zero, List.take_length]
def wSlT : A → Option Int → Option Int → Sto → WQ → Prop := fun x lo hi S Q => match x with
  | .d (.tup xs) => Q (.d (.tup (cutD xs lo hi))) S
  | _ => False
instance {K : PySem.W.Frag} : UpL K (rSlA K) wSlT where
  up := fun c S Q H F as R x v lo hi r hx q k => by
    unfold wSlT at q
    split at q
    · rename_i xs
      have hx' := hx
      cases hx with | tup e1 t =>
      rename_i a vs
      refine ⟨a, vs, rfl, .inl (.inl (r.fs _ _ e1)), fun hw => ?_, fun _ p hp => ?_⟩
      · rw [← t.length] at hw
        rw [cutD_whole hw] at q
        exact k.here (a := .d (.tup _)) r hx' q
      · exact k.newD r hp (fun F' s' e' => .tup e' ((t.cut lo hi).mono s')) q
    · exact q.elim
end VL

namespace VL
open PySem PySem.Spec PyProof.Rows L2 RX RZ
/-! ### for over zip of a list and a tuple -/
section
variable {K : PySem.W.Frag} {a b : Addr} {xs ys : List V}
theorem walk_zipM : Walk (ItzM K a b) (min xs.length ys.length) (fun H => SqL K H a xs ∧ SqT K H b ys) (YPair (fun i => xs[i]?) (fun i => ys[i]?)) := by
  refine ⟨fun i _ hi q => ⟨xs, ys, xs[i]'(by omega), ys[i]'(by omega), q.1, q.2, by simp, by simp⟩, fun _ q => ⟨xs, ys, q.1, q.2, rfl⟩, fun i H v H' _ q y => ?_⟩
  obtain ⟨T, x, y, h1, h2, h3, h4, h5⟩ := y
  exact ⟨T, x, y, h1, h2, h3, h4 xs q.1, h5 ys q.2⟩
end
section
variable {K : PySem.W.Frag} {E : L2.St → XK} {X : Env → WX}
theorem wk_zipM {F : Hp} {as : List Addr} {p q : Addr} {vs ws : List V} {xs ys : List D} {g : Sto → Prop} (t : RpL K F xs vs) (u : RpL K F ys ws)
    (h : ∀ (c : Cd) (H F' : Hp) (as' : List Addr) (S : Sto), SR K c H F' as' S → Same F F' → as <+: as' → g S → SqL K H p vs ∧ SqT K H q ws) : WkOk K (ItzM K p q) F as (zipD xs ys) g := by
  have hw : Walk (ItzM K p q) (zipD xs ys).length (fun H => SqL K H p vs ∧ SqT K H q ws) (YPair (fun i => vs[i]?) (fun i => ws[i]?)) := by
    rw [zipD_len, t.length, u.length]; exact walk_zipM
  refine ⟨_, _, hw, h, fun c i x H v H' F' as' S hx r s p' hg y => ?_⟩
  obtain ⟨T, a, b, rfl, hT, rfl, ha, hb⟩ := y
  obtain ⟨x, y, ex, ey, rfl⟩ := zipD_get hx
  exact r.pair hT ((t.mono s).get' ex ha) ((u.mono s).get' ey hb)
def wZipM (wa : WA) : WI := fun ρ S Q => wa ρ S fun xs S1 => two (fun x y => match x, y with
  | .d (.lst xs), .d (.tup ys) => Q (zipD xs ys) (fun _ => True) S1
  | _, _ => False) xs
instance {t : TA} {w : WA} [ia : UpA K E X t w] : UpI K E X (iZipM K t) (wZipM w) where
  up := fun c ux ρ S Q σ H F as R r e h k => ia.up c ux ρ S _ σ H F as _ r e h fun xs vs H1 F1 as1 S1 r1 s1 p1 rx q => by
    obtain ⟨x, y, v, w, rfl, hx, hy, q⟩ := two_ok rx q
    split at q
    · cases hx with | lst e1 t1 =>
      cases hy with | tup e2 t2 =>
      exact ⟨_, _, _, _, rfl, .inl (.inl (r1.fs _ _ e1)), .inl (.inl (r1.fs _ _ e2)), k _ _ _ _ _ _ _ r1 s1 p1 (wk_zipM t1 t2 fun c H F' as' S r s p _ => ⟨.inl (.inl (r.fs _ _ (s _ _ e1))), .inl (.inl (r.fs _ _ (s _ _ e2)))⟩) q⟩
    · exact q.elim
end
/-- a comprehension that is given a name and written later -/
theorem ps_asgO {X : Cx} {st : Stmt} {t : TE} {g : TG} (h : PS X st (tAsg t g)) : PS X st (tAsg (tLcO t) g) := h
theorem kZipM {X : Cx} {K : PySem.W.Frag} (h : X.K = K) {e e2 : Expr} {ta : TA} {p pos tpos : Pos} {elts : List Expr} {kk : Nat} (hg : Gl X "zip") (hm : X.mg "zip" = none) (ha : PA X [e, e2] ta)
    (hs : starEach [e, e2] X.env = (false, eval e X.env) :: starEach [e2] X.env := by rfl) (hpl : (backTo pos (starEach [e2] X.env)).any (·.1) = false := by rfl) :
    PI X (.Tuple elts kk tpos) (.Call (.Name "zip" p) [e, e2] [] pos) (iZipM K ta) := h ▸ pi_zipM hg hm ha hs hpl
end VL

namespace VL
open PySem PySem.Spec PyProof.Rows L2 RX

/-! ### in, not in by deep equality -/
theorem un65 {k : Nat} {A : Around} (r : Room k A) : A.units + 65 < cLine := by have := r.un; omega
theorem kInD {X : Cx} {K : PySem.W.Frag} (h : X.K = K) (hu : X.A.units + 65 < cLine) : OpR X (compareOp .In) (rInD K) := h ▸ op_inD hu
theorem kNinD {X : Cx} {K : PySem.W.Frag} (h : X.K = K) (hu : X.A.units + 65 < cLine) : OpR X (compareOp .NotIn) (rNotInD K) := h ▸ op_notInD hu
def hasD (d : D) (zs : List D) : Bool := zs.any fun z => D.eqv z d
theorem any_py (d : D) : ∀ zs : List D, ((toPyL zs).any fun z => PyData.eqv z (toPy d)) = hasD d zs
  | [] => rfl
  | z :: zs => by
    unfold hasD
    rw [toPyL, List.any_cons, List.any_cons, any_py d zs]
    rfl
def wInD (neg : Bool) : A → A → Sto → WQ → Prop := fun x y S Q => OnS (look S x) fun d => OnS (look S y) fun e => match e with
  | .lst zs => Ed 60 d ∧ Ed 60 (.lst zs) ∧ Q (.d (.bl (if neg = true then !hasD d zs else hasD d zs))) S
  | _ => False
section
variable {K : PySem.W.Frag}
instance : UpR K (rInD K) (wInD false) where
  up := fun c S Q H F as R x y v w r hx hy q k => by
    obtain ⟨d, e1, e, e2, q⟩ := q
    split at q
    · rename_i zs
      obtain ⟨f1, f2, q⟩ := q
      obtain ⟨p1, s1⟩ := f1.shaped (look_ok r hx e1)
      obtain ⟨p2, s2⟩ := f2.shaped (look_ok r hy e2)
      refine ⟨toPy d, toPyL zs, p1, p2, s1, s2, ?_⟩
      rw [any_py]
      exact k.here (a := .d (.bl _)) r (.bl _) q
    · exact q.elim
instance : UpR K (rNotInD K) (wInD true) where
  up := fun c S Q H F as R x y v w r hx hy q k => by
    obtain ⟨d, e1, e, e2, q⟩ := q
    split at q
    · rename_i zs
      obtain ⟨f1, f2, q⟩ := q
      obtain ⟨p1, s1⟩ := f1.shaped (look_ok r hx e1)
      obtain ⟨p2, s2⟩ := f2.shaped (look_ok r hy e2)
      refine ⟨toPy d, toPyL zs, p1, p2, s1, s2, ?_⟩
      rw [any_py]
      exact k.here (a := .d (.bl _)) r (.bl _) q
    · exact q.elim
end
theorem upCut {K : PySem.W.Frag} {E : L2.St → XK} {X : Env → WX} {t : TS} {w : WS} (h : UpS K E X t w) : UpS K E X (tCut t) (wCut w) := inferInstance
theorem hasD_map {α : Type} {l : List α} {f : α → D} {g : α → Prop} [DecidablePred g] {d : D} (h : ∀ a ∈ l, D.eqv (f a) d = decide (g a)) : hasD d (l.map f) = l.any fun a => decide (g a) := by
  unfold hasD
  rw [List.any_map]
  induction l with
  | nil => rfl
  | cons a l ih => rw [List.any_cons, List.any_cons, ih fun b hb => h b (List.mem_cons_of_mem _ hb)]; show (D.eqv (f a) d || _) = _; rw [h a List.mem_cons_self]
end VL

namespace VL
open PySem PySem.Spec PyProof.Rows L2 RX
/-! ### list(zip(xs, ys)) -/
theorem putP_cons {H : Hp} {t : Addr} {ts : List Addr} {p : V × V} {ps : List (V × V)} : putP H (t :: ts) (p :: ps) = upd (putP H ts ps) t (.tup [p.1, p.2]) := by
  funext b
  show (match ((t :: ts).zip (p :: ps)).lookup b with
    | some p => some (HO.tup [p.1, p.2])
    | none => H b) = _
  rw [List.zip_cons_cons, List.lookup_cons]
  by_cases e : b = t
  · subst e; rw [upd_same, beq_self_eq_true]
  · rw [upd_ne e, beq_eq_false_iff_ne.mpr e]
    rfl
theorem putP_off {H : Hp} {b : Addr} {ts : List Addr} {ps : List (V × V)} (h : b ∉ ts) : putP H ts ps b = H b := by
  show (match (ts.zip ps).lookup b with
    | some p => some (HO.tup [p.1, p.2])
    | none => H b) = _
  rw [zip_off h]
section
variable {K : PySem.W.Frag} {E : L2.St → XK} {X : Env → WX}
theorem SR.puts {c : Cd} {H F : Hp} {as : List Addr} {S : Sto} (r : SR K c H F as S) : ∀ {ts : List Addr} {xs ys : List D} {vs ws : List V}, RpL K F xs vs → RpL K F ys ws → (∀ t ∈ ts, H t = none) → ts.Nodup → ts.length = (vs.zip ws).length →
    ∃ F', SR K c (putP H ts (vs.zip ws)) F' as S ∧ Same F F' ∧ RpL K F' (zipD xs ys) (ts.map V.ref)
  | [], _, _, _, _, h1, h2, _, _, hl => by
    refine ⟨F, r, Same.refl _, ?_⟩
    cases h1 with
    | nil => exact .nil
    | cons a t =>
      cases h2 with
      | nil => exact .nil
      | cons b u => cases hl
  | t :: ts, _, _, _, _, .cons (x := x) (v := v) a h1, .cons (x := y) (v := w) b h2, hn, nd, hl => by
    obtain ⟨nt, nd⟩ := List.nodup_cons.mp nd
    obtain ⟨F1, r1, s1, q1⟩ := SR.puts r h1 h2 (fun z hz => hn z (List.mem_cons_of_mem _ hz)) nd (Nat.succ.inj hl)
    obtain ⟨r2, s2⟩ := r1.newD (o := .tup [v, w]) ((putP_off nt).trans (hn t List.mem_cons_self))
    refine ⟨_, by rw [List.zip_cons_cons, putP_cons]; exact r2, s1.trans s2, ?_⟩
    exact .cons (.tup upd_same (.cons (Rp.mono (s1.trans s2) a) (.cons (Rp.mono (s1.trans s2) b) .nil))) (RpL.mono s2 q1)
  | t :: ts, _, _, _, _, .nil, _, _, _, hl => by cases hl
  | t :: ts, _, _, _, _, .cons a h1, .nil, _, _, hl => by cases hl
def wListZip (wa : WA) : WE := fun ρ S Q => wa ρ S fun xs S1 => two (fun x y => OnS (lstD S1 x) fun l => OnS (lstD S1 y) fun m => Q (.d (.lst (zipD l m))) S1) xs
instance {t : TA} {wa : WA} [ia : UpA K E X t wa] : UpE K E X (tListZip K t) (wListZip wa) where
  up := fun c ux ρ S Q σ H F as R r e h k => ia.up c ux ρ S _ σ H F as _ r e h fun xs vs H1 F1 as1 S1 r1 s1 p1 rx q1 => by
    obtain ⟨x, y, v, w, rfl, hx, hy, l, e1, m, e2, q⟩ := two_ok rx q1
    obtain ⟨a, us, rfl, h1, t1⟩ := lstD_ok r1 hx e1
    obtain ⟨b, ws, rfl, h2, t2⟩ := lstD_ok r1 hy e2
    refine ⟨a, b, us, ws, rfl, h1, h2, fun p ts hp hts hpt nd hl => ?_⟩
    obtain ⟨F2, r2, s2, q2⟩ := r1.puts t1 t2 hts nd hl
    exact ((k.mono s1 p1).mono s2 (List.prefix_refl _)).newD r2 ((putP_off hpt).trans hp) (fun F' s' e' => .lst e' (RpL.mono s' q2)) q
end
end VL

namespace VL
open PySem PySem.Spec PyProof.Rows L2 RX
/-! ### a, b = x, y -/
def wPar (i j : Nat) (wa : WA) : WS := fun D ρ S => wa ρ S fun xs S1 => two (fun x y => D.nx ((ρ.set i (some x)).set j (some y)) S1) xs
section
variable {K : PySem.W.Frag} {E : L2.St → XK} {X : Env → WX}
instance {i j : Nat} {t : TA} {wa : WA} [ia : UpA K E X t wa] : UpS K E X (tPar i j t) (wPar i j wa) where
  up := fun c ux D Dh ed ρ S σ H F as r e h => ia.up c ux ρ S _ σ H F as _ r e h fun xs vs H1 F1 as1 S1 r1 s1 p1 rx q1 => by
    obtain ⟨x, y, v, w, rfl, hx, hy, q⟩ := two_ok rx q1
    exact ⟨v, w, rfl, ed.nx _ S1 _ H1 F1 as1 r1 (((e.mono s1 p1).set i hx).set j hy) q⟩
end
end VL

namespace VL
open PySem PySem.Spec PyProof.Rows L2 RX
/-! ### tuple * 0, tuple * 1 -/
def wRep01 : A → A → Sto → WQ → Prop := fun x y S Q => match x, y with
  | .d (.tup xs), .d (.int k) => xs ≠ [] ∧ (k = 0 ∨ k = 1) ∧ Q (.d (.tup (if k = 0 then [] else xs))) S
  | _, _ => False
section
variable {K : PySem.W.Frag}
instance : UpR K (rRep01 K) wRep01 where
  up := fun c S Q H F as R x y v u r hx hy q k => by
    unfold wRep01 at q
    split at q
    · obtain ⟨hne, hk, q⟩ := q
      cases hy
      cases hx with
      | tup h t =>
        refine ⟨_, _, rfl, .inl (.inl (r.fs _ _ h)), fun e => hne ?_, ?_⟩
        · have := t.length
          rw [e] at this
          exact List.eq_nil_of_length_eq_zero this
        · rcases hk with rfl | rfl
          · exact .inl ⟨rfl, fun p hp => k.newD r hp (fun F' s' e' => .tup e' .nil) q⟩
          · exact .inr ⟨rfl, k.here' r (.tup h t) q⟩
    · exact q.elim
end
end VL

namespace VL
open PySem PySem.Spec PyProof.Rows L2 RX
/-! ### dict(pairs) -/
def pairD : D → Option (Key × D)
  | .tup [k, v] => (keyA (.d k)).map fun k => (k, v)
  | _ => none
def pairsD : List D → Option (List (Key × D))
  | [] => some []
  | x :: r => match pairD x, pairsD r with
    | some p, some ps => some (p :: ps)
    | _, _ => none
def mergeD (kvs more : List (Key × D)) : List (Key × D) := more.foldl (fun acc kv => pK acc kv.1 kv.2) kvs
def rDictP (K : PySem.W.Frag) : List V → Hp → VK → Prop := fun xs H Q => ∃ (a : Addr) (ps : List Addr) (kvs : List (Key × V)), xs = [.ref a] ∧ SqL K H a (ps.map V.ref) ∧ Paired (fun p kv => SqT K H p [kV kv.1, kv.2]) ps kvs ∧ ∀ p, H p = none → Q (.ref p) (upd H p (.dK (mergeK [] kvs)))
theorem kDictP {X : Cx} {K : PySem.W.Frag} (h : X.K = K) (hc : X.calm = true) : CallR X (.type "dict") (rDictP K) := h ▸ call_dictP hc
section
variable {K : PySem.W.Frag} {E : L2.St → XK} {X : Env → WX}
theorem RpK.merge {F : Hp} : ∀ {more : List (Key × D)} {ms : List (Key × V)} {kvs : List (Key × D)} {gs : List (Key × V)}, RpK K F more ms → RpK K F kvs gs → RpK K F (mergeD kvs more) (mergeK gs ms)
  | _, _, _, _, .nil, b => b
  | _, _, kvs, gs, .cons (f := f) (x := x) (xs := xs) (v := v) (vs := vs) h t, b => by
    show RpK K F (mergeD (pK kvs f x) xs) (mergeK (putK gs f v) vs)
    exact RpK.merge t (b.put h)
theorem pairsD_ok {H : Hp} : ∀ {xs : List D} {vs : List V} {kvs : List (Key × D)}, RpL K H xs vs → pairsD xs = some kvs → ∃ (ps : List Addr) (gs : List (Key × V)), vs = ps.map V.ref ∧ Paired (fun p kv => SqT K H p [kV kv.1, kv.2]) ps gs ∧ RpK K H kvs gs
  | [], _, _, .nil, e => by cases e; exact ⟨[], [], rfl, .nil, .nil⟩
  | x :: r, _, _, .cons h t, e => by
    unfold pairsD at e
    split at e
    · rename_i p ps e1 e2
      cases e
      obtain ⟨qs, gs, rfl, h2, h3⟩ := pairsD_ok t e2
      unfold pairD at e1
      split at e1
      · rename_i k v
        obtain ⟨k', ek, e1⟩ := Option.map_eq_some_iff.mp e1
        subst e1
        cases h with
        | tup hf ht =>
          cases ht with
          | cons hk ht =>
            cases ht with
            | cons hv ht =>
              cases ht
              have := keyA_ok (as := []) (y := .d k) hk ek
              subst this
              exact ⟨_ :: qs, (k', _) :: gs, rfl, .cons (.inl (.inl hf)) h2, .cons hv h3⟩
      · cases e1
    · cases e
def wDictP : List A → Sto → WQ → Prop := fun xs S Q => one (fun x => OnS (lstD S x) fun ys => OnS (pairsD ys) fun kvs => Q (.d (.dK (mergeD [] kvs))) S) xs
instance : UpC K (rDictP K) wDictP where
  up := fun c S Q H F as R xs vs r h q k => by
    obtain ⟨x, v, rfl, hx, ys, e, kvs, ek, q⟩ := one_ok h q
    obtain ⟨p, ws, rfl, h1, t⟩ := lstD_ok r hx e
    obtain ⟨ps, gs, rfl, h2, h3⟩ := pairsD_ok t ek
    refine ⟨p, ps, gs, rfl, h1, Paired.mono (fun _ _ z => SqT.same r.fs z) h2, fun p hp => k.newD r hp (fun F' s' e' => .dK e' (RpK.merge (h3.mono s') .nil)) q⟩
/-- owned -/
def wDictPO (wa : WA) : WE := fun ρ S Q => wa ρ S fun xs S1 => one (fun x => OnS (lstD S1 x) fun ys => OnS (pairsD ys) fun kvs => Q (.ref S1.length) (S1 ++ [.dK (mergeD [] kvs)])) xs
instance {t : TA} {wa : WA} [ia : UpA K E X t wa] : UpE K E X (tOwn (tCB (rDictP K) t)) (wDictPO wa) where
  up := fun c ux ρ S Q σ H F as R r e h k => ia.up c ux ρ S _ σ H F as _ r e h fun xs vs H1 F1 as1 S1 r1 s1 p1 rx q1 => by
    obtain ⟨x, v, rfl, hx, ys, e, kvs, ek, q⟩ := one_ok rx q1
    obtain ⟨p, ws, rfl, h1, t⟩ := lstD_ok r1 hx e
    obtain ⟨ps, gs, rfl, h2, h3⟩ := pairsD_ok t ek
    exact ⟨p, ps, gs, rfl, h1, Paired.mono (fun _ _ z => SqT.same r1.fs z) h2, fun p hp => (k.mono s1 p1).newO r1 hp (obK (r1.none_F hp) upd_same (RpK.merge h3 .nil)) q⟩
end
end VL

namespace VL
open PySem PySem.Spec PyProof.Rows L2 RX
/-! ### xs.count(b), tuples added, tuples that hold handles, one object out -/
section
variable {K : PySem.W.Frag} {E : L2.St → XK} {X : Env → WX}
theorem bls_flat : ∀ bs : List Bool, ((bs.map V.bl).all flatV) = true
  | [] => rfl
  | b :: r => by rw [List.map_cons, List.all_cons, bls_flat r]; rfl
theorem bls_count (b : Bool) : ∀ bs : List Bool, ((bs.map V.bl).countP fun z => eqV z (V.bl b)) = bs.count b
  | [] => rfl
  | c :: r => by
    have ih := bls_count b r
    rw [List.map_cons, List.countP_cons, List.count_cons, ih]
    cases b <;> cases c <;> rfl
instance : UpM K (rCntF K) (fun o xs S Q => one (fun x => match x with
    | .d (.bl b) => OnS (lstD S o) fun ys => OnS (blsD ys) fun bs => Q (.d (.int (bs.count b : Nat))) S
    | _ => False) xs) where
  up := fun c S Q H F as R o ov xs vs r ho h q k => by
    obtain ⟨x, v, rfl, hx, q⟩ := one_ok h q
    split at q
    · obtain ⟨ys, e, bs, eb, q⟩ := q
      cases hx
      obtain ⟨p, ws, rfl, h1, t⟩ := lstD_ok r ho e
      have := blsD_ok t eb
      subst this
      refine ⟨p, _, _, rfl, rfl, h1, rfl, bls_flat bs, ?_⟩
      rw [bls_count]
      exact k.here (a := .d (.int _)) r (.int _) q
    · exact q.elim
def wCatA : A → A → Sto → WQ → Prop := fun x y S Q => match x, y with
  | .d (.tup xs), .d (.tup ys) => xs.length + ys.length ≤ 1000000 ∧ Q (.d (.tup (xs ++ ys))) S
  | _, _ => False
instance : UpR K (rCatA K) wCatA where
  up := fun c S Q H F as R x y v w r hx hy q k => by
    unfold wCatA at q
    split at q
    · obtain ⟨hl, q⟩ := q
      cases hx with | tup e1 t1 => cases hy with | tup e2 t2 =>
      rename_i xs ys a vs b ws
      refine ⟨_, _, vs, ws, rfl, rfl, .inl (.inl (r.fs _ _ e1)), .inl (.inl (r.fs _ _ e2)), le_size (by rw [← t1.length, ← t2.length]; exact hl), fun z => ?_, fun z z2 => ?_, fun z z2 p hp => ?_⟩
      · have z' := t1.nil_iff.mpr z
        subst z'
        rw [List.nil_append] at q
        exact k.here (a := .d (.tup _)) r (.tup e2 t2) q
      · have z' := t2.nil_iff.mpr z2
        subst z'
        rw [List.append_nil] at q
        exact k.here (a := .d (.tup _)) r (.tup e1 t1) q
      · exact k.newD r hp (fun F' s' e' => .tup e' ((t1.append t2).mono s')) q
    · exact q.elim
/-- a tuple that holds handles -/
def tOwT (t : TE) : TE := t
def wTupR (wa : WA) : WE := fun ρ S Q => wa ρ S fun xs S1 => xs.length ≤ 100000 ∧ Q (.ref S1.length) (S1 ++ [.tpR xs])
instance {t : TA} {wa : WA} [ia : UpA K E X t wa] : UpE K E X (tOwT (tTup t)) (wTupR wa) where
  up := fun c ux ρ S Q σ H F as R r e h k => ia.up c ux ρ S _ σ H F as _ r e h fun x v H1 F1 as1 S1 r1 s1 p1 rx q1 => by
    have hl := rx.length
    exact ⟨le_size (by omega), fun p hp => (k.mono s1 p1).newO r1 hp (show ObR _ _ _ _ _ (.tpR _) from ⟨_, rx.mono (Same.refl _) (List.prefix_append _ _), .inl ⟨r1.none_F hp, upd_same⟩⟩) q1.2⟩
end
theorem pe_owT {X : Cx} {e : Expr} {t : TE} (h : PE X e t) : PE X e (tOwT t) := h
/-- one object out at the end of a turn, of a def -/
theorem Fin.del {n0 : Nat} {P : Env → Sto → Prop} {ρ : Env} {S : Sto} (k : Nat) (hk : n0 ≤ k) (hl : k < S.length) (hn : (S.eraseIdx k).all (awO k) = true) (h : Fin n0 P (delE k ρ) ((S.eraseIdx k).map (dnO k))) : Fin n0 P ρ S := by
  obtain ⟨ρ', S', g, q⟩ := h
  exact ⟨ρ', S', .del k hk hl (List.all_eq_true.mp hn) g, q⟩
theorem Ret.del {n0 : Nat} {Q : WQ} {m : Nat} {S : Sto} (k : Nat) (hk : n0 ≤ k) (hl : k < S.length) (hm : m ≠ k) (hn : (S.eraseIdx k).all (awO k) = true) (h : Ret n0 Q (.ref (if m < k then m else m - 1)) ((S.eraseIdx k).map (dnO k))) : Ret n0 Q (.ref m) S := by
  obtain ⟨a', S', g, q⟩ := h
  refine ⟨a', S', .del k hk hl (List.all_eq_true.mp hn) ?_, q⟩
  rw [show delE k [some (.ref m)] = [some (.ref (if m < k then m else m - 1))] by
    unfold delE
    rw [List.map_cons, List.map_nil]
    show [if decide (m ≠ k) = true then some (dnA k (.ref m)) else none] = _
    rw [if_pos (decide_eq_true hm)]
    rfl]
  exact g
/-- a list of the def's own is data from now on -/
theorem Fin.fz {n0 : Nat} {P : Env → Sto → Prop} {ρ : Env} {S : Sto} (n : Nat) {o : Ob} {x : D} (e : S[n]? = some o) (ex : obD S o = some x) (h : Fin n0 P (fzE n x ρ) (S.set n (.fz x))) : Fin n0 P ρ S := by
  obtain ⟨ρ', S', g, q⟩ := h
  exact ⟨ρ', S', .fz n o x e ex g, q⟩
end VL

namespace VL
open PySem PySem.Spec PyProof.Rows L2 RX
/-! ### s.split(t), s.partition(t), xs.pop(i) -/
theorem mem_joinL {S p : List Nat} {c : Nat} : ∀ {parts : List (List Nat)}, p ∈ parts → c ∈ p → c ∈ TL.joinL S parts
  | [], h, _ => by cases h
  | [q], h, hc => by rw [List.mem_singleton.mp h] at hc; exact hc
  | q :: r :: rs, h, hc => by
    show c ∈ q ++ (S ++ TL.joinL S (r :: rs))
    rcases List.mem_cons.mp h with e | e
    · rw [e] at hc; exact List.mem_append_left _ hc
    · exact List.mem_append_right _ (List.mem_append_right _ (mem_joinL e hc))
theorem cp_split {x y p : Str} (h : Cp x) (hp : p ∈ Txt.split x y) : Cp p := fun c hc => by
  refine h c ?_
  have e := StrLaws.join_split x y
  have e2 := congrArg (fun s : Str => s.cps.toList) e
  have e2 : (Str.join y (Txt.split x y)).cps.toList = x.cps.toList := e2
  rw [← e2]
  show c ∈ TL.tl (Str.join y (Txt.split x y))
  rw [TL.tl_join]
  exact mem_joinL (List.mem_map.mpr ⟨p, hp, rfl⟩) hc
theorem rpl_strsC {K : PySem.W.Frag} {F : Hp} : ∀ {ys : List Str}, (∀ p ∈ ys, Cp p) → RpL K F (ys.map D.str) (ys.map V.str)
  | [], _ => .nil
  | y :: ys, h => .cons (.str (h y List.mem_cons_self)) (rpl_strsC fun p hp => h p (List.mem_cons_of_mem _ hp))
section
variable {K : PySem.W.Frag} {E : L2.St → XK} {X : Env → WX}
def wSplit : A → List A → Sto → WQ → Prop := fun x xs S Q => one (fun y => match x, y with
  | .d (.str a), .d (.str b) => (b.length == 0) = false ∧ a.length ≤ 1000000 ∧ Q (.d (.lst ((Txt.split a b).map .str))) S
  | _, _ => False) xs
instance : UpM K (fun x xs H Q => ∃ a b, x = .str a ∧ xs = [.str b] ∧ (b.length == 0) = false ∧ a.length + 2 ≤ sizeLine ∧ rNewStrs (Txt.split a b) H Q) wSplit where
  up := fun c S Q H F as R o ov xs vs r ho h q k => by
    obtain ⟨x, v, rfl, hx, q⟩ := one_ok h q
    split at q
    · obtain ⟨hb, hl, q⟩ := q
      cases ho with | str c1 =>
      cases hx
      exact ⟨_, _, rfl, rfl, hb, by rw [sizeLine_eq]; omega, fun p hp => k.newD r hp (fun F' s' e' => .lst e' (rpl_strsC fun z hz => cp_split c1 hz)) q⟩
    · exact q.elim
def popAtA (S : Sto) (o : A) (i : Int) (Q : WQ) : Prop := match o with
  | .ref n => (match S[n]? with
    | some (.lst xs) => OnS (ixN xs.length i) fun j => OnS xs[j]? fun d => Q (.d d) (S.set n (.lst (xs.eraseIdx j)))
    | _ => False)
  | _ => False
theorem RpL.erase {F : Hp} : ∀ {xs : List D} {vs : List V} (i : Nat), RpL K F xs vs → RpL K F (xs.eraseIdx i) (vs.eraseIdx i)
  | _, _, _, .nil => .nil
  | _, _, 0, .cons _ t => t
  | _, _, i + 1, .cons h t => .cons h (RpL.erase i t)
instance : UpM K rPopAt (fun o xs S Q => one (asI fun i => -(2 ^ 62) ≤ i ∧ i < 2 ^ 62 ∧ popAtA S o i Q) xs) where
  up := fun c S Q H F as R o ov xs vs r ho h q k => by
    obtain ⟨x, v, rfl, hx, q⟩ := one_ok h q
    obtain ⟨i, rfl, h1, h2, q⟩ := asI_ok hx q
    unfold popAtA at q
    split at q
    · obtain ⟨p, hp, rfl⟩ := ho
      split at q
      · rename_i ys ey
        obtain ⟨j, ej, d, e, q⟩ := q
        obtain ⟨f0, ws, hw, h4⟩ := r.ob _ p _ hp ey
        obtain ⟨u, e1, hu⟩ := h4.get e
        refine ⟨p, ws, i, j, u, rfl, rfl, hw, by omega, by omega, by rw [← h4.length]; exact (ixN_seq ej).1, e1, ?_⟩
        exact k.here' (r.put hp f0 (obL f0 upd_same (h4.erase j))) hu q
      · exact q.elim
    · exact q.elim
end
/-- two handles go along; result and store written out -/
theorem CallP.s2 {sp : SpD} {X : WX} {ds ds0 : List A} {S1 : Sto} {Q : WQ} (n m : Nat) {o p : Ob} (nd : n ≠ m) (hd : ds = ds0.map (A.ren (rn [n, m] S1.length)))
    (h1 : S1[n]? = some (o.ren (rn [n, m] S1.length))) (h2 : S1[m]? = some (p.ren (rn [n, m] S1.length)))
    (h : sp ds0 [o, p] (fun a S' => ∃ a2 S2, a.ren (rn [n, m] S1.length) = a2 ∧ scat (rn [n, m] S1.length) S1 [n, m] S' = S2 ∧ Q a2 S2) (fun C fs S' => ∃ S2, scat (rn [n, m] S1.length) S1 [n, m] S' = S2 ∧ X C fs S2)) : CallP sp X ds S1 Q := by
  refine .h2 n m nd hd h1 rfl h2 rfl ?_
  have e : (fun a S' => ∃ a2 S2, a.ren (rn [n, m] S1.length) = a2 ∧ scat (rn [n, m] S1.length) S1 [n, m] S' = S2 ∧ Q a2 S2) = fun (a : A) S' => Q (a.ren (rn [n, m] S1.length)) (scat (rn [n, m] S1.length) S1 [n, m] S') := by
    funext a S'
    exact propext ⟨fun ⟨_, _, e1, e2, q⟩ => by rw [e1, e2]; exact q, fun q => ⟨_, _, rfl, rfl, q⟩⟩
  have e' : (fun C fs S' => ∃ S2, scat (rn [n, m] S1.length) S1 [n, m] S' = S2 ∧ X C fs S2) = fun (C : Addr) fs S' => X C fs (scat (rn [n, m] S1.length) S1 [n, m] S') := by
    funext C fs S'
    exact propext ⟨fun ⟨_, e1, q⟩ => by rw [e1]; exact q, fun q => ⟨_, rfl, q⟩⟩
  rw [e, e'] at h
  exact h
/-! sep.join(..) with K plain -/
def rJoinK (K : PySem.W.Frag) : V → List V → Hp → VK → Prop := fun x xs H Q => ∃ a p, ∃ ys : List Str, x = .str a ∧ xs = [.ref p] ∧ (SqL K H p (ys.map V.str) ∨ SqT K H p (ys.map V.str)) ∧ (ys.map (·.length)).sum + ys.length * a.length ≤ 16777216 ∧ Q (.str (Txt.join a ys)) H
theorem kJoin {X : Cx} {K : PySem.W.Frag} (h : X.K = K) {e : Expr} {to te : TE} (he : PE X e (tM1 (rJoinK X.K) to te)) : PE X e (tM1 (rJoinK K) to te) := h ▸ he
def wJoin : A → List A → Sto → WQ → Prop := fun o xs S Q => one (fun x => (match o with
  | .d (.str a) => OnS (seqD S x) fun ds => OnS (strsD ds) fun ys => (ys.map (·.length)).sum + ys.length * a.length ≤ 16777216 ∧ Q (.d (.str (Str.join a ys))) S
  | _ => False)) xs
instance {K : PySem.W.Frag} : UpM K (rJoinK K) wJoin where
  up := fun c S Q H F as R o ov xs vs r ho h q k => by
    obtain ⟨x, v, rfl, hx, q⟩ := one_ok h q
    split at q
    · obtain ⟨ds, e1, ys, e2, hl, q⟩ := q
      cases ho with | str cp =>
      obtain ⟨p, ws, rfl, h1, t⟩ := seqD_ok r hx e1
      obtain ⟨rfl, hc⟩ := strsD_ok t e2
      refine ⟨_, p, ys, rfl, rfl, h1, hl, ?_⟩
      rw [TL.join_eq]
      exact k.here (a := .d (.str _)) r (.str (Cp.join cp hc)) q
    · exact q.elim
end VL

namespace Toy
open PySem PySem.Spec PyProof.Rows L2 RX VL
abbrev hasRule : Prop := False
abbrev hasBar : Prop := False
abbrev hasMaking : Prop := False
abbrev hasScheme : Prop := False
abbrev hasHouse : Prop := False
/-! the text by places -/
abbrev N_BadRow_init : List Str := ["self", "row"]
theorem sc_BadRow_init : FnScope N_BadRow_init ["self", "row"] (defScope s_BadRow_init) := ⟨rfl, rfl, rfl, by decide +kernel, rfl, by decide +kernel, by decide +kernel⟩
abbrev N_NoDeed_init : List Str := ["self", "word"]
theorem sc_NoDeed_init : FnScope N_NoDeed_init ["self", "word"] (defScope s_NoDeed_init) := ⟨rfl, rfl, rfl, by decide +kernel, rfl, by decide +kernel, by decide +kernel⟩
abbrev N_law_pot : List Str := ["_law_script", "_law_cells", "_law_cell"]
theorem sc_law_pot : FnScope N_law_pot ["_law_script"] (defScope s_law_pot) := ⟨rfl, rfl, rfl, by decide +kernel, rfl, by decide +kernel, by decide +kernel⟩
abbrev N_law_mixed : List Str := ["_law_cell", "_law_k", "_law_number"]
theorem sc_law_mixed : FnScope N_law_mixed ["_law_cell", "_law_k"] (defScope s_law_mixed) := ⟨rfl, rfl, rfl, by decide +kernel, rfl, by decide +kernel, by decide +kernel⟩
abbrev N_law_take : List Str := ["_law_pot_here", "_law_many", "_law_found"]
theorem sc_law_take : FnScope N_law_take ["_law_pot_here", "_law_many"] (defScope s_law_take) := ⟨rfl, rfl, rfl, by decide +kernel, rfl, by decide +kernel, by decide +kernel⟩
abbrev N_law_name_at : List Str := ["_law_index", "_law_size", "_law_many", "_law_word", "_law_k"]
theorem sc_law_name_at : FnScope N_law_name_at ["_law_index"] (defScope s_law_name_at) := ⟨rfl, rfl, rfl, by decide +kernel, rfl, by decide +kernel, by decide +kernel⟩
abbrev N_law_large : List Str := ["_law_pot_here", "_law_many", "_law_found", "_law_k"]
theorem sc_law_large : FnScope N_law_large ["_law_pot_here", "_law_many"] (defScope s_law_large) := ⟨rfl, rfl, rfl, by decide +kernel, rfl, by decide +kernel, by decide +kernel⟩
abbrev N_law_name : List Str := ["_law_pot_here", "_law_taken", "_law_kind", "_law_at", "_law_odd", "_law_word", "_law_index"]
theorem sc_law_name : FnScope N_law_name ["_law_pot_here", "_law_taken"] (defScope s_law_name) := ⟨rfl, rfl, rfl, by decide +kernel, rfl, by decide +kernel, by decide +kernel⟩
abbrev N_parts_of : List Str := ["row", "at", "parts"]
theorem sc_parts_of : FnScope N_parts_of ["row", "at"] (defScope s_parts_of) := ⟨rfl, rfl, rfl, by decide +kernel, rfl, by decide +kernel, by decide +kernel⟩
abbrev N_read_deed : List Str := ["row", "parts"]
theorem sc_read_deed : FnScope N_read_deed ["row"] (defScope s_read_deed) := ⟨rfl, rfl, rfl, by decide +kernel, rfl, by decide +kernel, by decide +kernel⟩
abbrev N_deed_row : List Str := ["deed"]
theorem sc_deed_row : FnScope N_deed_row ["deed"] (defScope s_deed_row) := ⟨rfl, rfl, rfl, by decide +kernel, rfl, by decide +kernel, by decide +kernel⟩
abbrev N_law_row : List Str := ["_law_deed_here"]
theorem sc_law_row : FnScope N_law_row ["_law_deed_here"] (defScope s_law_row) := ⟨rfl, rfl, rfl, by decide +kernel, rfl, by decide +kernel, by decide +kernel⟩
abbrev N_law_read : List Str := ["_law_row_here", "e"]
theorem sc_law_read : FnScope N_law_read ["_law_row_here"] (defScope s_law_read) := ⟨rfl, rfl, rfl, by decide +kernel, rfl, by decide +kernel, by decide +kernel⟩
abbrev N_law_refused_by_base : List Str := ["_law_row_here", "e"]
theorem sc_law_refused_by_base : FnScope N_law_refused_by_base ["_law_row_here"] (defScope s_law_refused_by_base) := ⟨rfl, rfl, rfl, by decide +kernel, rfl, by decide +kernel, by decide +kernel⟩
abbrev N_law_written : List Str := ["_law_deed_here", "e"]
theorem sc_law_written : FnScope N_law_written ["_law_deed_here"] (defScope s_law_written) := ⟨rfl, rfl, rfl, by decide +kernel, rfl, by decide +kernel, by decide +kernel⟩
abbrev N_law_due : List Str := ["_law_row_here", "_law_parts"]
theorem sc_law_due : FnScope N_law_due ["_law_row_here"] (defScope s_law_due) := ⟨rfl, rfl, rfl, by decide +kernel, rfl, by decide +kernel, by decide +kernel⟩
abbrev N_law_deed : List Str := ["_law_pot_here", "_law_kind", "_law_names_here", "_law_odd", "_law_k"]
theorem sc_law_deed : FnScope N_law_deed ["_law_pot_here", "_law_kind"] (defScope s_law_deed) := ⟨rfl, rfl, rfl, by decide +kernel, rfl, by decide +kernel, by decide +kernel⟩
abbrev N_law_spoiled : List Str := ["_law_pot_here", "_law_parts", "_law_way", "_law_at", "_law_rest", "_law_odd"]
theorem sc_law_spoiled : FnScope N_law_spoiled ["_law_pot_here", "_law_parts", "_law_way"] (defScope s_law_spoiled) := ⟨rfl, rfl, rfl, by decide +kernel, rfl, by decide +kernel, by decide +kernel⟩
abbrev N_law : List Str := ["_law_script", "_law_pot_here", "_law_kind", "_law_ways", "_law_deed_here", "_law_row_here", "_law_parts", "_law_way", "_law_due_here", "_law_k"]
theorem sc_law : FnScope N_law ["_law_script"] (defScope s_law) := ⟨rfl, rfl, rfl, by decide +kernel, rfl, by decide +kernel, by decide +kernel⟩
/-! what the top has written -/
structure Txt (w : World) (K : PySem.W.Frag) (mg : Str → Option Value) : Prop where
  g_BadRow : mg "BadRow" = some (.ref (He.ga K "BadRow"))
  g_DEEDS : mg "DEEDS" = some (.ref (He.ga K "DEEDS"))
  g_NoDeed : mg "NoDeed" = some (.ref (He.ga K "NoDeed"))
  g_WhoError : mg "WhoError" = some (.ref (He.ga K "WhoError"))
  g_deed_row : mg "deed_row" = some (.ref (He.ga K "deed_row"))
  g_law : mg "law" = some (.ref (He.ga K "law"))
  g_law_deed : mg "_law_deed" = some (.ref (He.ga K "_law_deed"))
  g_law_due : mg "_law_due" = some (.ref (He.ga K "_law_due"))
  g_law_large : mg "_law_large" = some (.ref (He.ga K "_law_large"))
  g_law_mixed : mg "_law_mixed" = some (.ref (He.ga K "_law_mixed"))
  g_law_name : mg "_law_name" = some (.ref (He.ga K "_law_name"))
  g_law_name_at : mg "_law_name_at" = some (.ref (He.ga K "_law_name_at"))
  g_law_pot : mg "_law_pot" = some (.ref (He.ga K "_law_pot"))
  g_law_read : mg "_law_read" = some (.ref (He.ga K "_law_read"))
  g_law_refused_by_base : mg "_law_refused_by_base" = some (.ref (He.ga K "_law_refused_by_base"))
  g_law_row : mg "_law_row" = some (.ref (He.ga K "_law_row"))
  g_law_spoiled : mg "_law_spoiled" = some (.ref (He.ga K "_law_spoiled"))
  g_law_take : mg "_law_take" = some (.ref (He.ga K "_law_take"))
  g_law_written : mg "_law_written" = some (.ref (He.ga K "_law_written"))
  g_parts_of : mg "parts_of" = some (.ref (He.ga K "parts_of"))
  g_read_deed : mg "read_deed" = some (.ref (He.ga K "read_deed"))
  kt_BadRow_ValueError_true : PySem.W.kitOne K (.ref (He.ga K "BadRow")) (.type "ValueError") = some true
  n_BadRow_row : NoAttr K (He.ga K "BadRow") "row"
  n_NoDeed_word : NoAttr K (He.ga K "NoDeed") "word"
  tb_DEEDS : TabAt K w (He.ga K "DEEDS") [("make", (He.ga K "play_make")), ("do", (He.ga K "play_do")), ("drop", (He.ga K "play_drop"))]
  tv_DEEDS : tabV K (He.ga K "DEEDS") [("make", (He.ga K "play_make")), ("do", (He.ga K "play_do")), ("drop", (He.ga K "play_drop"))] = true
  x_BadRow : ExcAt K (He.ga K "BadRow") (He.ma K (He.ga K "BadRow") "__init__")
  x_NoDeed : ExcAt K (He.ga K "NoDeed") (He.ma K (He.ga K "NoDeed") "__init__")
  xm_BadRow_BadRow_true : PySem.W.exmOne K (.ref (He.ga K "BadRow")) (.ref (He.ga K "BadRow")) = some true
  xm_BadRow_WhoError_true : PySem.W.exmOne K (.ref (He.ga K "BadRow")) (.ref (He.ga K "WhoError")) = some true
  xm_NoDeed_NoDeed_true : PySem.W.exmOne K (.ref (He.ga K "NoDeed")) (.ref (He.ga K "NoDeed")) = some true
  z_ValueError : mg "ValueError" = none
  z_abs : mg "abs" = none
  z_isinstance : mg "isinstance" = none
  z_len : mg "len" = none
  z_list : mg "list" = none
  z_range : mg "range" = none
  z_str : mg "str" = none
  z_tuple : mg "tuple" = none
  d_BadRow_init : DefAt K "__init__" "BadRow.__init__" s_BadRow_init (He.ma K (He.ga K "BadRow") "__init__")
  d_NoDeed_init : DefAt K "__init__" "NoDeed.__init__" s_NoDeed_init (He.ma K (He.ga K "NoDeed") "__init__")
  d_law_pot : DefAt K "_law_pot" "_law_pot" s_law_pot (He.ga K "_law_pot")
  d_law_mixed : DefAt K "_law_mixed" "_law_mixed" s_law_mixed (He.ga K "_law_mixed")
  d_law_take : DefAt K "_law_take" "_law_take" s_law_take (He.ga K "_law_take")
  d_law_name_at : DefAt K "_law_name_at" "_law_name_at" s_law_name_at (He.ga K "_law_name_at")
  d_law_large : DefAt K "_law_large" "_law_large" s_law_large (He.ga K "_law_large")
  d_law_name : DefAt K "_law_name" "_law_name" s_law_name (He.ga K "_law_name")
  d_parts_of : DefV K "parts_of" "parts_of" s_parts_of [.int 0] (He.ga K "parts_of")
  d_read_deed : DefAt K "read_deed" "read_deed" s_read_deed (He.ga K "read_deed")
  d_deed_row : DefAt K "deed_row" "deed_row" s_deed_row (He.ga K "deed_row")
  d_law_row : DefAt K "_law_row" "_law_row" s_law_row (He.ga K "_law_row")
  d_law_read : DefAt K "_law_read" "_law_read" s_law_read (He.ga K "_law_read")
  d_law_refused_by_base : DefAt K "_law_refused_by_base" "_law_refused_by_base" s_law_refused_by_base (He.ga K "_law_refused_by_base")
  d_law_written : DefAt K "_law_written" "_law_written" s_law_written (He.ga K "_law_written")
  d_law_due : DefAt K "_law_due" "_law_due" s_law_due (He.ga K "_law_due")
  d_law_deed : DefAt K "_law_deed" "_law_deed" s_law_deed (He.ga K "_law_deed")
  d_law_spoiled : DefAt K "_law_spoiled" "_law_spoiled" s_law_spoiled (He.ga K "_law_spoiled")
  d_law : DefAt K "law" "law" s_law (He.ga K "law")
end Toy

namespace Toy
open PySem PySem.Spec PyProof.Rows L2 RX VL

theorem txt_of {w : World} {h : Heap} {K : PySem.W.Frag} {mg : Str → Option Value} (X : K.In h) (G : h.Ns mainGlobals mg) (c : SaysW hfa hfn hex htb w K) : Txt w K mg where
  g_BadRow := He.glo_ok X G (c.y.d.fact 0 rfl)
  g_DEEDS := He.glo_ok X G (c.y.d.fact 1 rfl)
  g_NoDeed := He.glo_ok X G (c.y.d.fact 2 rfl)
  g_WhoError := He.glo_ok X G (c.y.d.fact 3 rfl)
  g_deed_row := He.glo_ok X G (c.y.d.fact 4 rfl)
  g_law := He.glo_ok X G (c.y.d.fact 5 rfl)
  g_law_deed := He.glo_ok X G (c.y.d.fact 6 rfl)
  g_law_due := He.glo_ok X G (c.y.d.fact 7 rfl)
  g_law_large := He.glo_ok X G (c.y.d.fact 8 rfl)
  g_law_mixed := He.glo_ok X G (c.y.d.fact 9 rfl)
  g_law_name := He.glo_ok X G (c.y.d.fact 10 rfl)
  g_law_name_at := He.glo_ok X G (c.y.d.fact 11 rfl)
  g_law_pot := He.glo_ok X G (c.y.d.fact 12 rfl)
  g_law_read := He.glo_ok X G (c.y.d.fact 13 rfl)
  g_law_refused_by_base := He.glo_ok X G (c.y.d.fact 14 rfl)
  g_law_row := He.glo_ok X G (c.y.d.fact 15 rfl)
  g_law_spoiled := He.glo_ok X G (c.y.d.fact 16 rfl)
  g_law_take := He.glo_ok X G (c.y.d.fact 17 rfl)
  g_law_written := He.glo_ok X G (c.y.d.fact 18 rfl)
  g_parts_of := He.glo_ok X G (c.y.d.fact 19 rfl)
  g_read_deed := He.glo_ok X G (c.y.d.fact 20 rfl)
  n_BadRow_row := He.noat_ok (c.y.d.fact 21 rfl)
  n_NoDeed_word := He.noat_ok (c.y.d.fact 22 rfl)
  xm_BadRow_BadRow_true := He.exm_ok (c.y.d.fact 23 rfl)
  xm_BadRow_WhoError_true := He.exm_ok (c.y.d.fact 24 rfl)
  xm_NoDeed_NoDeed_true := He.exm_ok (c.y.d.fact 25 rfl)
  z_ValueError := He.free_ok X G (c.y.d.fact 26 rfl)
  z_abs := He.free_ok X G (c.y.d.fact 27 rfl)
  z_isinstance := He.free_ok X G (c.y.d.fact 28 rfl)
  z_len := He.free_ok X G (c.y.d.fact 29 rfl)
  z_list := He.free_ok X G (c.y.d.fact 30 rfl)
  z_range := He.free_ok X G (c.y.d.fact 31 rfl)
  z_str := He.free_ok X G (c.y.d.fact 32 rfl)
  z_tuple := He.free_ok X G (c.y.d.fact 33 rfl)
  kt_BadRow_ValueError_true := of_decide_eq_true (all_at c.y.more 0 rfl)
  tv_DEEDS := id (all_at c.y.more 1 rfl)
  x_BadRow := excAtB_ok (all_at c.y.more 2 rfl)
  x_NoDeed := excAtB_ok (all_at c.y.more 3 rfl)
  d_BadRow_init := c.y.d.def_ 0 rfl
  d_NoDeed_init := c.y.d.def_ 1 rfl
  d_law_pot := c.y.d.def_ 2 rfl
  d_law_mixed := c.y.d.def_ 3 rfl
  d_law_take := c.y.d.def_ 4 rfl
  d_law_name_at := c.y.d.def_ 5 rfl
  d_law_large := c.y.d.def_ 6 rfl
  d_law_name := c.y.d.def_ 7 rfl
  d_parts_of := c.y.d.def_ 8 rfl
  d_read_deed := c.y.d.def_ 9 rfl
  d_deed_row := c.y.d.def_ 10 rfl
  d_law_row := c.y.d.def_ 11 rfl
  d_law_read := c.y.d.def_ 12 rfl
  d_law_refused_by_base := c.y.d.def_ 13 rfl
  d_law_written := c.y.d.def_ 14 rfl
  d_law_due := c.y.d.def_ 15 rfl
  d_law_deed := c.y.d.def_ 16 rfl
  d_law_spoiled := c.y.d.def_ 17 rfl
  d_law := c.y.d.def_ 18 rfl
  tb_DEEDS := ⟨c.tab 0 rfl, all_at c.y.more 1 rfl⟩
local macro_rules | `(tactic| walk_at "lk") => `(tactic| simp only [List.lookup_cons, List.lookup_nil, List.map_cons, List.map_nil, List.map_append, List.cons_append, List.nil_append, List.append_nil, ofS_beq, beq_self_eq_true, VL.putA, ofS_eq, if_true, if_false, String.reduceEq, String.reduceBEq])
local macro_rules | `(tactic| walk_at "mem") => `(tactic| first | with_reducible exact List.mem_cons_self | with_reducible exact List.mem_cons_of_mem _ List.mem_cons_self | with_reducible exact List.mem_cons_of_mem _ (List.mem_cons_of_mem _ List.mem_cons_self) | with_reducible exact List.mem_cons_of_mem _ (List.mem_cons_of_mem _ (List.mem_cons_of_mem _ List.mem_cons_self)))
local macro_rules | `(tactic| walk_at "sd") => `(tactic| first
  | with_reducible rfl | with_reducible assumption | (with_reducible refine (?_ : (_ : Int) ≤ _); omega) | (with_reducible refine (?_ : (_ : Int) < _); omega) | exact trivial | (with_reducible refine (?_ : PyData.strOk _ = true); decide +kernel) | decide | rfl | assumption | omega | (change (_ : Nat) ≤ _; omega) | walk_at "mem" | exact VL.all_fl _ | (walk_at "lk"; done) | (walk_at "lk"; decide) | (walk_at "lk"; simp only [List.length_cons, List.length_nil]; decide)
  | (simp only [List.length_cons, List.length_nil, List.length_map, List.length_append]; omega)
  | (refine ⟨?_, ?_⟩ <;> (first | assumption | decide | omega)) | exact ⟨by decide, by decide, by decide⟩)
local macro_rules | `(tactic| walk_at "br") => `(tactic| first | with_reducible rfl | decide | assumption | rfl)
local macro_rules | `(tactic| walk_at "g1") => `(tactic| (conv => whnf); (first
  | (with_reducible refine OnS.lk (by walk_at "lk"; exact rfl) ?_)
  | refine OnS.hit rfl ?_
  | refine Br.T (by walk_at "br") ?_
  | refine Br.F (by walk_at "br") ?_
  | refine And.intro (by walk_at "sd") ?_))
local macro_rules | `(tactic| walk_at "go") => `(tactic| (repeat walk_at "g1"); (conv => whnf))
local macro_rules | `(tactic| walk_at "cls") => `(tactic| first
  | (refine Or.inl ?_; (conv => whnf); refine OnS.hit rfl ?_; refine And.intro (by with_reducible rfl) ?_)
  | (refine Or.inr ?_; (conv => whnf); refine OnS.hit rfl ?_; refine And.intro (by with_reducible rfl) ?_)
  | ((conv => whnf); refine OnS.hit rfl ?_; refine And.intro (by with_reducible rfl) ?_))
local macro_rules | `(tactic| walk_at "st") => `(tactic| first | rfl | (show [Ob.ins _ _] = [Ob.ins _ _]; walk_at "lk"; done) | (show [Ob.ins _ _] = [Ob.ins _ _]; walk_at "lk"; rfl))
local macro_rules | `(tactic| walk_at "ups") => `(tactic| first | exact inferInstance | exact VL.upTry (fun W X' => inferInstance) (fun a cls d => inferInstance) | exact VL.upTryO (fun W X' => inferInstance) (fun a cls d => inferInstance) | ((with_reducible apply VL.upCut) <;> walk_at "ups") | (apply VL.upFor <;> walk_at "ups") | (apply VL.upIfS <;> walk_at "ups") | (apply VL.upSeq <;> walk_at "ups"))
local macro_rules | `(tactic| walk_at "sz") => `(tactic| first
  | exact le_size (by simp only [List.length_cons, List.length_nil]; omega)
  | exact le_size (by omega)
  | (refine le_size ?_; simp only [List.length_cons, List.length_nil, List.length_append, List.length_map] <;> omega))
local macro_rules | `(tactic| walk_at "v") => `(tactic| first
  | with_reducible refine rd_v0 ?_ | with_reducible refine rd_v1 ?_ | with_reducible refine rd_v2 ?_ | with_reducible refine rd_v3 ?_ | with_reducible refine rd_v4 ?_ | with_reducible refine rd_v5 ?_ | with_reducible refine rd_v6 ?_ | with_reducible refine rd_v7 ?_
  | with_reducible refine rd_v8 ?_ | with_reducible refine rd_v9 ?_ | with_reducible refine rd_v10 ?_ | with_reducible refine rd_v11 ?_ | with_reducible refine rd_v12 ?_ | with_reducible refine rd_v13 ?_ | with_reducible refine rd_v14 ?_ | with_reducible refine rd_v15 ?_ | with_reducible refine rd_v16 ?_ | with_reducible refine rd_v17 ?_ | with_reducible refine rd_v18 ?_ | with_reducible refine rd_v19 ?_ | with_reducible refine rd_v20 ?_ | with_reducible refine rd_v21 ?_ | with_reducible refine rd_v22 ?_ | with_reducible refine rd_v23 ?_)
local macro_rules | `(tactic| walk_at "g") => `(tactic| first
  | with_reducible refine rd_g0 ?_ | with_reducible refine rd_g1 ?_ | with_reducible refine rd_g2 ?_ | with_reducible refine rd_g3 ?_ | with_reducible refine rd_g4 ?_ | with_reducible refine rd_g5 ?_ | with_reducible refine rd_g6 ?_ | with_reducible refine rd_g7 ?_
  | with_reducible refine rd_g8 ?_ | with_reducible refine rd_g9 ?_ | with_reducible refine rd_g10 ?_ | with_reducible refine rd_g11 ?_ | with_reducible refine rd_g12 ?_ | with_reducible refine rd_g13 ?_ | with_reducible refine rd_g14 ?_ | with_reducible refine rd_g15 ?_ | with_reducible refine rd_g16 ?_ | with_reducible refine rd_g17 ?_ | with_reducible refine rd_g18 ?_ | with_reducible refine rd_g19 ?_ | with_reducible refine rd_g20 ?_ | with_reducible refine rd_g21 ?_ | with_reducible refine rd_g22 ?_ | with_reducible refine rd_g23 ?_)
local macro_rules | `(tactic| walk_at "r1") => `(tactic| first
  | with_reducible refine rd_op ?_ | with_reducible refine rd_c ?_ | (with_reducible show tVar _ _ _ _; walk_at "v") | (with_reducible show gName _ _ _ _ _; walk_at "g")
  | with_reducible refine rd_seq ?_ | with_reducible refine rd_asg ?_ | with_reducible refine rd_ret ?_ | with_reducible refine rd_retN ?_ | with_reducible refine rd_drop ?_ | with_reducible refine rd_ifS ?_ | with_reducible refine rd_nxt ?_
  | with_reducible refine rd_cb ?_ | with_reducible refine rd_cons ?_ | with_reducible refine rd_nil ?_ | with_reducible refine rd_tup ?_ | with_reducible refine rd_lst ?_
  | with_reducible refine rd_test ?_ | with_reducible refine rd_tb ?_ | with_reducible refine rd_or ?_ | with_reducible refine rd_and ?_ | with_reducible refine rd_not ?_ | with_reducible refine rd_yes ?_ | with_reducible refine rd_chain ?_
  | with_reducible refine rd_orV ?_ | with_reducible refine rd_andV ?_ | with_reducible refine rd_notV ?_ | with_reducible refine rd_if ?_ | with_reducible refine rd_un ?_
  | with_reducible refine rd_bl ?_ | with_reducible refine rd_intE ?_ | with_reducible refine rd_strE ?_ | with_reducible refine rd_I0 ?_ | with_reducible refine rd_addI ?_ | with_reducible refine rd_inS ?_ | with_reducible refine rd_ninS ?_
  | with_reducible refine rd_call ?_ | with_reducible refine rd_callS ?_ | with_reducible refine rd_fld ?_ | with_reducible refine rd_sl ?_ | with_reducible refine rd_part ?_ | with_reducible refine rd_nopart ?_ | with_reducible refine rd_m1 ?_ | with_reducible refine rd_lc ?_ | with_reducible refine rd_umeth ?_ | with_reducible refine rd_meth ?_ | with_reducible refine rd_mkO ?_ | with_reducible refine rd_make ?_ | with_reducible refine rd_xfd ?_ | with_reducible refine rd_makeS ?_ | with_reducible refine rd_callP ?_ | with_reducible refine rd_bm ?_ | with_reducible refine rd_revL ?_ | with_reducible refine rd_ost ?_ | with_reducible refine rd_sfld ?_ | with_reducible refine rd_enT ?_ | with_reducible refine rd_gstore ?_ | with_reducible refine rd_abs ?_ | with_reducible refine rd_rng1 ?_ | with_reducible refine rd_for ?_
  | with_reducible refine rd_gnil ?_ | with_reducible refine rd_gcons ?_ | with_reducible refine rd_gsub ?_ | with_reducible refine rd_iseq ?_ | with_reducible refine rd_dnew ?_ | with_reducible refine rd_din ?_ | with_reducible refine rd_dnin ?_ | with_reducible refine rd_dput ?_ | with_reducible refine rd_itS ?_
  | with_reducible refine rd_intI ?_ | with_reducible refine rd_intB ?_ | with_reducible refine iteT ?_ | with_reducible refine iteF ?_ | with_reducible refine iteNT ?_ | with_reducible refine iteNF ?_
  | ((with_reducible refine rd_lenS ?h ?_); (case h => walk_at "sz"))
  | ((with_reducible refine rd_conj ?h ?_); (case h => first | walk_at "sz" | rfl)))
local macro_rules | `(tactic| walk_at "rd") => `(tactic| repeat walk_at "r1")

section
variable {P : Program} {w : World} {K : PySem.W.Frag} {mg : Str → Option Value} {base : Heap}
/-! ### names -/
def lets : List Nat := ("abcdefghijklmnopqrstuvwxyz" : Str).cps.toList
def figs : List Nat := ("0123456789" : Str).cps.toList
def hdOk (cs : List Nat) : Bool := match cs with
  | [] => false
  | c :: r => decide ((c :: r).length ≤ 12) && decide (c ∈ lets)
def signOk (d : Nat) : Bool := decide (d ∈ lets) || decide (d ∈ figs)
def isNameL (cs : List Nat) : Bool := hdOk cs && cs.all signOk
def isName (t : Str) : Bool := isNameL t.cps.toList

abbrev sp_BadRow_init (K : PySem.W.Frag) : Sp := spX1 (He.ga K "BadRow") "row"
theorem ok_BadRow_init (T : Txt w K mg) : OkD P w K mg base 1 (He.ma K (He.ga K "BadRow") "__init__") ["self", "row"] (sp_BadRow_init K) := by
  refine OkD.of T.d_BadRow_init sc_BadRow_init (fun _ _ _ _ _ _ us hl => match us, hl with | [_, _], _ => rfl) (fun vs H Q E h => ?_) (fun cdv A outer s H vs Q E hr h => ?_)
  · obtain ⟨a, n, rfl, ha, k⟩ := h
    rfl
  · obtain ⟨a, n, rfl, ha, k⟩ := h
    refine ⟨_, (pss_one (ps_ost (pv 0) (pv 1))), ?_⟩
    refine rd_start (σ' := [some _, some _]) rfl ?_
    walk_at "rd"
    exact ost1 T.x_BadRow.ox T.n_BadRow_row ha k
theorem okH_BadRow_init (T : Txt w K mg) : OkH P w K mg base 1 (He.ma K (He.ga K "BadRow") "__init__") ["self", "row"] (sp_BadRow_init K) := by
  refine OkH.of T.d_BadRow_init sc_BadRow_init (fun _ _ _ _ _ _ us hl => match us, hl with | [_, _], _ => rfl) (fun vs H Q E h => ?_) (fun cdv A outer s H vs Q E p hot hr h => ?_)
  · obtain ⟨a, n, rfl, ha, k⟩ := h
    rfl
  · obtain ⟨a, n, rfl, ha, k⟩ := h
    refine ⟨_, (pss_one (ps_ost (pv 0) (pv 1))), ?_⟩
    refine rd_start (σ' := [some _, some _]) rfl ?_
    walk_at "rd"
    exact ost1 T.x_BadRow.ox T.n_BadRow_row ha k

abbrev sp_NoDeed_init (K : PySem.W.Frag) : Sp := spX1 (He.ga K "NoDeed") "word"
theorem ok_NoDeed_init (T : Txt w K mg) : OkD P w K mg base 1 (He.ma K (He.ga K "NoDeed") "__init__") ["self", "word"] (sp_NoDeed_init K) := by
  refine OkD.of T.d_NoDeed_init sc_NoDeed_init (fun _ _ _ _ _ _ us hl => match us, hl with | [_, _], _ => rfl) (fun vs H Q E h => ?_) (fun cdv A outer s H vs Q E hr h => ?_)
  · obtain ⟨a, n, rfl, ha, k⟩ := h
    rfl
  · obtain ⟨a, n, rfl, ha, k⟩ := h
    refine ⟨_, (pss_one (ps_ost (pv 0) (pv 1))), ?_⟩
    refine rd_start (σ' := [some _, some _]) rfl ?_
    walk_at "rd"
    exact ost1 T.x_NoDeed.ox T.n_NoDeed_word ha k
theorem okH_NoDeed_init (T : Txt w K mg) : OkH P w K mg base 1 (He.ma K (He.ga K "NoDeed") "__init__") ["self", "word"] (sp_NoDeed_init K) := by
  refine OkH.of T.d_NoDeed_init sc_NoDeed_init (fun _ _ _ _ _ _ us hl => match us, hl with | [_, _], _ => rfl) (fun vs H Q E h => ?_) (fun cdv A outer s H vs Q E p hot hr h => ?_)
  · obtain ⟨a, n, rfl, ha, k⟩ := h
    rfl
  · obtain ⟨a, n, rfl, ha, k⟩ := h
    refine ⟨_, (pss_one (ps_ost (pv 0) (pv 1))), ?_⟩
    refine rd_start (σ' := [some _, some _]) rfl ?_
    walk_at "rd"
    exact ost1 T.x_NoDeed.ox T.n_NoDeed_word ha k
/-! ### drawn names -/
abbrev lf : List Nat := ("abcdefghijklmnopqrstuvwxyz0123456789" : Str).cps.toList
theorem lf_eq : lf = lets ++ figs := by decide +kernel
theorem sign_lf (d : Nat) : decide (d ∈ lf) = signOk d := by rw [lf_eq]; unfold signOk; rw [Bool.eq_iff_iff]; simp
theorem app_list (a b : Str) : (a ++ b).cps.toList = a.cps.toList ++ b.cps.toList := Array.toList_append
theorem app_len (a b : Str) : (a ++ b).length = a.length + b.length := Array.size_append
theorem str_ext {a b : Str} (h : a.cps.toList = b.cps.toList) : a = b := by
  obtain ⟨⟨x⟩⟩ := a
  obtain ⟨⟨y⟩⟩ := b
  cases (show x = y from h)
  rfl
theorem isName_iff (t : Str) : isName t = true ↔ (∃ c ∈ lets, ∃ r, t.cps.toList = c :: r) ∧ t.length ≤ 12 ∧ ∀ d ∈ t.cps.toList, signOk d = true := by
  have hl := str_len t
  unfold isName isNameL
  rw [Bool.and_eq_true, List.all_eq_true]
  cases e : t.cps.toList with
  | nil => exact ⟨fun h => absurd h.1 (by decide), fun h => by obtain ⟨⟨c, _, r, h⟩, _⟩ := h; cases h⟩
  | cons c r =>
    rw [e] at hl
    show (decide ((c :: r).length ≤ 12) && decide (c ∈ lets)) = true ∧ _ ↔ _
    rw [Bool.and_eq_true, decide_eq_true_eq, decide_eq_true_eq, ← hl]
    constructor
    · rintro ⟨⟨a, b⟩, d⟩; exact ⟨⟨c, b, r, rfl⟩, a, d⟩
    · rintro ⟨⟨c', b, r', e'⟩, a, d⟩; cases e'; exact ⟨⟨a, b⟩, d⟩
theorem isName_app {a b : Str} (h : isName a = true) (hb : ∀ d ∈ b.cps.toList, signOk d = true) (hl : a.length + b.length ≤ 12) : isName (a ++ b) = true := by
  obtain ⟨⟨c, hc, r, e⟩, _, h3⟩ := (isName_iff a).mp h
  refine (isName_iff _).mpr ⟨⟨c, hc, r ++ b.cps.toList, by rw [app_list, e]; rfl⟩, by rw [app_len]; exact hl, fun d hd => ?_⟩
  rw [app_list, List.mem_append] at hd
  exact hd.elim (h3 d) (hb d)
def figsOf (s : Str) : Bool := s.cps.toList.all fun c => decide (c ∈ figs)
def decS (s : Str) : Nat := s.cps.toList.foldl (fun a c => a * 10 + (c - 48)) 0
abbrev numS (n : Nat) : Str := (toString (n : Int) : String)
theorem num_small : ∀ n < 100, figsOf (numS n) = true ∧ decS (numS n) = n ∧ (numS n).length ≤ 2 ∧ 0 < (numS n).length := by decide +kernel
theorem figs_sign {s : Str} (h : figsOf s = true) : ∀ d ∈ s.cps.toList, signOk d = true := fun d hd => by
  have := List.all_eq_true.mp h d hd
  unfold signOk
  rw [this, Bool.or_true]
theorem nodup_le : ∀ {l m : List Str}, l.Nodup → (∀ x ∈ l, x ∈ m) → l.length ≤ m.length
  | [], _, _, _ => Nat.zero_le _
  | x :: l, m, nd, h => by
    obtain ⟨hx, nd⟩ := List.nodup_cons.mp nd
    have hm := h x List.mem_cons_self
    have := nodup_le (l := l) (m := m.erase x) nd fun y hy => (List.mem_erase_of_ne fun e => by subst e; exact hx hy).mpr (h y (List.mem_cons_of_mem _ hy))
    rw [List.length_erase_of_mem hm] at this
    have h0 : 0 < m.length := List.length_pos_of_mem hm
    rw [List.length_cons]
    omega
theorem log_ok {i : Int} (h0 : 0 ≤ i) (h : i < 1000000) : i.natAbs.log2 < 1920 := by
  by_cases z : i.natAbs = 0
  · rw [z]; decide
  · exact Nat.lt_of_lt_of_le ((Nat.log2_lt z).mpr (show i.natAbs < 2 ^ 20 by omega)) (by decide)
theorem one_name {c : Nat} (h : c ∈ lets) : isName ⟨#[c]⟩ = true := (isName_iff _).mpr ⟨⟨c, h, [], rfl⟩, show 1 ≤ 12 by decide, fun d hd => by
  rw [List.mem_singleton.mp (show d ∈ [c] from hd)]
  unfold signOk
  rw [decide_eq_true h, Bool.true_or]⟩

/-! ### draws out of a pot -/
def sL (xs : List Str) : List D := xs.map .str
theorem sL_len (xs : List Str) : (sL xs).length = xs.length := List.length_map ..
/-- the item at a drawn place of a list -/
theorem on_ix {l : List D} {i m : Int} {P : D → Prop} (h0 : 0 ≤ i) (h1 : i < m) (e : m = l.length) (k : ∀ v ∈ l, P v) : OnS (atI l i) P := by
  obtain ⟨v, hv, hm⟩ := at_lt h0 (by rw [← e]; exact h1)
  exact .hit hv (k v hm)
/-- the text at a drawn place of a written list -/
theorem on_all {l : List D} {i m : Int} {p : Str → Bool} {P : D → Prop} (h0 : 0 ≤ i) (h1 : i < m) (h : (decide (m = l.length) && l.all fun x => match x with
  | .str z => p z
  | _ => false) = true) (k : ∀ z, p z = true → P (.str z)) : OnS (atI l i) P := by
  obtain ⟨e, h⟩ := Bool.and_eq_true_iff.mp h
  obtain ⟨v, hv, hm⟩ := at_lt h0 (by rw [← of_decide_eq_true e]; exact h1)
  have := List.all_eq_true.mp h v hm
  cases v <;> first | exact .hit hv (k _ this) | cases this
theorem eql_nil {l : List D} : (if true = true then !D.eqv (.lst l) (.lst []) else D.eqv (.lst l) (.lst [])) = !l.isEmpty := by
  cases l with
  | nil => rw [if_pos rfl, (eqv_pl rfl rfl).mpr rfl]; rfl
  | cons x r => simp [D.eqv, toPy, toPyL, PyData.eqv, PyData.eqvAll]
theorem eqi {i j : Int} : (if false = true then !D.eqv (.int i) (.int j) else D.eqv (.int i) (.int j)) = decide (i = j) := by
  rw [if_neg (by decide), Bool.eq_iff_iff, eqv_pl rfl rfl, decide_eq_true_eq]
  exact ⟨fun h => D.int.inj h, fun h => by rw [h]⟩
theorem abs_list (l : List Int) : l.filterMap (fun c => if decide (10 ^ Int.toNat 18 ≤ (if c < 0 then -c else c)) = true then some (D.int (if c < 0 then -c else c)) else none) = ((l.map fun c => if c < 0 then -c else c).filter fun c => decide (10 ^ Int.toNat 18 ≤ c)).map .int := by
  induction l with
  | nil => rfl
  | cons c l ih =>
    rw [List.filterMap_cons, List.map_cons, List.filter_cons]
    by_cases e : decide (10 ^ Int.toNat 18 ≤ (if c < 0 then -c else c)) = true
    · rw [if_pos e, if_pos e]
      show _ :: _ = _ :: _
      rw [ih]
    · rw [if_neg e, if_neg e]
      exact ih
theorem abs_nn (l : List Int) : ∀ b ∈ ((l.map fun c => if c < 0 then -c else c).filter fun c => decide (10 ^ Int.toNat 18 ≤ c)), 0 ≤ b := fun b hb => by
  obtain ⟨c, _, rfl⟩ := List.mem_map.mp (List.mem_filter.mp hb).1
  split <;> omega
abbrev iL (xs : List Int) : List D := xs.map .int
theorem ints_ed {k : Nat} (xs : List Int) : EdL k (iL xs) := EdL_map fun a _ => by cases k <;> simp only [Ed]
theorem at0c (b : Int) (r : List Int) : L2.atI (iL (b :: r)) 0 = some (.int b) := by
  unfold L2.atI
  rw [ixN_lt (by decide) (by rw [List.length_map, List.length_cons]; omega)]
  rfl
/-- a pot: what is left of great numbers, the number of the draw, all numbers -/
abbrev potS (bs : List Int) (z : Int) (cells : List Int) : Sto := [.lst (iL bs), .lsR [.ref 0, .d (.int z), .d (.lst (iL cells))]]
structure PotOk (n : Nat) (bs : List Int) (z : Int) (cells : List Int) : Prop where
  nn : ∀ b ∈ bs, 0 ≤ b
  z0 : 0 ≤ z
  z1 : z ≤ n
  c0 : cells ≠ []
theorem PotOk.mono {n m : Nat} {bs : List Int} {z : Int} {cells : List Int} (h : PotOk n bs z cells) (e : n ≤ m) : PotOk m bs z cells := ⟨h.nn, h.z0, by have := h.z1; omega, h.c0⟩
end

section
variable {P : Program} {w : World} {K : PySem.W.Frag} {mg : Str → Option Value} {base : Heap}

def sp_law_pot (K : PySem.W.Frag) : SpD := fun ds S Q Xd => ∃ ns : List Int, ds = [.d (.scr (ns.map .int))] ∧ S = [] ∧ ns.length ≤ 63 ∧ ∀ bs cells, PotOk 0 bs 0 cells → Q (.ref 1) (potS bs 0 cells)
theorem ok_law_pot (T : Txt w K mg) : OkD P w K mg base 1 (He.ga K "_law_pot") ["_law_script"] (toSp K (sp_law_pot K)) := by
  refine OkD.ofD T.d_law_pot sc_law_pot (fun _ _ _ _ _ _ us hl => match us, hl with | [_], _ => rfl) (fun ds S Q Xd h => ?_) (fun cdv A outer s H E hr n0 Xd => ⟨_, _, (pss_cons (ps_set (i := 1) sc_law_pot.nd rfl (by first | exact Or.inl rfl | exact Or.inr rfl) (pe_callTy (kList (K := K) rfl) (by rfl) T.z_list (by decide +kernel) (pa_cons (pe_slice (kSl (K := K) rfl) (pv 0) po_none (po_some pe_int)) pa_nil))) (pss_cons (ps_if (pt_cmpR (kEq (K := K) rfl hr.units) (pv 1) (pe_lst pa_nil) (nomark _)) (pss_one (ps_set (i := 1) sc_law_pot.nd rfl (by first | exact Or.inl rfl | exact Or.inr rfl) (pe_lst (pa_cons pe_int pa_nil)))) pss_nil) (pss_one (ps_ret (pe_owR (pe_lst (pa_cons (pe_lcO (pe_lc (own := [("_law_cell", 2)]) rfl sc_law_pot.nd (kSeq (K := K) rfl (pv 1)) (blkOk_by (N := N_law_pot) (sc := defScope s_law_pot) (by decide +kernel)) (fun _ _ _ _ _ => (pg_name (i := 2) sc_law_pot.nd rfl (by first | exact Or.inl rfl | exact Or.inr rfl))) (fun _ _ _ _ _ => (pts_one (pt_cmpR op_ge (pe_callB call_abs (by rfl) T.z_abs (by decide +kernel) (pa_cons (pv 2) pa_nil)) (pe_op op_pow pe_int pe_int) (nomark _)))) (fun _ _ _ _ _ => (pe_callB call_abs (by rfl) T.z_abs (by decide +kernel) (pa_cons (pv 2) pa_nil))))) (pa_cons pe_int (pa_cons (pv 1) pa_nil))))))))), inferInstance, fun ds S Q hn h => ?_⟩)
  · obtain ⟨ns, rfl, rfl, hl, k⟩ := h
    rfl
  · obtain ⟨ns, rfl, rfl, hl, k⟩ := h
    subst hn
    obtain ⟨l, el⟩ := cutD_map D.int ns none (some 63)
    have hll : l.length ≤ 63 := by
      have := congrArg List.length el
      rw [List.length_map] at this
      unfold VL.cutD at this
      rw [List.length_take, List.length_drop, List.length_map] at this
      omega
    walk_at "go"
    rw [el]
    refine ⟨by show EdL 59 _; exact ints_ed l, by simp only [Ed, EdL], ?_⟩
    cases l with
    | nil =>
      refine Br.T (by exact (eqv_pl rfl rfl).mpr rfl) ?_
      walk_at "go"
      refine LcP.of (l := [0]) (enc := D.int) (fun c => if decide (10 ^ Int.toNat 18 ≤ (if c < 0 then -c else c)) = true then some (.int (if c < 0 then -c else c)) else none) rfl (by decide) trivial (fun c hc P hP => ?_) ?_
      · walk_at "go"
        refine ⟨fun h1 => ?_, fun h1 => ?_⟩
        · rw [if_pos h1] at hP
          walk_at "go"
          exact hP
        · rw [if_neg (by rw [h1]; decide)] at hP
          exact hP
      rw [abs_list]
      walk_at "go"
      exact .now (k _ [0] ⟨abs_nn [0], by decide, by decide, by decide⟩)
    | cons c0 l =>
      refine Br.F (by rw [if_neg (by decide)]; rfl) ?_
      walk_at "go"
      refine LcP.of (l := c0 :: l) (enc := D.int) (fun c => if decide (10 ^ Int.toNat 18 ≤ (if c < 0 then -c else c)) = true then some (.int (if c < 0 then -c else c)) else none) rfl (by omega) trivial (fun c hc P hP => ?_) ?_
      · walk_at "go"
        refine ⟨fun h1 => ?_, fun h1 => ?_⟩
        · rw [if_pos h1] at hP
          walk_at "go"
          exact hP
        · rw [if_neg (by rw [h1]; decide)] at hP
          exact hP
      rw [abs_list]
      walk_at "go"
      exact .now (k _ (c0 :: l) ⟨abs_nn (c0 :: l), by decide, by decide, nofun⟩)
end

section
variable {P : Program} {w : World} {K : PySem.W.Frag} {mg : Str → Option Value} {base : Heap}

def sp_law_mixed (K : PySem.W.Frag) : SpD := fun ds S Q Xd => ∃ c z : Int, ds = [.d (.int c), .d (.int z)] ∧ S = [] ∧ 0 ≤ z ∧ z ≤ 1000000000 ∧ ∀ d : Int, Q (.d (.int d)) []
theorem ok_law_mixed (T : Txt w K mg) : OkD P w K mg base 1 (He.ga K "_law_mixed") ["_law_cell", "_law_k"] (toSp K (sp_law_mixed K)) := by
  refine OkD.ofD T.d_law_mixed sc_law_mixed (fun _ _ _ _ _ _ us hl => match us, hl with | [_, _], _ => rfl) (fun ds S Q Xd h => ?_) (fun cdv A outer s H E hr n0 Xd => ⟨_, _, (pss_cons (ps_set (i := 2) sc_law_mixed.nd rfl (by first | exact Or.inl rfl | exact Or.inr rfl) (pe_op op_mod (pe_op op_mulU (pe_op (kAdd (K := K) rfl) (pv 0) pe_int) (pe_op (kAdd (K := K) rfl) (pe_op op_mulU (pv 1) (pv 1)) pe_int)) pe_int)) (pss_cons (ps_set (i := 2) sc_law_mixed.nd rfl (by first | exact Or.inl rfl | exact Or.inr rfl) (pe_op op_mod (pe_op op_pow (pe_op (kAdd (K := K) rfl) (pe_op (kAdd (K := K) rfl) (pv 2) (pe_op op_mulU pe_int (pv 1))) pe_int) pe_int) pe_int)) (pss_cons (ps_set (i := 2) sc_law_mixed.nd rfl (by first | exact Or.inl rfl | exact Or.inr rfl) (pe_op op_mod (pe_op op_mulU (pv 2) (pe_op (kAdd (K := K) rfl) (pe_op (kAdd (K := K) rfl) (pe_op op_fdiv (pv 2) pe_int) pe_int) (pe_op op_mulU pe_int (pv 1)))) pe_int)) (pss_one (ps_ret (pe_op op_mod (pe_op op_mulU (pv 2) (pe_op (kAdd (K := K) rfl) (pe_op op_fdiv (pv 2) pe_int) pe_int)) pe_int)))))), inferInstance, fun ds S Q hn h => ?_⟩)
  · obtain ⟨c, z, rfl, rfl, h0, h1, k⟩ := h
    rfl
  · obtain ⟨c, z, rfl, rfl, h0, h1, k⟩ := h
    subst hn
    have hz2 : 0 ≤ z * z := Int.mul_nonneg h0 h0
    have hz3 : z * z ≤ 1000000000 * 1000000000 := Int.mul_le_mul h1 h1 h0 (by decide)
    walk_at "go"
    refine ⟨.inr (.inl ⟨by omega, by omega⟩), ?_⟩
    walk_at "go"
    refine ⟨.inr (.inr ⟨by omega, by omega⟩), ?_⟩
    walk_at "go"
    have a0 : 0 ≤ (c + 1) * (z * z + 48271) % 2147483647 := Int.emod_nonneg _ (by decide)
    have a1 : (c + 1) * (z * z + 48271) % 2147483647 < 2147483647 := Int.emod_lt_of_pos _ (by decide)
    refine ⟨.inr (.inl ⟨by omega, by omega⟩), ?_⟩
    walk_at "go"
    refine ⟨.inr (.inl ⟨by decide, by decide⟩), ?_⟩
    walk_at "go"
    refine ⟨.inr (.inl ⟨Int.lt_of_lt_of_le (by decide) (Int.emod_nonneg _ (by decide)), Int.lt_trans (Int.emod_lt_of_pos _ (by decide)) (show (2147483399 : Int) < _ by decide)⟩), ?_⟩
    walk_at "go"
    refine ⟨.inr (.inl ⟨Int.lt_of_lt_of_le (by decide) (Int.emod_nonneg _ (by decide)), Int.lt_trans (Int.emod_lt_of_pos _ (by decide)) (show (2147483647 : Int) < _ by decide)⟩), ?_⟩
    walk_at "go"
    exact .now (k _)
end

section
variable {P : Program} {w : World} {K : PySem.W.Frag} {mg : Str → Option Value} {base : Heap}

def sp_law_take (K : PySem.W.Frag) : SpD := fun ds S Q Xd => ∃ (n : Nat) (bs : List Int) (z : Int) (cells : List Int) (m : Int), ds = [.ref 1, .d (.int m)] ∧ S = potS bs z cells ∧ PotOk n bs z cells ∧ n ≤ 900000000 ∧ 0 < m ∧ m < 1000000 ∧ ∀ bs' z' d, PotOk (n + 1) bs' z' cells → 0 ≤ d → d < m → Q (.d (.int d)) (potS bs' z' cells)
theorem ok_law_take (T : Txt w K mg) : OkD P w K mg base 2 (He.ga K "_law_take") ["_law_pot_here", "_law_many"] (toSp K (sp_law_take K)) := by
  have G_law_mixed := ok_law_mixed (P := P) (w := w) (base := base) T
  refine OkD.ofD T.d_law_take sc_law_take (fun _ _ _ _ _ _ us hl => match us, hl with | [_, _], _ => rfl) (fun ds S Q Xd h => ?_) (fun cdv A outer s H E hr n0 Xd => ⟨_, _, (pss_cons (ps_while (passes_of rfl) (PW.pt (pw_and (pt_cmpR (kNe (K := K) rfl hr.units) (pe_ix (kIx (K := K) rfl) (pv 0) pe_int (fun _ _ => rfl)) (pe_lst pa_nil) (nomark _)) (pw_and1 (pt_cmpR (kEq (K := K) rfl hr.units) (pe_ix (kIx (K := K) rfl) (pe_ix (kIx (K := K) rfl) (pv 0) pe_int (fun _ _ => rfl)) pe_int (fun _ _ => rfl)) pe_int (nomark _))))) (pss_one (ps_expr (kBM (K := K) rfl (pe_bm PySem.F.plainAttrs_list PySem.F.slot_list_pop PySem.F.type_list_pop mt_popAt (pe_ix (kIx (K := K) rfl) (pv 0) pe_int (fun _ _ => rfl)) (pa_cons pe_int pa_nil)))))) (pss_cons (ps_if (pt_cmpR (kNe (K := K) rfl hr.units) (pe_ix (kIx (K := K) rfl) (pv 0) pe_int (fun _ _ => rfl)) (pe_lst pa_nil) (nomark _)) (pss_cons (ps_set (i := 2) sc_law_take.nd rfl (by first | exact Or.inl rfl | exact Or.inr rfl) (pe_op op_mod (pe_ix (kIx (K := K) rfl) (pe_ix (kIx (K := K) rfl) (pv 0) pe_int (fun _ _ => rfl)) pe_int (fun _ _ => rfl)) (pv 1))) (pss_cons (ps_asg (pe_op op_fdiv (pe_ix (kIx (K := K) rfl) (pe_ix (kIx (K := K) rfl) (pv 0) pe_int (fun _ _ => rfl)) pe_int (fun _ _ => rfl)) (pv 1)) (pg_sub (pe_ix (kIx (K := K) rfl) (pv 0) pe_int (fun _ _ => rfl)) pe_int set_list)) (pss_one (ps_ret (pv 2))))) pss_nil) (pss_cons (ps_asg (pe_op (kAdd (K := K) rfl) (pe_ix (kIx (K := K) rfl) (pv 0) pe_int (fun _ _ => rfl)) pe_int) (pg_sub (pv 0) pe_int set_list)) (pss_one (ps_ret (pe_op op_mod (pe_fn G_law_mixed (hr.mono (by decide)) rfl T.g_law_mixed (HK.passes_call (HK.takes_of rfl rfl rfl rfl) (fun _ _ _ _ h => h)) (pa_cons (pe_ix (kIx (K := K) rfl) (pe_ix (kIx (K := K) rfl) (pv 0) pe_int (fun _ _ => rfl)) (pe_op op_mod (pe_ix (kIx (K := K) rfl) (pv 0) pe_int (fun _ _ => rfl)) (pe_callB (kLen (K := K) rfl) (by rfl) T.z_len (by decide +kernel) (pa_cons (pe_ix (kIx (K := K) rfl) (pv 0) pe_int (fun _ _ => rfl)) pa_nil))) (fun _ _ => rfl)) (pa_cons (pe_ix (kIx (K := K) rfl) (pv 0) pe_int (fun _ _ => rfl)) pa_nil))) (pv 1))))))), inferInstance, fun ds S Q hn h => ?_⟩)
  · obtain ⟨n, bs, z, cells, m, rfl, rfl, hp, hnn, hm0, hm1, k⟩ := h
    rfl
  · obtain ⟨n, bs, z, cells, m, rfl, rfl, hp, hnn, hm0, hm1, k⟩ := h
    subst hn
    walk_at "go"
    refine ⟨⟨fun t ρ S => ∃ bs', t = bs'.length ∧ (∀ b ∈ bs', 0 ≤ b) ∧ S = potS bs' z cells ∧ ρ = [some (.ref 1), some (.d (.int m)), none], ⟨_, bs, rfl, hp.nn, rfl, rfl⟩, ?_⟩⟩
    rintro t ρ S ⟨bs', rfl, hbs, rfl, rfl⟩
    walk_at "go"
    refine ⟨by show EdL 59 _; exact ints_ed bs', by simp only [Ed, EdL], ?_⟩
    rw [eql_nil]
    cases bs' with
    | nil =>
      walk_at "go"
      have hcl : (iL cells).length = cells.length := List.length_map _
      have hc0 : 0 < cells.length := List.length_pos_iff.mpr hp.c0
      have z0 := hp.z0
      have z1 := hp.z1
      refine ⟨by show 0 < ((iL cells).length : Int); omega, ?_⟩
      walk_at "go"
      refine on_ix (Int.emod_nonneg _ (by omega)) (Int.emod_lt_of_pos _ (by omega)) rfl fun v hv => ?_
      obtain ⟨c, _, rfl⟩ := List.mem_map.mp hv
      walk_at "go"
      refine CallP.s0 rfl ⟨c, z + 1, rfl, rfl, by omega, by omega, fun e => ⟨.d (.int e), potS [] (z + 1) cells, rfl, rfl, ?_⟩⟩
      walk_at "go"
      exact .now (k [] (z + 1) _ ⟨nofun, by omega, by omega, hp.c0⟩ (Int.emod_nonneg _ (by omega)) (Int.emod_lt_of_pos _ hm0))
    | cons b bs' =>
      walk_at "go"
      refine .hit (at0c b bs') ?_
      walk_at "go"
      rw [eqi]
      refine ⟨fun h1 => ?_, fun h1 => ?_⟩
      · walk_at "go"
        refine .hit (ixN_lt (by decide) (by rw [List.length_map, List.length_cons]; omega)) ?_
        walk_at "go"
        exact .now ⟨bs'.length, by rw [List.length_cons]; omega, bs', rfl, fun x hx => hbs x (List.mem_cons_of_mem _ hx), rfl, rfl⟩
      · walk_at "go"
        refine ⟨by show EdL 59 _; exact ints_ed (b :: bs'), by simp only [Ed, EdL], ?_⟩
        rw [eql_nil]
        walk_at "go"
        refine .hit (at0c b bs') ?_
        walk_at "go"
        refine .hit (at0c b bs') ?_
        walk_at "go"
        refine .hit (ixN_lt (by decide) (by rw [List.length_map, List.length_cons]; omega)) ?_
        walk_at "go"
        have hb := hbs b List.mem_cons_self
        refine .now (k ((b / m) :: bs') z _ ⟨fun x hx => ?_, hp.z0, by have := hp.z1; omega, hp.c0⟩ (Int.emod_nonneg _ (by omega)) (Int.emod_lt_of_pos _ hm0))
        rcases List.mem_cons.mp hx with rfl | hx
        · exact Int.ediv_nonneg hb (by omega)
        · exact hbs x (List.mem_cons_of_mem _ hx)
end

section
variable {P : Program} {w : World} {K : PySem.W.Frag} {mg : Str → Option Value} {base : Heap}
/-! ### names by their numbers -/
def pw (k : Nat) : Int := 26 * 36 ^ k
def tl12 : Nat → Int
  | 0 => 0
  | k + 1 => pw (11 - k) + tl12 k
theorem pw_all : ∀ k < 12, tl12 (12 - k) = pw k + tl12 (12 - (k + 1)) ∧ pw (k + 1) = pw k * 36 ∧ 0 < pw k := by decide +kernel
theorem sign_at {i : Int} (h0 : 0 ≤ i) (h1 : i < 36) : ∃ c, L2.atI ("abcdefghijklmnopqrstuvwxyz0123456789" : Str).cps.toList i = some c ∧ signOk c = true := by
  have h : ∀ n < 36, (match L2.atI ("abcdefghijklmnopqrstuvwxyz0123456789" : Str).cps.toList ((n : Nat) : Int) with | some c => signOk c | none => false) = true := by decide +kernel
  have := h i.toNat (by omega)
  rw [show ((i.toNat : Nat) : Int) = i by omega] at this
  cases e : L2.atI ("abcdefghijklmnopqrstuvwxyz0123456789" : Str).cps.toList i with
  | none => rw [e] at this; cases this
  | some c => rw [e] at this; exact ⟨c, rfl, this⟩
theorem let_at {i : Int} (h0 : 0 ≤ i) (h1 : i < 26) : ∃ c, L2.atI ("abcdefghijklmnopqrstuvwxyz" : Str).cps.toList i = some c ∧ c ∈ lets := by
  have h : ∀ n < 26, (match L2.atI ("abcdefghijklmnopqrstuvwxyz" : Str).cps.toList ((n : Nat) : Int) with | some c => decide (c ∈ lets) | none => false) = true := by decide +kernel
  have := h i.toNat (by omega)
  rw [show ((i.toNat : Nat) : Int) = i by omega] at this
  cases e : L2.atI ("abcdefghijklmnopqrstuvwxyz" : Str).cps.toList i with
  | none => rw [e] at this; cases this
  | some c => rw [e] at this; exact ⟨c, rfl, of_decide_eq_true this⟩
end

section
variable {P : Program} {w : World} {K : PySem.W.Frag} {mg : Str → Option Value} {base : Heap}

def sp_law_name_at (K : PySem.W.Frag) : SpD := fun ds S Q Xd => ∃ i : Int, ds = [.d (.int i)] ∧ S = [] ∧ 0 ≤ i ∧ i < tl12 12 ∧ ∀ z, isName z = true → Q (.d (.str z)) []
theorem ok_law_name_at (T : Txt w K mg) : OkD P w K mg base 1 (He.ga K "_law_name_at") ["_law_index"] (toSp K (sp_law_name_at K)) := by
  refine OkD.ofD T.d_law_name_at sc_law_name_at (fun _ _ _ _ _ _ us hl => match us, hl with | [_], _ => rfl) (fun ds S Q Xd h => ?_) (fun cdv A outer s H E hr n0 Xd => ⟨_, _, (pss_cons (ps_set (i := 1) sc_law_name_at.nd rfl (by first | exact Or.inl rfl | exact Or.inr rfl) pe_int) (pss_cons (ps_set (i := 2) sc_law_name_at.nd rfl (by first | exact Or.inl rfl | exact Or.inr rfl) pe_int) (pss_cons (ps_while (passes_of rfl) (pt_cmpR op_ge (pv 0) (pv 2) (nomark _)) (pss_cons (ps_set (i := 0) sc_law_name_at.nd rfl (by first | exact Or.inl rfl | exact Or.inr rfl) (pe_op op_sub (pv 0) (pv 2))) (pss_cons (ps_set (i := 2) sc_law_name_at.nd rfl (by first | exact Or.inl rfl | exact Or.inr rfl) (pe_op op_mulU (pv 2) pe_int)) (pss_one (ps_set (i := 1) sc_law_name_at.nd rfl (by first | exact Or.inl rfl | exact Or.inr rfl) (pe_op (kAdd (K := K) rfl) (pv 1) pe_int)))))) (pss_cons (ps_set (i := 3) sc_law_name_at.nd rfl (by first | exact Or.inl rfl | exact Or.inr rfl) pe_str) (pss_cons (ps_for (passes_of rfl) rfl (pi_range1 rfl T.z_range (pa_cons (pv 1) pa_nil)) (pg_name (i := 4) sc_law_name_at.nd rfl (by first | exact Or.inl rfl | exact Or.inr rfl)) (pss_cons (ps_set (i := 3) sc_law_name_at.nd rfl (by first | exact Or.inl rfl | exact Or.inr rfl) (pe_op (kAdd (K := K) rfl) (pe_ix (kIx (K := K) rfl) pe_str (pe_op op_mod (pv 0) pe_int) (fun _ _ => rfl)) (pv 3))) (pss_one (ps_set (i := 0) sc_law_name_at.nd rfl (by first | exact Or.inl rfl | exact Or.inr rfl) (pe_op op_fdiv (pv 0) pe_int))))) (pss_one (ps_ret (pe_op (kAdd (K := K) rfl) (pe_ix (kIx (K := K) rfl) pe_str (pv 0) (fun _ _ => rfl)) (pv 3))))))))), inferInstance, fun ds S Q hn h => ?_⟩)
  · obtain ⟨i, rfl, rfl, h0, h1, k⟩ := h
    rfl
  · obtain ⟨i, rfl, rfl, h0, h1, k⟩ := h
    subst hn
    walk_at "go"
    refine ⟨⟨fun t ρ S => ∃ (j : Nat) (x : Int), t + j = 12 ∧ 0 ≤ x ∧ x < tl12 (12 - j) ∧ S = [] ∧ ρ = [some (.d (.int x)), some (.d (.int j)), some (.d (.int (pw j))), none, none], ⟨12, 0, i, rfl, h0, h1, rfl, rfl⟩, ?_⟩⟩
    rintro t ρ S ⟨j, x, htj, hx0, hx1, rfl, rfl⟩
    have hj12 : j < 12 := by
      by_cases z : j < 12
      · exact z
      · have : j = 12 := by omega
        subst this
        have hx1 : x < 0 := hx1
        omega
    obtain ⟨p1, p2, p3⟩ := pw_all j hj12
    walk_at "go"
    refine ⟨fun e => ?_, fun e => ?_⟩
    · have e := of_decide_eq_true e
      walk_at "go"
      refine ⟨.inr (.inr ⟨by decide, by decide⟩), ?_⟩
      walk_at "go"
      exact .now ⟨t - 1, by omega, j + 1, x - pw j, by omega, by omega, by omega, rfl, by rw [p2]; rfl⟩
    · have e := of_decide_eq_false e
      walk_at "go"
      refine ForP.eq (ys := (List.range j).map fun i : Nat => D.int (0 + (i : Int))) rfl ?_
      refine ForP.of (l := List.range j) (enc := fun i : Nat => D.int (0 + (i : Int))) (fun i ρ S => ∃ (y : Int) (w : Str) (v4 : Option VL.A), 0 ≤ y ∧ y < pw (j - i) ∧ w.length = i ∧ (∀ d ∈ w.cps.toList, signOk d = true) ∧ S = [] ∧ ρ = [some (.d (.int y)), some (.d (.int j)), some (.d (.int (pw j))), some (.d (.str w)), v4]) ⟨x, "", _, hx0, by show x < pw j; omega, rfl, nofun, rfl, rfl⟩ ?_ ?_
      · rintro i c ρ S hx hm ht ⟨y, w, v4, hy0, hy1, hwl, hws, rfl, rfl⟩
        obtain ⟨rfl, hi⟩ := range_at hx
        obtain ⟨q1, q2, q3⟩ := pw_all (j - c - 1) (by omega)
        rw [show j - c - 1 + 1 = j - c by omega] at q2
        refine ⟨trivial, ?_⟩
        walk_at "go"
        obtain ⟨sg, hs1, hs2⟩ := sign_at (i := y % 36) (by omega) (by omega)
        refine .hit hs1 ?_
        walk_at "go"
        refine ⟨by show 1 + w.length ≤ 1000000; omega, ?_⟩
        walk_at "go"
        refine .now ⟨y / 36, _, _, by omega, by rw [show j - (c + 1) = j - c - 1 by omega]; omega, by rw [app_len]; show 1 + w.length = _; omega, fun d hd => ?_, rfl, rfl⟩
        rw [app_list] at hd
        rcases List.mem_append.mp hd with hd | hd
        · rw [List.mem_singleton.mp (show d ∈ [sg] from hd)]; exact hs2
        · exact hws d hd
      rintro ρ S ⟨y, w, v4, hy0, hy1, hwl, hws, rfl, rfl⟩
      rw [List.length_range] at hwl hy1
      rw [Nat.sub_self] at hy1
      refine ⟨trivial, ?_⟩
      walk_at "go"
      obtain ⟨lt, hl1, hl2⟩ := let_at hy0 (show y < 26 from hy1)
      refine .hit hl1 ?_
      walk_at "go"
      refine ⟨by show 1 + w.length ≤ 1000000; omega, ?_⟩
      walk_at "go"
      exact .now (k _ (isName_app (one_name hl2) hws (by show 1 + w.length ≤ 12; omega)))
end

section
variable {P : Program} {w : World} {K : PySem.W.Frag} {mg : Str → Option Value} {base : Heap}

def sp_law_large (K : PySem.W.Frag) : SpD := fun ds S Q Xd => ∃ (n : Nat) (bs : List Int) (z : Int) (cells : List Int) (m : Int), ds = [.ref 1, .d (.int m)] ∧ S = potS bs z cells ∧ PotOk n bs z cells ∧ n ≤ 800000000 ∧ 0 < m ∧ ∀ bs' z' d, PotOk (n + 7) bs' z' cells → 0 ≤ d → d < m → Q (.d (.int d)) (potS bs' z' cells)
theorem ok_law_large (T : Txt w K mg) : OkD P w K mg base 3 (He.ga K "_law_large") ["_law_pot_here", "_law_many"] (toSp K (sp_law_large K)) := by
  have G_law_take := ok_law_take (P := P) (w := w) (base := base) T
  refine OkD.ofD T.d_law_large sc_law_large (fun _ _ _ _ _ _ us hl => match us, hl with | [_, _], _ => rfl) (fun ds S Q Xd h => ?_) (fun cdv A outer s H E hr n0 Xd => ⟨_, _, (pss_cons (ps_set (i := 2) sc_law_large.nd rfl (by first | exact Or.inl rfl | exact Or.inr rfl) pe_int) (pss_cons (ps_for (passes_of rfl) rfl (pi_range1 rfl T.z_range (pa_cons pe_int pa_nil)) (pg_name (i := 3) sc_law_large.nd rfl (by first | exact Or.inl rfl | exact Or.inr rfl)) (pss_one (ps_set (i := 2) sc_law_large.nd rfl (by first | exact Or.inl rfl | exact Or.inr rfl) (pe_op (kAdd (K := K) rfl) (pe_op op_mulU (pv 2) pe_int) (pe_fn G_law_take (hr.mono (by decide)) rfl T.g_law_take (HK.passes_call (HK.takes_of rfl rfl rfl rfl) (fun _ _ _ _ h => h)) (pa_cons (pv 0) (pa_cons pe_int pa_nil))))))) (pss_one (ps_ret (pe_op op_mod (pv 2) (pv 1)))))), inferInstance, fun ds S Q hn h => ?_⟩)
  · obtain ⟨n, bs, z, cells, m, rfl, rfl, hp, hnn, hm0, k⟩ := h
    rfl
  · obtain ⟨n, bs, z, cells, m, rfl, rfl, hp, hnn, hm0, k⟩ := h
    subst hn
    walk_at "go"
    refine ForP.eq (ys := (List.range 7).map fun i : Nat => D.int (0 + (i : Int))) rfl ?_
    refine ForP.of (l := List.range 7) (enc := fun i : Nat => D.int (0 + (i : Int))) (fun i ρ S => ∃ bs' z' x v3, PotOk (n + i) bs' z' cells ∧ 0 ≤ x ∧ S = potS bs' z' cells ∧ ρ = [some (.ref 1), some (.d (.int m)), some (.d (.int x)), v3]) ⟨bs, z, 0, _, hp, by decide, rfl, rfl⟩ ?_ ?_
    · rintro i c ρ S hx hm ht ⟨bs', z', x, v3, hp', hx0, rfl, rfl⟩
      obtain ⟨rfl, hi⟩ := range_at hx
      refine ⟨trivial, ?_⟩
      walk_at "go"
      refine ⟨.inr (.inr ⟨by decide, by decide⟩), ?_⟩
      walk_at "go"
      refine CallP.s2 0 1 (by decide) rfl rfl rfl ⟨_, _, _, cells, 1000, rfl, rfl, hp', by omega, by decide, by decide, fun bs1 z1 d1 hp1 d10 d11 => ⟨.d (.int d1), potS bs1 z1 cells, rfl, rfl, ?_⟩⟩
      walk_at "go"
      exact .now ⟨bs1, z1, _, _, hp1.mono (by omega), by omega, rfl, rfl⟩
    rintro ρ S ⟨bs', z', x, v3, hp', hx0, rfl, rfl⟩
    rw [List.length_range] at hp'
    refine ⟨trivial, ?_⟩
    walk_at "go"
    exact .now (k _ _ _ hp' (Int.emod_nonneg _ (by omega)) (Int.emod_lt_of_pos _ hm0))
end

section
variable {P : Program} {w : World} {K : PySem.W.Frag} {mg : Str → Option Value} {base : Heap}

def sp_law_name (K : PySem.W.Frag) : SpD := fun ds S Q Xd => ∃ (n : Nat) (bs : List Int) (z : Int) (cells : List Int), ds = [.ref 1, .d (.lst [])] ∧ S = potS bs z cells ∧ PotOk n bs z cells ∧ n ≤ 700000000 ∧ ∀ bs' z' w, PotOk (n + 20) bs' z' cells → isName w = true → Q (.d (.str w)) (potS bs' z' cells)
theorem ok_law_name (T : Txt w K mg) : OkD P w K mg base 4 (He.ga K "_law_name") ["_law_pot_here", "_law_taken"] (toSp K (sp_law_name K)) := by
  have G_law_name_at := ok_law_name_at (P := P) (w := w) (base := base) T
  have G_law_large := ok_law_large (P := P) (w := w) (base := base) T
  have G_law_take := ok_law_take (P := P) (w := w) (base := base) T
  refine OkD.ofD T.d_law_name sc_law_name (fun _ _ _ _ _ _ us hl => match us, hl with | [_, _], _ => rfl) (fun ds S Q Xd h => ?_) (fun cdv A outer s H E hr n0 Xd => ⟨_, _, (pss_cons (ps_set (i := 2) sc_law_name.nd rfl (by first | exact Or.inl rfl | exact Or.inr rfl) (pe_fn G_law_take (hr.mono (by decide)) rfl T.g_law_take (HK.passes_call (HK.takes_of rfl rfl rfl rfl) (fun _ _ _ _ h => h)) (pa_cons (pv 0) (pa_cons pe_int pa_nil)))) (pss_cons (ps_if (pt_cmpR (kEq (K := K) rfl hr.units) (pv 2) pe_int (nomark _)) (pss_cons (ps_set (i := 3) sc_law_name.nd rfl (by first | exact Or.inl rfl | exact Or.inr rfl) (pe_op (kAdd (K := K) rfl) pe_int (pe_fn G_law_take (hr.mono (by decide)) rfl T.g_law_take (HK.passes_call (HK.takes_of rfl rfl rfl rfl) (fun _ _ _ _ h => h)) (pa_cons (pv 0) (pa_cons pe_int pa_nil))))) (pss_cons (ps_while (passes_of rfl) (pt_cmpR (kIn (K := K) rfl) (pe_op (kAdd (K := K) rfl) pe_str (pe_callTy call_str_int (by rfl) T.z_str (by decide +kernel) (pa_cons (pv 3) pa_nil))) (pv 1) (by rfl)) (pss_one (ps_set (i := 3) sc_law_name.nd rfl (by first | exact Or.inl rfl | exact Or.inr rfl) (pe_op (kAdd (K := K) rfl) (pv 3) pe_int)))) (pss_one (ps_ret (pe_op (kAdd (K := K) rfl) pe_str (pe_callTy call_str_int (by rfl) T.z_str (by decide +kernel) (pa_cons (pv 3) pa_nil))))))) pss_nil) (pss_cons (ps_set (i := 4) sc_law_name.nd rfl (by first | exact Or.inl rfl | exact Or.inr rfl) (pe_lst (pa_cons pe_str (pa_cons pe_str (pa_cons pe_str (pa_cons pe_str (pa_cons pe_str (pa_cons pe_str (pa_cons pe_str (pa_cons pe_str (pa_cons pe_str (pa_cons pe_str pa_nil)))))))))))) (pss_cons (ps_set (i := 4) sc_law_name.nd rfl (by first | exact Or.inl rfl | exact Or.inr rfl) (pe_op (kAdd (K := K) rfl) (pv 4) (pe_lst (pa_cons pe_str (pa_cons pe_str (pa_cons pe_str (pa_cons pe_str (pa_cons pe_str (pa_cons pe_str pa_nil))))))))) (pss_cons (ps_set (i := 5) sc_law_name.nd rfl (by first | exact Or.inl rfl | exact Or.inr rfl) (pe_ix (kIx (K := K) rfl) (pv 4) (pe_fn G_law_take (hr.mono (by decide)) rfl T.g_law_take (HK.passes_call (HK.takes_of rfl rfl rfl rfl) (fun _ _ _ _ h => h)) (pa_cons (pv 0) (pa_cons pe_int pa_nil))) (fun _ _ => rfl))) (pss_cons (ps_if (PW.pt (pw_and (pt_cmpR (kEq (K := K) rfl hr.units) (pv 2) pe_int (nomark _)) (pw_and1 (pt_cmpR (kNin (K := K) rfl) (pv 5) (pv 1) (by rfl))))) (pss_one (ps_ret (pv 5))) pss_nil) (pss_cons (ps_set (i := 6) sc_law_name.nd rfl (by first | exact Or.inl rfl | exact Or.inr rfl) (pe_fn G_law_take (hr.mono (by decide)) rfl T.g_law_take (HK.passes_call (HK.takes_of rfl rfl rfl rfl) (fun _ _ _ _ h => h)) (pa_cons (pv 0) (pa_cons pe_int pa_nil)))) (pss_cons (ps_if (pt_cmpR (kEq (K := K) rfl hr.units) (pv 2) pe_int (nomark _)) (pss_one (ps_set (i := 6) sc_law_name.nd rfl (by first | exact Or.inl rfl | exact Or.inr rfl) (pe_fn G_law_take (hr.mono (by decide)) rfl T.g_law_take (HK.passes_call (HK.takes_of rfl rfl rfl rfl) (fun _ _ _ _ h => h)) (pa_cons (pv 0) (pa_cons pe_int pa_nil))))) pss_nil) (pss_cons (ps_if (pt_cmpR (kEq (K := K) rfl hr.units) (pv 2) pe_int (nomark _)) (pss_one (ps_set (i := 6) sc_law_name.nd rfl (by first | exact Or.inl rfl | exact Or.inr rfl) (pe_fn G_law_large (hr.mono (by decide)) rfl T.g_law_large (HK.passes_call (HK.takes_of rfl rfl rfl rfl) (fun _ _ _ _ h => h)) (pa_cons (pv 0) (pa_cons (pe_op op_pow pe_int pe_int) pa_nil))))) pss_nil) (pss_cons (ps_if (pt_cmpR (kEq (K := K) rfl hr.units) (pv 2) pe_int (nomark _)) (pss_one (ps_set (i := 6) sc_law_name.nd rfl (by first | exact Or.inl rfl | exact Or.inr rfl) (pe_op (kAdd (K := K) rfl) (pe_op op_fdiv (pe_op op_mulU pe_int (pe_op op_sub (pe_op op_pow pe_int pe_int) pe_int)) pe_int) (pe_fn G_law_large (hr.mono (by decide)) rfl T.g_law_large (HK.passes_call (HK.takes_of rfl rfl rfl rfl) (fun _ _ _ _ h => h)) (pa_cons (pv 0) (pa_cons (pe_op op_sub (pe_op op_mulU pe_int (pe_op op_pow pe_int pe_int)) pe_int) pa_nil)))))) pss_nil) (pss_cons (ps_while (passes_of rfl) (pt_cmpR (kIn (K := K) rfl) (pe_fn G_law_name_at (hr.mono (by decide)) rfl T.g_law_name_at (HK.passes_call (HK.takes_of rfl rfl rfl rfl) (fun _ _ _ _ h => h)) (pa_cons (pv 6) pa_nil)) (pv 1) (by rfl)) (pss_one (ps_set (i := 6) sc_law_name.nd rfl (by first | exact Or.inl rfl | exact Or.inr rfl) (pe_op (kAdd (K := K) rfl) (pv 6) pe_int)))) (pss_one (ps_ret (pe_fn G_law_name_at (hr.mono (by decide)) rfl T.g_law_name_at (HK.passes_call (HK.takes_of rfl rfl rfl rfl) (fun _ _ _ _ h => h)) (pa_cons (pv 6) pa_nil))))))))))))))), inferInstance, fun ds S Q hn h => ?_⟩)
  · obtain ⟨n, bs, z, cells, rfl, rfl, hp, hnn, k⟩ := h
    rfl
  · obtain ⟨n, bs, z, cells, rfl, rfl, hp, hnn, k⟩ := h
    subst hn
    walk_at "go"
    refine CallP.s2 0 1 (by decide) rfl rfl rfl ⟨_, _, _, cells, 7, rfl, rfl, hp, by omega, by decide, by decide, fun bs1 z1 d1 hp1 d10 d11 => ⟨.d (.int d1), potS bs1 z1 cells, rfl, rfl, ?_⟩⟩
    walk_at "go"
    rw [eqi]
    refine ⟨fun e => ?_, fun e => ?_⟩
    · walk_at "go"
      refine CallP.s2 0 1 (by decide) rfl rfl rfl ⟨_, _, _, cells, 5, rfl, rfl, hp1, by omega, by decide, by decide, fun bs2 z2 d2 hp2 d20 d21 => ⟨.d (.int d2), potS bs2 z2 cells, rfl, rfl, ?_⟩⟩
      walk_at "go"
      refine ⟨⟨fun t ρ S => S = potS bs2 z2 cells ∧ ρ = [some (.ref 1), some (.d (.lst [])), some (.d (.int d1)), some (.d (.int (1 + d2))), none, none, none], ⟨0, rfl, rfl⟩, ?_⟩⟩
      rintro t ρ S ⟨rfl, rfl⟩
      have e2 : (toString (1 + d2) : String) = toString (((1 + d2.toNat : Nat)) : Int) := by rw [show (1 : Int) + d2 = ((1 + d2.toNat : Nat) : Int) by omega]
      obtain ⟨n1, n2, n3, n4⟩ := num_small (1 + d2.toNat) (by omega)
      have hlen : (toString (1 + d2) : String) = (toString (((1 + d2.toNat : Nat)) : Int) : String) := e2
      walk_at "go"
      refine ⟨log_ok (by omega) (by omega), ?_⟩
      walk_at "go"
      rw [e2]
      refine ⟨by show 1 + (numS (1 + d2.toNat)).length ≤ 1000000; omega, ?_⟩
      walk_at "go"
      refine ⟨log_ok (by omega) (by omega), ?_⟩
      walk_at "go"
      rw [e2]
      refine ⟨by show 1 + (numS (1 + d2.toNat)).length ≤ 1000000; omega, ?_⟩
      walk_at "go"
      exact .now (k _ _ _ (hp2.mono (by omega)) (isName_app (by decide +kernel) (figs_sign n1) (by show 1 + (numS (1 + d2.toNat)).length ≤ 12; omega)))
    walk_at "go"
    refine CallP.s2 0 1 (by decide) rfl rfl rfl ⟨_, _, _, cells, 16, rfl, rfl, hp1, by omega, by decide, by decide, fun bs2 z2 d2 hp2 d20 d21 => ⟨.d (.int d2), potS bs2 z2 cells, rfl, rfl, ?_⟩⟩
    walk_at "go"
    refine on_all (p := isName) d20 d21 (by rfl) fun w hw => ?_
    walk_at "go"
    rw [eqi]
    refine ⟨fun e1 => ?_, fun e1 => ?_⟩
    · walk_at "go"
      exact .now (k _ _ _ (hp2.mono (by omega)) hw)
    walk_at "go"
    refine CallP.s2 0 1 (by decide) rfl rfl rfl ⟨_, _, _, cells, 26, rfl, rfl, hp2, by omega, by decide, by decide, fun bs3 z3 d3 hp3 d30 d31 => ⟨.d (.int d3), potS bs3 z3 cells, rfl, rfl, ?_⟩⟩
    have hT : tl12 12 = 26 * ((36 : Int) ^ Int.toNat 11 - 1) / 35 + 26 * 36 ^ Int.toNat 11 := by decide +kernel
    have hT2 : (1000000000000 : Int) < tl12 12 := by decide +kernel
    have hT3 : (0 : Int) ≤ 26 * ((36 : Int) ^ Int.toNat 11 - 1) / 35 ∧ (0 : Int) < 26 * 36 ^ Int.toNat 11 - 200 := by decide +kernel
    obtain rfl | rfl | rfl | rfl | rfl : d1 = 2 ∨ d1 = 3 ∨ d1 = 4 ∨ d1 = 5 ∨ d1 = 6 := by
      have e := of_decide_eq_false e
      have : d1 ≠ 1 := fun h => by rw [h] at e1; exact absurd e1 (by decide)
      omega
    · walk_at "go"
      refine CallP.s2 0 1 (by decide) rfl rfl rfl ⟨_, _, _, cells, 962, rfl, rfl, hp3, by omega, by decide, by decide, fun bs4 z4 d4 hp4 d40 d41 => ⟨.d (.int d4), potS bs4 z4 cells, rfl, rfl, ?_⟩⟩
      walk_at "go"
      have hx0 : 0 ≤ d4 := by omega
      have hx1 : d4 < tl12 12 := by omega
      refine ⟨⟨fun t ρ S => S = potS bs4 z4 cells ∧ ∃ a b c d e, ρ = [a, some (.d (.lst [])), b, c, d, e, some (.d (.int d4))], ⟨0, rfl, _, _, _, _, _, rfl⟩, ?_⟩⟩
      rintro t ρ S ⟨rfl, a, b, c, d, e, rfl⟩
      walk_at "go"
      refine CallP.s0 rfl ⟨_, rfl, rfl, hx0, hx1, fun w hw => ⟨.d (.str w), potS bs4 z4 cells, rfl, rfl, ?_⟩⟩
      walk_at "go"
      refine CallP.s0 rfl ⟨_, rfl, rfl, hx0, hx1, fun w hw => ⟨.d (.str w), potS bs4 z4 cells, rfl, rfl, ?_⟩⟩
      walk_at "go"
      exact .now (k _ _ _ (hp4.mono (by omega)) hw)
    · walk_at "go"
      refine CallP.s2 0 1 (by decide) rfl rfl rfl ⟨_, _, _, cells, _, rfl, rfl, hp3, by omega, by decide, fun bs4 z4 d4 hp4 d40 d41 => ⟨.d (.int d4), potS bs4 z4 cells, rfl, rfl, ?_⟩⟩
      have d41 : d4 < 1000000000 := d41
      walk_at "go"
      have hx0 : 0 ≤ d4 := d40
      have hx1 : d4 < tl12 12 := by omega
      refine ⟨⟨fun t ρ S => S = potS bs4 z4 cells ∧ ∃ a b c d e, ρ = [a, some (.d (.lst [])), b, c, d, e, some (.d (.int d4))], ⟨0, rfl, _, _, _, _, _, rfl⟩, ?_⟩⟩
      rintro t ρ S ⟨rfl, a, b, c, d, e, rfl⟩
      walk_at "go"
      refine CallP.s0 rfl ⟨_, rfl, rfl, hx0, hx1, fun w hw => ⟨.d (.str w), potS bs4 z4 cells, rfl, rfl, ?_⟩⟩
      walk_at "go"
      refine CallP.s0 rfl ⟨_, rfl, rfl, hx0, hx1, fun w hw => ⟨.d (.str w), potS bs4 z4 cells, rfl, rfl, ?_⟩⟩
      walk_at "go"
      exact .now (k _ _ _ (hp4.mono (by omega)) hw)
    · walk_at "go"
      refine ⟨.inr (.inl ⟨by decide, by decide⟩), ?_⟩
      walk_at "go"
      refine ⟨.inr (.inl ⟨by decide, by decide⟩), ?_⟩
      walk_at "go"
      refine CallP.s2 0 1 (by decide) rfl rfl rfl ⟨_, _, _, cells, _, rfl, rfl, hp3, by omega, hT3.2, fun bs4 z4 d4 hp4 d40 d41 => ⟨.d (.int d4), potS bs4 z4 cells, rfl, rfl, ?_⟩⟩
      walk_at "go"
      have hx0 : 0 ≤ (26 * ((36 : Int) ^ Int.toNat 11 - 1) / 35 + d4) := by have := hT3.1; omega
      have hx1 : (26 * ((36 : Int) ^ Int.toNat 11 - 1) / 35 + d4) < tl12 12 := by rw [hT]; omega
      refine ⟨⟨fun t ρ S => S = potS bs4 z4 cells ∧ ∃ a b c d e, ρ = [a, some (.d (.lst [])), b, c, d, e, some (.d (.int (26 * ((36 : Int) ^ Int.toNat 11 - 1) / 35 + d4)))], ⟨0, rfl, _, _, _, _, _, rfl⟩, ?_⟩⟩
      rintro t ρ S ⟨rfl, a, b, c, d, e, rfl⟩
      walk_at "go"
      refine CallP.s0 rfl ⟨_, rfl, rfl, hx0, hx1, fun w hw => ⟨.d (.str w), potS bs4 z4 cells, rfl, rfl, ?_⟩⟩
      walk_at "go"
      refine CallP.s0 rfl ⟨_, rfl, rfl, hx0, hx1, fun w hw => ⟨.d (.str w), potS bs4 z4 cells, rfl, rfl, ?_⟩⟩
      walk_at "go"
      exact .now (k _ _ _ (hp4.mono (by omega)) hw)
    · walk_at "go"
      have hx0 : 0 ≤ d3 := d30
      have hx1 : d3 < tl12 12 := by omega
      refine ⟨⟨fun t ρ S => S = potS bs3 z3 cells ∧ ∃ a b c d e, ρ = [a, some (.d (.lst [])), b, c, d, e, some (.d (.int d3))], ⟨0, rfl, _, _, _, _, _, rfl⟩, ?_⟩⟩
      rintro t ρ S ⟨rfl, a, b, c, d, e, rfl⟩
      walk_at "go"
      refine CallP.s0 rfl ⟨_, rfl, rfl, hx0, hx1, fun w hw => ⟨.d (.str w), potS bs3 z3 cells, rfl, rfl, ?_⟩⟩
      walk_at "go"
      refine CallP.s0 rfl ⟨_, rfl, rfl, hx0, hx1, fun w hw => ⟨.d (.str w), potS bs3 z3 cells, rfl, rfl, ?_⟩⟩
      walk_at "go"
      exact .now (k _ _ _ (hp3.mono (by omega)) hw)
    · walk_at "go"
      have hx0 : 0 ≤ d3 := d30
      have hx1 : d3 < tl12 12 := by omega
      refine ⟨⟨fun t ρ S => S = potS bs3 z3 cells ∧ ∃ a b c d e, ρ = [a, some (.d (.lst [])), b, c, d, e, some (.d (.int d3))], ⟨0, rfl, _, _, _, _, _, rfl⟩, ?_⟩⟩
      rintro t ρ S ⟨rfl, a, b, c, d, e, rfl⟩
      walk_at "go"
      refine CallP.s0 rfl ⟨_, rfl, rfl, hx0, hx1, fun w hw => ⟨.d (.str w), potS bs3 z3 cells, rfl, rfl, ?_⟩⟩
      walk_at "go"
      refine CallP.s0 rfl ⟨_, rfl, rfl, hx0, hx1, fun w hw => ⟨.d (.str w), potS bs3 z3 cells, rfl, rfl, ?_⟩⟩
      walk_at "go"
      exact .now (k _ _ _ (hp3.mono (by omega)) hw)
end

section
variable {P : Program} {w : World} {K : PySem.W.Frag} {mg : Str → Option Value} {base : Heap}
/-! ### deeds as rows -/
inductive Dd
  | four (k a b c : Str)
  | doo (a : Str) (ts : List Str)
def Dd.D : Dd → D
  | .four k a b c => .tup [.str k, .str a, .str b, .str c]
  | .doo a ts => .tup [.str "do", .str a, .tup (sL ts)]
def Dd.parts : Dd → List Str
  | .four k a b c => [k, a, b, c]
  | .doo a ts => "do" :: a :: ts
def okS (z : Str) : Bool := decide (z.length ≤ 20) && z.cps.toList.all fun c => decide (c ≠ 32)
def Dd.kind : Dd → Str
  | .four k _ _ _ => k
  | .doo _ _ => "do"
def Dd.ok : Dd → Prop
  | .four k a b c => okS k = true ∧ k ≠ "do" ∧ isName a = true ∧ isName b = true ∧ isName c = true
  | .doo a ts => isName a = true ∧ (∀ t ∈ ts, isName t = true) ∧ ts.length ≤ 5
theorem sign_nb {c : Nat} (h : signOk c = true) : c ≠ 32 := by
  have ha : (lets ++ figs).all (fun d => decide (d ≠ 32)) = true := by decide +kernel
  have hm : c ∈ lets ++ figs := by
    unfold signOk at h
    rw [Bool.or_eq_true, decide_eq_true_eq, decide_eq_true_eq] at h
    exact List.mem_append.mpr h
  exact of_decide_eq_true (List.all_eq_true.mp ha c hm)
theorem name_ok {z : Str} (h : isName z = true) : okS z = true := by
  obtain ⟨_, h2, h3⟩ := (isName_iff z).mp h
  unfold okS
  rw [Bool.and_eq_true, decide_eq_true_eq, List.all_eq_true]
  exact ⟨by omega, fun c hc => decide_eq_true (sign_nb (h3 c hc))⟩
theorem name_ne {z : Str} (h : isName z = true) : z ≠ "" := fun e => by subst e; exact absurd h (by decide +kernel)
theorem Dd.parts_ok {d : Dd} (h : d.ok) : (∀ p ∈ d.parts, okS p = true) ∧ d.parts.length ≤ 7 := by
  cases d with
  | four k a b c =>
    obtain ⟨h1, _, h2, h3, h4⟩ := h
    refine ⟨fun p hp => ?_, by show 4 ≤ 7; decide⟩
    have hp : p = k ∨ p = a ∨ p = b ∨ p = c := by simpa [Dd.parts] using hp
    rcases hp with rfl | rfl | rfl | rfl
    · exact h1
    · exact name_ok h2
    · exact name_ok h3
    · exact name_ok h4
  | doo a ts =>
    obtain ⟨h1, h2, h3⟩ := h
    refine ⟨fun p hp => ?_, by show ts.length + 1 + 1 ≤ 7; omega⟩
    rcases List.mem_cons.mp hp with rfl | hp
    · decide +kernel
    · rcases List.mem_cons.mp hp with rfl | hp
      · exact name_ok h1
      · exact name_ok (h2 p hp)
abbrev bl : Str := " "
def rowOf (ps : List Str) : Str := Str.join bl ps
theorem split_row {ps : List Str} (h : ∀ p ∈ ps, okS p = true) (hne : ps ≠ []) : Txt.split (rowOf ps) bl = ps := by
  unfold rowOf
  rw [← TL.join_eq]
  exact TL.split_join (s := 32) (S := []) (by decide +kernel) (by decide +kernel) hne fun p hp hc => by
    have := h p hp
    unfold okS at this
    rw [Bool.and_eq_true, List.all_eq_true] at this
    exact absurd rfl (of_decide_eq_true (this.2 32 hc))
def prs : List Str → Option D
  | [] => none
  | p :: rest => if p = "do" then (match rest with
      | [] => none
      | a :: ts => some (.tup [.str "do", .str a, .tup (sL ts)]))
    else if (p = "make" ∨ p = "drop") ∧ rest.length = 3 then some (.tup (sL (p :: rest))) else none
theorem prs_n {p : Str} {rest : List Str} (hd : p ≠ "do") : prs (p :: rest) = if (p = "make" ∨ p = "drop") ∧ rest.length = 3 then some (.tup (sL (p :: rest))) else none := by
  show (if p = "do" then _ else _) = _
  rw [if_neg hd]
def readD (r : Str) : Option D := if ("" : Str) ∈ Txt.split r bl then none else prs (Txt.split r bl)
def dueR (r : Str) : D := match readD r with
  | some d => .tup [.str "told", d]
  | none => .tup [.str "badrow", .int 0]
theorem split_cons (r : Str) : ∃ p rest, Txt.split r bl = p :: rest := by
  have := PyProof.Rows.split_pos r bl
  cases e : Txt.split r bl with
  | nil => rw [e] at this; exact absurd this (by decide)
  | cons p rest => exact ⟨p, rest, rfl⟩
theorem read_of {d : Dd} (h : d.ok) (hk : d.kind = "make" ∨ d.kind = "do" ∨ d.kind = "drop") : readD (rowOf d.parts) = some d.D := by
  have hp := (Dd.parts_ok h).1
  cases d with
  | four k a b c =>
    obtain ⟨h1, h0, h2, h3, h4⟩ := h
    have hk : k = "make" ∨ k = "do" ∨ k = "drop" := hk
    have hk : k = "make" ∨ k = "drop" := by rcases hk with e | e | e <;> simp [e] at h0 ⊢
    unfold readD
    rw [split_row hp (by unfold Dd.parts; exact nofun), if_neg]
    · show (if k = "do" then _ else if (k = "make" ∨ k = "drop") ∧ 3 = 3 then some _ else none) = _
      rw [if_neg h0, if_pos ⟨hk, rfl⟩]
      rfl
    · intro hm
      have hm : ("" : Str) = k ∨ "" = a ∨ "" = b ∨ "" = c := by simpa [Dd.parts] using hm
      rcases hm with e | e | e | e
      · rcases hk with q | q <;> rw [q] at e <;> exact absurd e (by decide +kernel)
      · exact name_ne h2 e.symm
      · exact name_ne h3 e.symm
      · exact name_ne h4 e.symm
  | doo a ts =>
    obtain ⟨h1, h2, h3⟩ := h
    unfold readD
    rw [split_row hp (by unfold Dd.parts; exact nofun), if_neg]
    · rfl
    · intro hm
      rcases List.mem_cons.mp hm with e | hm
      · exact absurd e (by decide +kernel)
      · rcases List.mem_cons.mp hm with e | hm
        · exact name_ne h1 e.symm
        · exact name_ne (h2 _ hm) rfl
theorem sum_le {ps : List Str} {n : Nat} (h : ∀ p ∈ ps, p.length ≤ n) : (ps.map (·.length)).sum ≤ ps.length * n := by
  induction ps with
  | nil => simp
  | cons p ps ih =>
    rw [List.map_cons, List.sum_cons, List.length_cons, Nat.succ_mul]
    have := h p List.mem_cons_self
    have := ih fun q hq => h q (List.mem_cons_of_mem _ hq)
    omega
theorem lk3 {k : Str} {a b c : Addr} : (List.lookup k [(("make" : Str), a), ("do", b), ("drop", c)]).isSome = decide (k = "make" ∨ k = "do" ∨ k = "drop") := by
  rw [List.lookup_cons, List.lookup_cons, List.lookup_cons]
  by_cases h1 : k = "make"
  · subst h1; rfl
  · rw [beq_eq_false_iff_ne.mpr h1]
    by_cases h2 : k = "do"
    · subst h2; rfl
    · rw [beq_eq_false_iff_ne.mpr h2]
      by_cases h3 : k = "drop"
      · subst h3; rfl
      · rw [beq_eq_false_iff_ne.mpr h3]
        simp [h1, h2, h3]
theorem eqs_y {a b : Str} (h : a = b) : (if false = true then !D.eqv (.str a) (.str b) else D.eqv (.str a) (.str b)) = true := by rw [if_neg (by decide)]; exact (eqv_pl rfl rfl).mpr (congrArg D.str h)
theorem eqs_n {a b : Str} (h : a ≠ b) : (if false = true then !D.eqv (.str a) (.str b) else D.eqv (.str a) (.str b)) = false := by
  rw [if_neg (by decide), Bool.eq_false_iff]
  intro z
  exact h (D.str.inj ((eqv_pl rfl rfl).mp z))
theorem at0s (p : Str) (r : List Str) : L2.atI (sL (p :: r)) 0 = some (.str p) := by
  unfold L2.atI
  rw [ixN_lt (by decide) (by rw [sL_len, List.length_cons]; omega)]
  rfl
theorem at1s (p a : Str) (r : List Str) : L2.atI (sL (p :: a :: r)) 1 = some (.str a) := by
  unfold L2.atI
  rw [ixN_lt (by decide) (by rw [sL_len, List.length_cons, List.length_cons]; omega)]
  rfl
theorem at2s (p a b : Str) (r : List Str) : L2.atI (sL (p :: a :: b :: r)) 2 = some (.str b) := by
  unfold L2.atI
  rw [ixN_lt (by decide) (by rw [sL_len, List.length_cons, List.length_cons, List.length_cons]; omega)]
  rfl
theorem at3s (p a b c : Str) (r : List Str) : L2.atI (sL (p :: a :: b :: c :: r)) 3 = some (.str c) := by
  unfold L2.atI
  rw [ixN_lt (by decide) (by rw [sL_len, List.length_cons, List.length_cons, List.length_cons, List.length_cons]; omega)]
  rfl
theorem cut2s (p a : Str) (r : List Str) : VL.cutD (sL (p :: a :: r)) (some 2) none = sL r := by
  unfold VL.cutD
  rw [show (some (2 : Int)) = some ((2 : Nat) : Int) from rfl, HT.sIx_nat, HT.sIx_none, Nat.min_eq_left (by rw [sL_len, List.length_cons, List.length_cons]; omega), ← List.length_drop, List.take_length]
  rfl
theorem in_md {p : Str} : (if false = true then !VL.inD (.str p) [.str "make", .str "drop"] else VL.inD (.str p) [.str "make", .str "drop"]) = decide (p = "make" ∨ p = "drop") := by
  rw [if_neg (by decide)]
  have := inD_strs p [("make" : Str), ("drop" : Str)]
  rw [show VL.inD (.str p) [.str "make", .str "drop"] = VL.inD (.str p) ([("make" : Str), ("drop" : Str)].map D.str) from rfl, this]
  rw [Bool.eq_iff_iff, decide_eq_true_eq, decide_eq_true_eq]
  simp
theorem ok_len {z : Str} (h : okS z = true) : z.length ≤ 20 := by
  unfold okS at h
  rw [Bool.and_eq_true] at h
  exact of_decide_eq_true h.1
end

section
variable {P : Program} {w : World} {K : PySem.W.Frag} {mg : Str → Option Value} {base : Heap}

def sp_parts_of (K : PySem.W.Frag) : SpD := fun ds S Q Xd => ∃ (r : Str) (i : Int), ds = [.d (.str r), .d (.int i)] ∧ S = [] ∧ r.length ≤ 100000 ∧ (("" : Str) ∉ Txt.split r bl → Q (.d (.lst (sL (Txt.split r bl)))) []) ∧ (("" : Str) ∈ Txt.split r bl → Xd (He.ga K "BadRow") [("row", .int i)] [])
theorem ok_parts_of (T : Txt w K mg) : OkD P w K mg base 3 (He.ga K "parts_of") ["row", "at"] (toSp K (sp_parts_of K)) := by
  have G_BadRow_init := ok_BadRow_init (P := P) (w := w) (base := base) T
  refine OkD.ofDV T.d_parts_of sc_parts_of (by simp) (fun _ _ _ _ _ _ _ us its hl hl2 => match us, its, hl, hl2 with | [_, _], [_], _, _ => ⟨_, rfl, rfl⟩) (fun ds S Q Xd h => ?_) (fun cdv A outer s H E hr n0 Xd => ⟨_, _, (pss_cons (ps_set (i := 2) sc_parts_of.nd rfl (by first | exact Or.inl rfl | exact Or.inr rfl) (pe_split (pv 0) pe_str)) (pss_cons (ps_if (pt_cmpR (kIn (K := K) rfl) pe_str (pv 2) (by rfl)) (pss_one (ps_raiseD rfl (HK.takes_of rfl rfl rfl rfl) (pmk_ox T.x_BadRow.ox T.x_BadRow.ini T.x_BadRow.fn G_BadRow_init (hr.mono (by decide)) rfl T.g_BadRow (pa_cons (pv 1) pa_nil)))) pss_nil) (pss_one (ps_ret (pv 2))))), inferInstance, fun ds S Q hn h => ?_⟩)
  · obtain ⟨r, i, rfl, rfl, hl, k1, k2⟩ := h
    rfl
  · obtain ⟨r, i, rfl, rfl, hl, k1, k2⟩ := h
    subst hn
    walk_at "go"
    refine ⟨fun h1 => ?_, fun h1 => ?_⟩
    · have h1 : ("" : Str) ∈ Txt.split r bl := in_t h1
      walk_at "go"
      exact .now (k2 h1)
    · have h1 : ("" : Str) ∉ Txt.split r bl := in_f h1
      walk_at "go"
      exact .now (k1 h1)
end

section
variable {P : Program} {w : World} {K : PySem.W.Frag} {mg : Str → Option Value} {base : Heap}

def sp_read_deed (K : PySem.W.Frag) : SpD := fun ds S Q Xd => ∃ (r : Str), ds = [.d (.str r)] ∧ S = [] ∧ r.length ≤ 100000 ∧ (∀ d, readD r = some d → Q (.d d) []) ∧ (readD r = none → Xd (He.ga K "BadRow") [("row", .int 0)] [])
theorem ok_read_deed (T : Txt w K mg) : OkD P w K mg base 4 (He.ga K "read_deed") ["row"] (toSp K (sp_read_deed K)) := by
  have G_BadRow_init := ok_BadRow_init (P := P) (w := w) (base := base) T
  have G_parts_of := ok_parts_of (P := P) (w := w) (base := base) T
  refine OkD.ofD T.d_read_deed sc_read_deed (fun _ _ _ _ _ _ us hl => match us, hl with | [_], _ => rfl) (fun ds S Q Xd h => ?_) (fun cdv A outer s H E hr n0 Xd => ⟨_, _, (pss_cons (ps_set (i := 1) sc_read_deed.nd rfl (by first | exact Or.inl rfl | exact Or.inr rfl) (pe_fnP' (OkD.part' G_parts_of T.d_parts_of 1 0 [.int 0] rfl (by simp) rfl (fun _ _ _ _ _ _ _ us its hl hl2 => match us, its, hl, hl2 with | [_], [_], _, _ => ⟨_, rfl, rfl⟩)) (hr.mono (by decide)) rfl T.g_parts_of (HK.passes_call (HK.takes_of rfl rfl rfl rfl) (fun _ _ _ _ h => h)) (pa_cons (pv 0) pa_nil))) (pss_cons (ps_if (PW.pt (pw_and (pt_cmpR (kEq (K := K) rfl hr.units) (pe_ix (kIx (K := K) rfl) (pv 1) pe_int (fun _ _ => rfl)) pe_str (nomark _)) (pw_and1 (pt_cmpR op_gt (pe_callB (kLen (K := K) rfl) (by rfl) T.z_len (by decide +kernel) (pa_cons (pv 1) pa_nil)) pe_int (nomark _))))) (pss_one (ps_ret (pe_tup (pa_cons pe_str (pa_cons (pe_ix (kIx (K := K) rfl) (pv 1) pe_int (fun _ _ => rfl)) (pa_cons (pe_callTy (kTuple (K := K) rfl) (by rfl) T.z_tuple (by decide +kernel) (pa_cons (pe_slice (kSl (K := K) rfl) (pv 1) (po_some pe_int) po_none) pa_nil)) pa_nil)))))) pss_nil) (pss_cons (ps_if (PW.pt (pw_and (pt_cmpR (kIn (K := K) rfl) (pe_ix (kIx (K := K) rfl) (pv 1) pe_int (fun _ _ => rfl)) (pe_tup (pa_cons pe_str (pa_cons pe_str pa_nil))) (by rfl)) (pw_and1 (pt_cmpR (kEq (K := K) rfl hr.units) (pe_callB (kLen (K := K) rfl) (by rfl) T.z_len (by decide +kernel) (pa_cons (pv 1) pa_nil)) pe_int (nomark _))))) (pss_one (ps_ret (pe_callTy (kTuple (K := K) rfl) (by rfl) T.z_tuple (by decide +kernel) (pa_cons (pv 1) pa_nil)))) pss_nil) (pss_one (ps_raiseD rfl (HK.takes_of rfl rfl rfl rfl) (pmk_ox T.x_BadRow.ox T.x_BadRow.ini T.x_BadRow.fn G_BadRow_init (hr.mono (by decide)) rfl T.g_BadRow (pa_cons pe_int pa_nil))))))), inferInstance, fun ds S Q hn h => ?_⟩)
  · obtain ⟨r, rfl, rfl, hl, k1, k2⟩ := h
    rfl
  · obtain ⟨r, rfl, rfl, hl, k1, k2⟩ := h
    subst hn
    walk_at "go"
    refine CallP.p rfl ⟨r, 0, rfl, rfl, hl, fun e0 => ?_, fun e0 => .now (k2 (by unfold readD; rw [if_pos e0]))⟩
    have e1 : readD r = prs (Txt.split r bl) := by unfold readD; rw [if_neg e0]
    rw [e1] at k1 k2
    obtain ⟨p, rest, ep⟩ := split_cons r
    rw [ep] at k1 k2 ⊢
    walk_at "go"
    refine .hit (at0s p rest) ?_
    walk_at "go"
    by_cases hd : p = "do"
    · refine Br.T (eqs_y hd) ?_
      cases rest with
      | nil =>
        have kk := k2 (by rw [hd]; rfl)
        walk_at "go"
        rw [in_md, decide_eq_false (by rw [hd]; decide +kernel)]
        walk_at "go"
        exact .now kk
      | cons a ts =>
        have kk := k1 _ (by rw [hd]; rfl)
        walk_at "go"
        refine Br.T (by rw [sL_len, List.length_cons, List.length_cons]; exact decide_eq_true (by omega)) ?_
        walk_at "go"
        refine .hit (at1s p a ts) ?_
        walk_at "go"
        rw [cut2s]
        exact .now kk
    · refine Br.F (eqs_n hd) ?_
      walk_at "go"
      refine .hit (at0s p rest) ?_
      walk_at "go"
      rw [in_md]
      by_cases hm : p = "make" ∨ p = "drop"
      · rw [decide_eq_true hm]
        walk_at "go"
        rw [eqi]
        by_cases hl4 : rest.length = 3
        · have kk := k1 _ (show prs (p :: rest) = some _ by rw [prs_n hd, if_pos ⟨hm, hl4⟩])
          refine Br.T (decide_eq_true (by rw [sL_len, List.length_cons, hl4]; rfl)) ?_
          walk_at "go"
          exact .now kk
        · have kk := k2 (show prs (p :: rest) = none by rw [prs_n hd, if_neg fun h => hl4 h.2])
          refine Br.F (decide_eq_false (by rw [sL_len, List.length_cons]; omega)) ?_
          walk_at "go"
          exact .now kk
      · have kk := k2 (show prs (p :: rest) = none by rw [prs_n hd, if_neg fun h => hm h.1])
        rw [decide_eq_false hm]
        walk_at "go"
        exact .now kk
end

section
variable {P : Program} {w : World} {K : PySem.W.Frag} {mg : Str → Option Value} {base : Heap}

def sp_deed_row (K : PySem.W.Frag) : SpD := fun ds S Q Xd => ∃ d : Dd, ds = [.d d.D] ∧ S = [] ∧ d.ok ∧ ((d.kind = "make" ∨ d.kind = "do" ∨ d.kind = "drop") → Q (.d (.str (rowOf d.parts))) []) ∧ (¬ (d.kind = "make" ∨ d.kind = "do" ∨ d.kind = "drop") → Xd (He.ga K "NoDeed") [("word", .str d.kind)] [])
theorem ok_deed_row (T : Txt w K mg) : OkD P w K mg base 3 (He.ga K "deed_row") ["deed"] (toSp K (sp_deed_row K)) := by
  have G_NoDeed_init := ok_NoDeed_init (P := P) (w := w) (base := base) T
  refine OkD.ofD T.d_deed_row sc_deed_row (fun _ _ _ _ _ _ us hl => match us, hl with | [_], _ => rfl) (fun ds S Q Xd h => ?_) (fun cdv A outer s H E hr n0 Xd => ⟨_, _, (pss_cons (ps_if (pt_cmpR (op_notInT T.tb_DEEDS) (pe_ix (kIx (K := K) rfl) (pv 0) pe_int (fun _ _ => rfl)) (pe_gref T.g_DEEDS) (by rfl)) (pss_one (ps_raiseD rfl (HK.takes_of rfl rfl rfl rfl) (pmk_ox T.x_NoDeed.ox T.x_NoDeed.ini T.x_NoDeed.fn G_NoDeed_init (hr.mono (by decide)) rfl T.g_NoDeed (pa_cons (pe_ix (kIx (K := K) rfl) (pv 0) pe_int (fun _ _ => rfl)) pa_nil)))) pss_nil) (pss_cons (ps_if (pt_cmpR (kEq (K := K) rfl hr.units) (pe_ix (kIx (K := K) rfl) (pv 0) pe_int (fun _ _ => rfl)) pe_str (nomark _)) (pss_one (ps_ret (kJoin (K := K) rfl (pe_join pe_str (pe_op (kAdd (K := K) rfl) (pe_lst (pa_cons pe_str (pa_cons (pe_ix (kIx (K := K) rfl) (pv 0) pe_int (fun _ _ => rfl)) pa_nil))) (pe_callTy (kList (K := K) rfl) (by rfl) T.z_list (by decide +kernel) (pa_cons (pe_ix (kIx (K := K) rfl) (pv 0) pe_int (fun _ _ => rfl)) pa_nil))))))) pss_nil) (pss_one (ps_ret (kJoin (K := K) rfl (pe_join pe_str (pv 0))))))), inferInstance, fun ds S Q hn h => ?_⟩)
  · obtain ⟨d, rfl, rfl, hok, k1, k2⟩ := h
    rfl
  · obtain ⟨d, rfl, rfl, hok, k1, k2⟩ := h
    subst hn
    have hpo := Dd.parts_ok hok
    have hsum : (d.parts.map (·.length)).sum + d.parts.length * bl.length ≤ 16777216 := by
      have h1 := sum_le (n := 20) fun p hp => ok_len (hpo.1 p hp)
      have h2 := hpo.2
      have h3 : bl.length = 1 := rfl
      rw [h3]
      omega
    cases d with
    | four kk a b c =>
      walk_at "go"
      rw [lk3]
      by_cases hk : kk = "make" ∨ kk = "do" ∨ kk = "drop"
      · rw [decide_eq_true hk]
        walk_at "go"
        refine Br.F (eqs_n hok.2.1) ?_
        walk_at "go"
        exact .now (k1 hk)
      · rw [decide_eq_false hk]
        walk_at "go"
        exact .now (k2 hk)
    | doo a ts =>
      walk_at "go"
      have hl : (sL ts).length ≤ 5 := by rw [sL_len]; exact hok.2.2
      refine ⟨by show 2 + (sL ts).length ≤ _; omega, ?_⟩
      walk_at "go"
      refine .hit (strsD_map ("do" :: a :: ts)) ?_
      walk_at "go"
      exact .now (k1 (.inr (.inl rfl)))
end

section
variable {P : Program} {w : World} {K : PySem.W.Frag} {mg : Str → Option Value} {base : Heap}

def sp_law_row (K : PySem.W.Frag) : SpD := fun ds S Q Xd => ∃ d : Dd, ds = [.d d.D] ∧ S = [] ∧ d.ok ∧ Q (.d (.str (rowOf d.parts))) []
theorem ok_law_row (T : Txt w K mg) : OkD P w K mg base 1 (He.ga K "_law_row") ["_law_deed_here"] (toSp K (sp_law_row K)) := by
  refine OkD.ofD T.d_law_row sc_law_row (fun _ _ _ _ _ _ us hl => match us, hl with | [_], _ => rfl) (fun ds S Q Xd h => ?_) (fun cdv A outer s H E hr n0 Xd => ⟨_, _, (pss_cons (ps_if (pt_cmpR (kEq (K := K) rfl hr.units) (pe_ix (kIx (K := K) rfl) (pv 0) pe_int (fun _ _ => rfl)) pe_str (nomark _)) (pss_one (ps_ret (kJoin (K := K) rfl (pe_join pe_str (pe_op (kAdd (K := K) rfl) (pe_lst (pa_cons pe_str (pa_cons (pe_ix (kIx (K := K) rfl) (pv 0) pe_int (fun _ _ => rfl)) pa_nil))) (pe_callTy (kList (K := K) rfl) (by rfl) T.z_list (by decide +kernel) (pa_cons (pe_ix (kIx (K := K) rfl) (pv 0) pe_int (fun _ _ => rfl)) pa_nil))))))) pss_nil) (pss_one (ps_ret (kJoin (K := K) rfl (pe_join pe_str (pe_callTy (kList (K := K) rfl) (by rfl) T.z_list (by decide +kernel) (pa_cons (pv 0) pa_nil))))))), inferInstance, fun ds S Q hn h => ?_⟩)
  · obtain ⟨d, rfl, rfl, hok, k⟩ := h
    rfl
  · obtain ⟨d, rfl, rfl, hok, k⟩ := h
    subst hn
    have hpo := Dd.parts_ok hok
    have hsum : (d.parts.map (·.length)).sum + d.parts.length * bl.length ≤ 16777216 := by
      have h1 := sum_le (n := 20) fun p hp => ok_len (hpo.1 p hp)
      have h2 := hpo.2
      have h3 : bl.length = 1 := rfl
      rw [h3]
      omega
    cases d with
    | four kk a b c =>
      walk_at "go"
      refine Br.F (eqs_n hok.2.1) ?_
      walk_at "go"
      exact .now k
    | doo a ts =>
      walk_at "go"
      have hl : (sL ts).length ≤ 5 := by rw [sL_len]; exact hok.2.2
      refine ⟨by show 2 + (sL ts).length ≤ _; omega, ?_⟩
      walk_at "go"
      refine .hit (strsD_map ("do" :: a :: ts)) ?_
      walk_at "go"
      exact .now k
end

section
variable {P : Program} {w : World} {K : PySem.W.Frag} {mg : Str → Option Value} {base : Heap}

def sp_law_read (K : PySem.W.Frag) : SpD := fun ds S Q Xd => ∃ (r : Str), ds = [.d (.str r)] ∧ S = [] ∧ r.length ≤ 100000 ∧ Q (.d (dueR r)) []
theorem ok_law_read (T : Txt w K mg) : OkD P w K mg base 9 (He.ga K "_law_read") ["_law_row_here"] (toSp K (sp_law_read K)) := by
  have G_read_deed := ok_read_deed (P := P) (w := w) (base := base) T
  refine OkD.ofD T.d_law_read sc_law_read (fun _ _ _ _ _ _ us hl => match us, hl with | [_], _ => rfl) (fun ds S Q Xd h => ?_) (fun cdv A outer s H E hr n0 Xd => ⟨_, _, (pss_one (kTryAs (K := K) rfl (ps_try_asD (i := 1) rfl rfl sc_law_read.nd rfl rfl ⟨rfl, by decide, .inl T.g_BadRow⟩ (HK.takes_of rfl rfl rfl rfl) (fun W pn xe tk po => (pss_one (ps_ret (pe_tup (pa_cons pe_str (pa_cons (pe_fnS G_read_deed (hr.mono (by decide)) rfl T.g_read_deed (fun σ => HK.passAt tk σ) (pa_cons (pv 0) pa_nil)) pa_nil)))))) (fun a oe cls d pn hz hf hot => (pss_one (ps_ret (pe_tup (pa_cons pe_str (pa_cons (kXfD (K := K) rfl (pe_xfD hz hf (pv 1))) pa_nil))))))))), (by walk_at "ups"), fun ds S Q hn h => ?_⟩)
  · obtain ⟨r, rfl, rfl, hl, k⟩ := h
    rfl
  · obtain ⟨r, rfl, rfl, hl, k⟩ := h
    subst hn
    walk_at "go"
    refine CallP.p rfl ⟨r, rfl, rfl, hl, fun d e0 => ?_, fun e0 => ?_⟩
    · unfold dueR at k
      rw [e0] at k
      walk_at "go"
      exact .now k
    · unfold dueR at k
      rw [e0] at k
      refine ⟨nofun, .yes T.xm_BadRow_BadRow_true fun a dd => ?_⟩
      walk_at "go"
      refine ⟨⟨T.x_BadRow.xf, T.n_BadRow_row⟩, ?_⟩
      walk_at "go"
      exact .now k
end

section
variable {P : Program} {w : World} {K : PySem.W.Frag} {mg : Str → Option Value} {base : Heap}

def sp_law_refused_by_base (K : PySem.W.Frag) : SpD := fun ds S Q Xd => ∃ (r : Str), ds = [.d (.str r)] ∧ S = [] ∧ r.length ≤ 100000 ∧ readD r = none ∧ Q (.d (.bl true)) []
theorem ok_law_refused_by_base (T : Txt w K mg) : OkD P w K mg base 9 (He.ga K "_law_refused_by_base") ["_law_row_here"] (toSp K (sp_law_refused_by_base K)) := by
  have G_read_deed := ok_read_deed (P := P) (w := w) (base := base) T
  refine OkD.ofD T.d_law_refused_by_base sc_law_refused_by_base (fun _ _ _ _ _ _ us hl => match us, hl with | [_], _ => rfl) (fun ds S Q Xd h => ?_) (fun cdv A outer s H E hr n0 Xd => ⟨_, _, (pss_cons (kTryAs (K := K) rfl (ps_try_asD (i := 1) rfl rfl sc_law_refused_by_base.nd rfl rfl ⟨rfl, by decide, .inl T.g_WhoError⟩ (HK.takes_of rfl rfl rfl rfl) (fun W pn xe tk po => (pss_one (ps_expr (pe_fnS G_read_deed (hr.mono (by decide)) rfl T.g_read_deed (fun σ => HK.passAt tk σ) (pa_cons (pv 0) pa_nil))))) (fun a oe cls d pn hz hf hot => (pss_one (ps_ret (pe_callB (kIsD (K := K) rfl (call_isD hz hf)) (by rfl) T.z_isinstance (by decide +kernel) (pa_cons (pv 1) (pa_cons (pe_bltn (v := .ty "ValueError") (by rfl) T.z_ValueError (by decide +kernel) rfl) pa_nil)))))))) (pss_one (ps_ret pe_bl))), (by walk_at "ups"), fun ds S Q hn h => ?_⟩)
  · obtain ⟨r, rfl, rfl, hl, hno, k⟩ := h
    rfl
  · obtain ⟨r, rfl, rfl, hl, hno, k⟩ := h
    subst hn
    walk_at "go"
    refine CallP.p rfl ⟨r, rfl, rfl, hl, fun d e0 => absurd (hno.symm.trans e0) nofun, fun e0 => ?_⟩
    refine ⟨nofun, .yes T.xm_BadRow_WhoError_true fun a dd => ?_⟩
    walk_at "go"
    refine ⟨T.x_BadRow.ec, ?_⟩
    walk_at "go"
    refine .hit T.kt_BadRow_ValueError_true ?_
    walk_at "go"
    exact .now k
end

section
variable {P : Program} {w : World} {K : PySem.W.Frag} {mg : Str → Option Value} {base : Heap}

def sp_law_written (K : PySem.W.Frag) : SpD := fun ds S Q Xd => ∃ (d : Dd), ds = [.d d.D] ∧ S = [] ∧ d.ok ∧ ((d.kind = "make" ∨ d.kind = "do" ∨ d.kind = "drop") → Q (.d (.tup [.str "told", .str (rowOf d.parts)])) []) ∧ (¬ (d.kind = "make" ∨ d.kind = "do" ∨ d.kind = "drop") → Q (.d (.tup [.str "nodeed", .str d.kind])) [])
theorem ok_law_written (T : Txt w K mg) : OkD P w K mg base 9 (He.ga K "_law_written") ["_law_deed_here"] (toSp K (sp_law_written K)) := by
  have G_deed_row := ok_deed_row (P := P) (w := w) (base := base) T
  refine OkD.ofD T.d_law_written sc_law_written (fun _ _ _ _ _ _ us hl => match us, hl with | [_], _ => rfl) (fun ds S Q Xd h => ?_) (fun cdv A outer s H E hr n0 Xd => ⟨_, _, (pss_one (kTryAs (K := K) rfl (ps_try_asD (i := 1) rfl rfl sc_law_written.nd rfl rfl ⟨rfl, by decide, .inl T.g_NoDeed⟩ (HK.takes_of rfl rfl rfl rfl) (fun W pn xe tk po => (pss_one (ps_ret (pe_tup (pa_cons pe_str (pa_cons (pe_fnS G_deed_row (hr.mono (by decide)) rfl T.g_deed_row (fun σ => HK.passAt tk σ) (pa_cons (pv 0) pa_nil)) pa_nil)))))) (fun a oe cls d pn hz hf hot => (pss_one (ps_ret (pe_tup (pa_cons pe_str (pa_cons (kXfD (K := K) rfl (pe_xfD hz hf (pv 1))) pa_nil))))))))), (by walk_at "ups"), fun ds S Q hn h => ?_⟩)
  · obtain ⟨d, rfl, rfl, hok, k1, k2⟩ := h
    rfl
  · obtain ⟨d, rfl, rfl, hok, k1, k2⟩ := h
    subst hn
    walk_at "go"
    refine CallP.p rfl ⟨d, rfl, rfl, hok, fun e0 => ?_, fun e0 => ?_⟩
    · walk_at "go"
      exact .now (k1 e0)
    · have k := k2 e0
      refine ⟨nofun, .yes T.xm_NoDeed_NoDeed_true fun a dd => ?_⟩
      walk_at "go"
      refine ⟨⟨T.x_NoDeed.xf, T.n_NoDeed_word⟩, ?_⟩
      walk_at "go"
      exact .now k
end

section
variable {P : Program} {w : World} {K : PySem.W.Frag} {mg : Str → Option Value} {base : Heap}

def sp_law_due (K : PySem.W.Frag) : SpD := fun ds S Q Xd => ∃ (r : Str), ds = [.d (.str r)] ∧ S = [] ∧ r.length ≤ 100000 ∧ Q (.d (dueR r)) []
theorem ok_law_due (T : Txt w K mg) : OkD P w K mg base 1 (He.ga K "_law_due") ["_law_row_here"] (toSp K (sp_law_due K)) := by
  refine OkD.ofD T.d_law_due sc_law_due (fun _ _ _ _ _ _ us hl => match us, hl with | [_], _ => rfl) (fun ds S Q Xd h => ?_) (fun cdv A outer s H E hr n0 Xd => ⟨_, _, (pss_cons (ps_set (i := 1) sc_law_due.nd rfl (by first | exact Or.inl rfl | exact Or.inr rfl) (pe_split (pv 0) pe_str)) (pss_cons (ps_if (pt_cmpR (kIn (K := K) rfl) pe_str (pv 1) (by rfl)) (pss_one (ps_ret (pe_tup (pa_cons pe_str (pa_cons pe_int pa_nil))))) pss_nil) (pss_cons (ps_if (PW.pt (pw_and (pt_cmpR (kEq (K := K) rfl hr.units) (pe_ix (kIx (K := K) rfl) (pv 1) pe_int (fun _ _ => rfl)) pe_str (nomark _)) (pw_and1 (pt_cmpR op_gt (pe_callB (kLen (K := K) rfl) (by rfl) T.z_len (by decide +kernel) (pa_cons (pv 1) pa_nil)) pe_int (nomark _))))) (pss_one (ps_ret (pe_tup (pa_cons pe_str (pa_cons (pe_tup (pa_cons pe_str (pa_cons (pe_ix (kIx (K := K) rfl) (pv 1) pe_int (fun _ _ => rfl)) (pa_cons (pe_callTy (kTuple (K := K) rfl) (by rfl) T.z_tuple (by decide +kernel) (pa_cons (pe_slice (kSl (K := K) rfl) (pv 1) (po_some pe_int) po_none) pa_nil)) pa_nil)))) pa_nil))))) pss_nil) (pss_cons (ps_if (PW.pt (pw_and (pt_cmpR (kIn (K := K) rfl) (pe_ix (kIx (K := K) rfl) (pv 1) pe_int (fun _ _ => rfl)) (pe_tup (pa_cons pe_str (pa_cons pe_str pa_nil))) (by rfl)) (pw_and1 (pt_cmpR (kEq (K := K) rfl hr.units) (pe_callB (kLen (K := K) rfl) (by rfl) T.z_len (by decide +kernel) (pa_cons (pv 1) pa_nil)) pe_int (nomark _))))) (pss_one (ps_ret (pe_tup (pa_cons pe_str (pa_cons (pe_tup (pa_cons (pe_ix (kIx (K := K) rfl) (pv 1) pe_int (fun _ _ => rfl)) (pa_cons (pe_ix (kIx (K := K) rfl) (pv 1) pe_int (fun _ _ => rfl)) (pa_cons (pe_ix (kIx (K := K) rfl) (pv 1) pe_int (fun _ _ => rfl)) (pa_cons (pe_ix (kIx (K := K) rfl) (pv 1) pe_int (fun _ _ => rfl)) pa_nil))))) pa_nil))))) pss_nil) (pss_one (ps_ret (pe_tup (pa_cons pe_str (pa_cons pe_int pa_nil))))))))), inferInstance, fun ds S Q hn h => ?_⟩)
  · obtain ⟨r, rfl, rfl, hl, k⟩ := h
    rfl
  · obtain ⟨r, rfl, rfl, hl, k⟩ := h
    subst hn
    have k1 : ∀ d, readD r = some d → Q (.d (.tup [.str "told", d])) [] := fun d e => by unfold dueR at k; rw [e] at k; exact k
    have k2 : readD r = none → Q (.d (.tup [.str "badrow", .int 0])) [] := fun e => by unfold dueR at k; rw [e] at k; exact k
    walk_at "go"
    refine ⟨fun h1 => ?_, fun h1 => ?_⟩
    · have h1 : ("" : Str) ∈ Txt.split r bl := in_t h1
      walk_at "go"
      exact .now (k2 (by unfold readD; rw [if_pos h1]))
    have e0 : ("" : Str) ∉ Txt.split r bl := in_f h1
    have e1 : readD r = prs (Txt.split r bl) := by unfold readD; rw [if_neg e0]
    rw [e1] at k1 k2
    obtain ⟨p, rest, ep⟩ := split_cons r
    walk_at "go"
    rw [show (Txt.split r (Str.ofString " ")).map D.str = sL (p :: rest) from by rw [show Txt.split r (Str.ofString " ") = p :: rest from ep]; rfl]
    rw [ep] at k1 k2
    refine .hit (at0s p rest) ?_
    walk_at "go"
    by_cases hd : p = "do"
    · refine Br.T (eqs_y hd) ?_
      cases rest with
      | nil =>
        have kk := k2 (by rw [hd]; rfl)
        walk_at "go"
        rw [in_md, decide_eq_false (by rw [hd]; decide +kernel)]
        walk_at "go"
        exact .now kk
      | cons a ts =>
        have kk := k1 _ (by rw [hd]; rfl)
        walk_at "go"
        refine Br.T (by rw [sL_len, List.length_cons, List.length_cons]; exact decide_eq_true (by omega)) ?_
        walk_at "go"
        refine .hit (at1s p a ts) ?_
        walk_at "go"
        rw [cut2s]
        walk_at "go"
        exact .now kk
    · refine Br.F (eqs_n hd) ?_
      walk_at "go"
      refine .hit (at0s p rest) ?_
      walk_at "go"
      rw [in_md]
      by_cases hm : p = "make" ∨ p = "drop"
      · rw [decide_eq_true hm]
        walk_at "go"
        rw [eqi]
        by_cases hl4 : rest.length = 3
        · have kk := k1 _ (show prs (p :: rest) = some _ by rw [prs_n hd, if_pos ⟨hm, hl4⟩])
          obtain ⟨a, b, c, rfl⟩ : ∃ a b c, rest = [a, b, c] := by
            match rest, hl4 with
            | [a, b, c], _ => exact ⟨a, b, c, rfl⟩
          refine Br.T (decide_eq_true (by rw [sL_len]; rfl)) ?_
          walk_at "go"
          exact .now kk
        · have kk := k2 (show prs (p :: rest) = none by rw [prs_n hd, if_neg fun h => hl4 h.2])
          refine Br.F (decide_eq_false (by rw [sL_len, List.length_cons]; omega)) ?_
          walk_at "go"
          exact .now kk
      · have kk := k2 (show prs (p :: rest) = none by rw [prs_n hd, if_neg fun h => hm h.1])
        rw [decide_eq_false hm]
        walk_at "go"
        exact .now kk
end

section
variable {P : Program} {w : World} {K : PySem.W.Frag} {mg : Str → Option Value} {base : Heap}

def sp_law_deed (K : PySem.W.Frag) : SpD := fun ds S Q Xd => ∃ (n : Nat) (bs : List Int) (z : Int) (cells : List Int) (kk : Int), ds = [.ref 1, .d (.int kk)] ∧ S = potS bs z cells ∧ PotOk n bs z cells ∧ n ≤ 600000000 ∧ 0 ≤ kk ∧ kk < 6 ∧ ∀ bs' z' (d : Dd), PotOk (n + 300) bs' z' cells → d.ok → Q (.d d.D) (potS bs' z' cells)
theorem ok_law_deed (T : Txt w K mg) : OkD P w K mg base 5 (He.ga K "_law_deed") ["_law_pot_here", "_law_kind"] (toSp K (sp_law_deed K)) := by
  have G_law_take := ok_law_take (P := P) (w := w) (base := base) T
  have G_law_name := ok_law_name (P := P) (w := w) (base := base) T
  refine OkD.ofD T.d_law_deed sc_law_deed (fun _ _ _ _ _ _ us hl => match us, hl with | [_, _], _ => rfl) (fun ds S Q Xd h => ?_) (fun cdv A outer s H E hr n0 Xd => ⟨_, _, (pss_cons (ps_setLc (i := 2) (own := [("_law_k", 4)]) rfl sc_law_deed.nd rfl rfl (sw_true rfl rfl rfl (by decide +kernel)) (pi_range1 rfl T.z_range (pa_cons pe_int pa_nil)) (blkOk_by (N := N_law_deed) (sc := defScope s_law_deed) (by decide +kernel)) (fun _ _ _ _ _ => (pg_name (i := 4) sc_law_deed.nd rfl (by first | exact Or.inl rfl | exact Or.inr rfl))) (fun _ _ _ _ _ => pts_nil) (fun _ _ _ _ _ => (pe_fn G_law_name (hr.mono (by decide)) rfl T.g_law_name HK.passF (pa_cons (pv 0) (pa_cons (pe_lst pa_nil) pa_nil))))) (pss_cons (ps_if (pt_cmpR (kEq (K := K) rfl hr.units) (pv 1) pe_int (nomark _)) (pss_one (ps_ret (pe_tup (pa_cons pe_str (pa_cons (pe_ix (kIx (K := K) rfl) (pv 2) pe_int (fun _ _ => rfl)) (pa_cons (pe_ix (kIx (K := K) rfl) (pv 2) pe_int (fun _ _ => rfl)) (pa_cons (pe_ix (kIx (K := K) rfl) (pv 2) pe_int (fun _ _ => rfl)) pa_nil))))))) pss_nil) (pss_cons (ps_if (pt_cmpR (kEq (K := K) rfl hr.units) (pv 1) pe_int (nomark _)) (pss_one (ps_ret (pe_tup (pa_cons pe_str (pa_cons (pe_ix (kIx (K := K) rfl) (pv 2) pe_int (fun _ _ => rfl)) (pa_cons (pe_ix (kIx (K := K) rfl) (pv 2) pe_int (fun _ _ => rfl)) (pa_cons (pe_ix (kIx (K := K) rfl) (pv 2) pe_int (fun _ _ => rfl)) pa_nil))))))) pss_nil) (pss_cons (ps_if (pt_cmpR op_lt (pv 1) pe_int (nomark _)) (pss_one (ps_ret (pe_tup (pa_cons pe_str (pa_cons (pe_ix (kIx (K := K) rfl) (pv 2) pe_int (fun _ _ => rfl)) (pa_cons (pe_callTy (kTuple (K := K) rfl) (by rfl) T.z_tuple (by decide +kernel) (pa_cons (pe_lc (own := [("_law_k", 4)]) rfl sc_law_deed.nd (pi_range1 rfl T.z_range (pa_cons (pe_fn G_law_take (hr.mono (by decide)) rfl T.g_law_take (HK.passes_call (HK.takes_of rfl rfl rfl rfl) (fun _ _ _ _ h => h)) (pa_cons (pv 0) (pa_cons pe_int pa_nil))) pa_nil)) (blkOk_by (N := N_law_deed) (sc := defScope s_law_deed) (by decide +kernel)) (fun _ _ _ _ _ => (pg_name (i := 4) sc_law_deed.nd rfl (by first | exact Or.inl rfl | exact Or.inr rfl))) (fun _ _ _ _ _ => pts_nil) (fun _ _ _ _ _ => (pe_fn G_law_name (hr.mono (by decide)) rfl T.g_law_name HK.passF (pa_cons (pv 0) (pa_cons (pe_lst pa_nil) pa_nil))))) pa_nil)) pa_nil)))))) pss_nil) (pss_cons (ps_set (i := 3) sc_law_deed.nd rfl (by first | exact Or.inl rfl | exact Or.inr rfl) (pe_lst (pa_cons pe_str (pa_cons pe_str (pa_cons pe_str (pa_cons pe_str (pa_cons pe_str (pa_cons pe_str (pa_cons pe_str (pa_cons (pe_op (kAdd (K := K) rfl) (pe_ix (kIx (K := K) rfl) (pv 2) pe_int (fun _ _ => rfl)) pe_str) pa_nil)))))))))) (pss_one (ps_ret (pe_tup (pa_cons (pe_ix (kIx (K := K) rfl) (pv 3) (pe_fn G_law_take (hr.mono (by decide)) rfl T.g_law_take (HK.passes_call (HK.takes_of rfl rfl rfl rfl) (fun _ _ _ _ h => h)) (pa_cons (pv 0) (pa_cons pe_int pa_nil))) (fun _ _ => rfl)) (pa_cons (pe_ix (kIx (K := K) rfl) (pv 2) pe_int (fun _ _ => rfl)) (pa_cons (pe_ix (kIx (K := K) rfl) (pv 2) pe_int (fun _ _ => rfl)) (pa_cons (pe_ix (kIx (K := K) rfl) (pv 2) pe_int (fun _ _ => rfl)) pa_nil)))))))))))), inferInstance, fun ds S Q hn h => ?_⟩)
  · obtain ⟨n, bs, z, cells, kk, rfl, rfl, hp, hnn, hk0, hk1, k⟩ := h
    rfl
  · obtain ⟨n, bs, z, cells, kk, rfl, rfl, hp, hnn, hk0, hk1, k⟩ := h
    subst hn
    walk_at "go"
    refine LcP.eq (ys := (List.range 3).map fun i : Nat => D.int (0 + (i : Int))) rfl ?_
    refine LcP.inv (l := List.range 3) (enc := fun i : Nat => D.int (0 + (i : Int))) (fun i acc S => ∃ bs' z' ws, PotOk (n + 0 + 20 * i) bs' z' cells ∧ S = potS bs' z' cells ∧ acc = sL ws ∧ ws.length = i ∧ ∀ w ∈ ws, isName w = true) rfl (by rw [List.length_range]; omega) ⟨bs, z, [], hp.mono (by omega), rfl, rfl, rfl, nofun⟩ ?_ ?_
    · rintro i c acc S' hx hm ht ⟨bs', z', ws, hp', rfl, rfl, hwl, hws⟩
      obtain ⟨rfl, hi⟩ := range_at hx
      refine ⟨trivial, ?_⟩
      walk_at "go"
      refine CallP.s2 0 1 (by decide) rfl rfl rfl ⟨_, _, _, cells, rfl, rfl, hp', by omega, fun bs9 z9 w9 hp9 hw9 => ⟨.d (.str w9), potS bs9 z9 cells, rfl, rfl, ?_⟩⟩
      walk_at "go"
      exact .now ⟨bs9, z9, ws ++ [w9], hp9.mono (by omega), rfl, by unfold sL; rw [List.map_append]; rfl, by rw [List.length_append, hwl]; rfl, fun x hx => by
        rcases List.mem_append.mp hx with h | h
        · exact hws x h
        · rw [List.mem_singleton.mp h]; exact hw9⟩
    rintro acc S' ⟨bs1, z1, ws1, hp1, rfl, rfl, hwl1, hws1⟩
    rw [List.length_range] at hwl1 hp1
    refine ⟨trivial, ?_⟩
    walk_at "go"
    obtain ⟨wa, wb, wc, rfl⟩ : ∃ a b c, ws1 = [a, b, c] := by
      match ws1, hwl1 with
      | [a, b, c], _ => exact ⟨a, b, c, rfl⟩
    have ha : isName wa = true := hws1 _ (by simp)
    have hb : isName wb = true := hws1 _ (by simp)
    have hc : isName wc = true := hws1 _ (by simp)
    have hlt : ∀ j : Int, kk < 5 → decide (kk < 5) = true := fun _ h => decide_eq_true h
    obtain rfl | rfl | hkk | rfl : kk = 0 ∨ kk = 1 ∨ (kk = 2 ∨ kk = 3 ∨ kk = 4) ∨ kk = 5 := by omega
    · walk_at "go"
      exact .now (k _ _ (.four "make" wa wb wc) (hp1.mono (by omega)) ⟨by decide +kernel, by decide +kernel, ha, hb, hc⟩)
    · walk_at "go"
      exact .now (k _ _ (.four "drop" wa wb wc) (hp1.mono (by omega)) ⟨by decide +kernel, by decide +kernel, ha, hb, hc⟩)
    · rcases hkk with rfl | rfl | rfl
      all_goals
        walk_at "go"
        refine CallP.s2 0 1 (by decide) rfl rfl rfl ⟨_, _, _, cells, 6, rfl, rfl, hp1, by omega, by decide, by decide, fun bs2 z2 d2 hp2 d20 d21 => ⟨.d (.int d2), potS bs2 z2 cells, rfl, rfl, ?_⟩⟩
        walk_at "go"
        refine LcP.eq (ys := (List.range d2.toNat).map fun i : Nat => D.int (0 + (i : Int))) rfl ?_
        refine LcP.inv (l := List.range d2.toNat) (enc := fun i : Nat => D.int (0 + (i : Int))) (fun i acc S => ∃ bs' z' ws, PotOk (n + 80 + 20 * i) bs' z' cells ∧ S = potS bs' z' cells ∧ acc = sL ws ∧ ws.length = i ∧ ∀ w ∈ ws, isName w = true) rfl (by rw [List.length_range]; omega) ⟨bs2, z2, [], hp2.mono (by omega), rfl, rfl, rfl, nofun⟩ ?_ ?_
        · rintro i c acc S' hx hm ht ⟨bs', z', ws, hp', rfl, rfl, hwl, hws⟩
          obtain ⟨rfl, hi⟩ := range_at hx
          refine ⟨trivial, ?_⟩
          walk_at "go"
          refine CallP.s2 0 1 (by decide) rfl rfl rfl ⟨_, _, _, cells, rfl, rfl, hp', by omega, fun bs9 z9 w9 hp9 hw9 => ⟨.d (.str w9), potS bs9 z9 cells, rfl, rfl, ?_⟩⟩
          walk_at "go"
          exact .now ⟨bs9, z9, ws ++ [w9], hp9.mono (by omega), rfl, by unfold sL; rw [List.map_append]; rfl, by rw [List.length_append, hwl]; rfl, fun x hx => by
            rcases List.mem_append.mp hx with h | h
            · exact hws x h
            · rw [List.mem_singleton.mp h]; exact hw9⟩
        rintro acc S' ⟨bs3, z3, ws3, hp3, rfl, rfl, hwl3, hws3⟩
        rw [List.length_range] at hwl3 hp3
        refine ⟨trivial, ?_⟩
        walk_at "go"
        exact .now (k _ _ (.doo wa ws3) (hp3.mono (by omega)) ⟨ha, hws3, by omega⟩)
    · walk_at "go"
      have hwl : wc.length ≤ 12 := ((isName_iff wc).mp hc).2.1
      refine ⟨by show wc.length + 1 ≤ _; omega, ?_⟩
      walk_at "go"
      refine CallP.s2 0 1 (by decide) rfl rfl rfl ⟨_, _, _, cells, 8, rfl, rfl, hp1, by omega, by decide, by decide, fun bs2 z2 d2 hp2 d20 d21 => ⟨.d (.int d2), potS bs2 z2 cells, rfl, rfl, ?_⟩⟩
      walk_at "go"
      refine on_ix d20 d21 (by rfl) fun v hv => ?_
      obtain ⟨q, rfl, hq, hq2⟩ : ∃ q : Str, v = .str q ∧ okS q = true ∧ q ≠ "do" := by
        simp only [List.mem_cons, List.not_mem_nil, or_false] at hv
        rcases hv with rfl | rfl | rfl | rfl | rfl | rfl | rfl | rfl
        iterate 7 exact ⟨_, rfl, by decide +kernel, by decide +kernel⟩
        refine ⟨_, rfl, ?_, fun e => ?_⟩
        · have := name_ok hc
          unfold okS at this ⊢
          rw [Bool.and_eq_true, List.all_eq_true] at this ⊢
          refine ⟨decide_eq_true (by show (wc ++ ("x" : Str)).length ≤ 20; rw [app_len]; show wc.length + 1 ≤ 20; omega), fun c hc => ?_⟩
          rw [app_list] at hc
          rcases List.mem_append.mp hc with h | h
          · exact this.2 c h
          · rw [List.mem_singleton.mp (show c ∈ [120] from h)]; decide
        · have e2 := congrArg (fun s : Str => s.cps.toList.getLast?) e
          have e2 : (wc ++ ("x" : Str)).cps.toList.getLast? = ("do" : Str).cps.toList.getLast? := e2
          rw [app_list, List.getLast?_append] at e2
          have e3 : some 120 = some 111 := e2
          exact absurd e3 (by decide)
      walk_at "go"
      exact .now (k _ _ (.four q wa wb wa) (hp2.mono (by omega)) ⟨hq, hq2, ha, hb, ha⟩)
end

section
variable {P : Program} {w : World} {K : PySem.W.Frag} {mg : Str → Option Value} {base : Heap}
theorem cut_sL (ps : List Str) (lo hi : Option Int) : ∃ qs : List Str, VL.cutD (sL ps) lo hi = sL qs ∧ qs.length ≤ ps.length ∧ ∀ q ∈ qs, q ∈ ps := by
  refine ⟨(ps.drop (HT.sIx (sL ps).length 0 lo)).take (HT.sIx (sL ps).length (sL ps).length hi - HT.sIx (sL ps).length 0 lo), ?_, ?_, fun q hq => List.mem_of_mem_drop (List.mem_of_mem_take hq)⟩
  · unfold VL.cutD sL
    rw [List.map_take, List.map_drop]
  · rw [List.length_take, List.length_drop]; omega
/-- short texts, not many -/
structure Sh (n : Nat) (ps : List Str) : Prop where
  l : ps.length ≤ n
  s : ∀ p ∈ ps, p.length ≤ 20
theorem Sh.app {n m : Nat} {a b : List Str} (h : Sh n a) (g : Sh m b) : Sh (n + m) (a ++ b) := ⟨by rw [List.length_append]; have := h.l; have := g.l; omega, fun p hp => by
  rcases List.mem_append.mp hp with e | e
  · exact h.s p e
  · exact g.s p e⟩
theorem Sh.cut {n : Nat} {ps : List Str} (h : Sh n ps) (lo hi : Option Int) : ∃ qs, VL.cutD (sL ps) lo hi = sL qs ∧ Sh n qs := by
  obtain ⟨qs, e, l, s⟩ := cut_sL ps lo hi
  exact ⟨qs, e, ⟨by have := h.l; omega, fun p hp => h.s p (s p hp)⟩⟩
theorem Sh.one {p : Str} (h : p.length ≤ 20) : Sh 1 [p] := ⟨Nat.le_refl _, fun q hq => by rw [List.mem_singleton.mp hq]; exact h⟩
theorem Sh.mono {n m : Nat} {ps : List Str} (h : Sh n ps) (e : n ≤ m) : Sh m ps := ⟨Nat.le_trans h.l e, h.s⟩
theorem sL_app (a b : List Str) : sL (a ++ b) = sL a ++ sL b := List.map_append ..
end

section
variable {P : Program} {w : World} {K : PySem.W.Frag} {mg : Str → Option Value} {base : Heap}

def sp_law_spoiled (K : PySem.W.Frag) : SpD := fun ds S Q Xd => ∃ (n : Nat) (bs : List Int) (z : Int) (cells : List Int) (m : Nat) (ps : List Str) (way : Int), ds = [.ref 1, .d (.lst (sL ps)), .d (.int way)] ∧ S = potS bs z cells ∧ PotOk n bs z cells ∧ n ≤ 600000000 ∧ ps ≠ [] ∧ Sh m ps ∧ m ≤ 1000 ∧ 0 ≤ way ∧ way < 7 ∧ ∀ bs' z' qs, PotOk (n + 2) bs' z' cells → Sh (3 * m + 2) qs → Q (.d (.lst (sL qs))) (potS bs' z' cells)
theorem ok_law_spoiled (T : Txt w K mg) : OkD P w K mg base 3 (He.ga K "_law_spoiled") ["_law_pot_here", "_law_parts", "_law_way"] (toSp K (sp_law_spoiled K)) := by
  have G_law_take := ok_law_take (P := P) (w := w) (base := base) T
  refine OkD.ofD T.d_law_spoiled sc_law_spoiled (fun _ _ _ _ _ _ us hl => match us, hl with | [_, _, _], _ => rfl) (fun ds S Q Xd h => ?_) (fun cdv A outer s H E hr n0 Xd => ⟨_, _, (pss_cons (ps_set (i := 3) sc_law_spoiled.nd rfl (by first | exact Or.inl rfl | exact Or.inr rfl) (pe_fn G_law_take (hr.mono (by decide)) rfl T.g_law_take (HK.passes_call (HK.takes_of rfl rfl rfl rfl) (fun _ _ _ _ h => h)) (pa_cons (pv 0) (pa_cons (pe_callB (kLen (K := K) rfl) (by rfl) T.z_len (by decide +kernel) (pa_cons (pv 1) pa_nil)) pa_nil)))) (pss_cons (ps_set (i := 4) sc_law_spoiled.nd rfl (by first | exact Or.inl rfl | exact Or.inr rfl) (pe_slice (kSl (K := K) rfl) (pv 1) (po_some (pe_op (kAdd (K := K) rfl) (pv 3) pe_int)) po_none)) (pss_cons (ps_set (i := 5) sc_law_spoiled.nd rfl (by first | exact Or.inl rfl | exact Or.inr rfl) (pe_ix (kIx (K := K) rfl) (pe_lst (pa_cons pe_str (pa_cons pe_str (pa_cons pe_str (pa_cons pe_str (pa_cons pe_str (pa_cons pe_str (pa_cons pe_str (pa_cons pe_str pa_nil))))))))) (pe_fn G_law_take (hr.mono (by decide)) rfl T.g_law_take (HK.passes_call (HK.takes_of rfl rfl rfl rfl) (fun _ _ _ _ h => h)) (pa_cons (pv 0) (pa_cons pe_int pa_nil))) (fun _ _ => rfl))) (pss_cons (ps_if (pt_cmpR (kEq (K := K) rfl hr.units) (pv 2) pe_int (nomark _)) (pss_one (ps_ret (pe_op (kAdd (K := K) rfl) (pe_slice (kSl (K := K) rfl) (pv 1) po_none (po_some (pv 3))) (pv 4)))) pss_nil) (pss_cons (ps_if (pt_cmpR (kEq (K := K) rfl hr.units) (pv 2) pe_int (nomark _)) (pss_one (ps_ret (pe_op (kAdd (K := K) rfl) (pe_op (kAdd (K := K) rfl) (pe_slice (kSl (K := K) rfl) (pv 1) po_none (po_some (pv 3))) (pe_lst (pa_cons (pe_ix (kIx (K := K) rfl) (pv 1) (pv 3) (fun _ _ => rfl)) pa_nil))) (pe_slice (kSl (K := K) rfl) (pv 1) (po_some (pv 3)) po_none)))) pss_nil) (pss_cons (ps_if (pt_cmpR (kEq (K := K) rfl hr.units) (pv 2) pe_int (nomark _)) (pss_one (ps_ret (pe_op (kAdd (K := K) rfl) (pe_op (kAdd (K := K) rfl) (pe_op (kAdd (K := K) rfl) (pe_slice (kSl (K := K) rfl) (pv 1) po_none (po_some (pv 3))) (pe_slice (kSl (K := K) rfl) (pv 4) po_none (po_some pe_int))) (pe_lst (pa_cons (pe_ix (kIx (K := K) rfl) (pv 1) (pv 3) (fun _ _ => rfl)) pa_nil))) (pe_slice (kSl (K := K) rfl) (pv 4) (po_some pe_int) po_none)))) pss_nil) (pss_cons (ps_if (pt_cmpR (kEq (K := K) rfl hr.units) (pv 2) pe_int (nomark _)) (pss_one (ps_ret (pe_op (kAdd (K := K) rfl) (pe_op (kAdd (K := K) rfl) (pe_slice (kSl (K := K) rfl) (pv 1) po_none (po_some (pv 3))) (pe_lst (pa_cons (pv 5) pa_nil))) (pv 4)))) pss_nil) (pss_cons (ps_if (pt_cmpR (kEq (K := K) rfl hr.units) (pv 2) pe_int (nomark _)) (pss_one (ps_ret (pe_op (kAdd (K := K) rfl) (pe_op (kAdd (K := K) rfl) (pe_slice (kSl (K := K) rfl) (pv 1) po_none (po_some (pv 3))) (pe_lst (pa_cons (pv 5) pa_nil))) (pe_slice (kSl (K := K) rfl) (pv 1) (po_some (pv 3)) po_none)))) pss_nil) (pss_cons (ps_if (pt_cmpR (kEq (K := K) rfl hr.units) (pv 2) pe_int (nomark _)) (pss_one (ps_ret (pe_op (kAdd (K := K) rfl) (pv 1) (pe_lst (pa_cons (pv 5) pa_nil))))) pss_nil) (pss_one (ps_ret (pe_op (kAdd (K := K) rfl) (pe_lst (pa_cons (pv 5) pa_nil)) (pv 4))))))))))))), inferInstance, fun ds S Q hn h => ?_⟩)
  · obtain ⟨n, bs, z, cells, m, ps, way, rfl, rfl, hp, hnn, hne, hsh, hm, hw0, hw1, k⟩ := h
    rfl
  · obtain ⟨n, bs, z, cells, m, ps, way, rfl, rfl, hp, hnn, hne, hsh, hm, hw0, hw1, k⟩ := h
    subst hn
    have hpl : 0 < ps.length := List.length_pos_iff.mpr hne
    have hsl : (sL ps).length = ps.length := sL_len ps
    have hshl := hsh.l
    walk_at "go"
    refine CallP.s2 0 1 (by decide) rfl rfl rfl ⟨_, _, _, cells, _, rfl, rfl, hp, by omega, by omega, by omega, fun bs1 z1 d1 hp1 d10 d11 => ⟨.d (.int d1), potS bs1 z1 cells, rfl, rfl, ?_⟩⟩
    walk_at "go"
    obtain ⟨rest, er, hr⟩ := hsh.cut (some (d1 + 1)) none
    rw [er]
    refine CallP.s2 0 1 (by decide) rfl rfl rfl ⟨_, _, _, cells, 8, rfl, rfl, hp1, by omega, by decide, by decide, fun bs2 z2 d2 hp2 d20 d21 => ⟨.d (.int d2), potS bs2 z2 cells, rfl, rfl, ?_⟩⟩
    walk_at "go"
    refine on_all (p := fun z => decide (z.length ≤ 20)) d20 d21 (by rfl) fun odd hodd => ?_
    have hodd := Sh.one (of_decide_eq_true hodd)
    walk_at "go"
    obtain ⟨qa, ea, ha⟩ := hsh.cut none (some d1)
    obtain ⟨qb, eb, hb⟩ := hsh.cut (some d1) none
    obtain ⟨qc, ec, hc⟩ := hr.cut none (some 1)
    obtain ⟨qd, ed, hd⟩ := hr.cut (some 1) none
    have hrl : (sL rest).length ≤ m := by rw [sL_len]; exact hr.l
    have hal : (sL qa).length ≤ m := by rw [sL_len]; exact ha.l
    have hbl : (sL qb).length ≤ m := by rw [sL_len]; exact hb.l
    have hcl : (sL qc).length ≤ m := by rw [sL_len]; exact hc.l
    have hdl : (sL qd).length ≤ m := by rw [sL_len]; exact hd.l
    have e1 : ∀ x : Str, [D.str x] = sL [x] := fun _ => rfl
    obtain rfl | rfl | rfl | rfl | rfl | rfl | rfl : way = 0 ∨ way = 1 ∨ way = 2 ∨ way = 3 ∨ way = 4 ∨ way = 5 ∨ way = 6 := by omega
    · walk_at "go"
      rw [ea]
      refine ⟨by omega, ?_⟩
      walk_at "go"
      rw [← sL_app]
      exact .now (k _ _ _ (hp2.mono (by omega)) ((ha.app hr).mono (by omega)))
    · walk_at "go"
      rw [ea]
      refine on_ix d10 d11 rfl fun v hv => ?_
      obtain ⟨p, hpm, rfl⟩ := List.mem_map.mp hv
      have hpo := Sh.one (hsh.s p hpm)
      walk_at "go"
      rw [eb]
      refine ⟨by rw [List.length_append]; show (sL qa).length + 1 + (sL qb).length ≤ _; omega, ?_⟩
      walk_at "go"
      rw [e1, ← sL_app, ← sL_app]
      exact .now (k _ _ _ (hp2.mono (by omega)) (((ha.app hpo).app hb).mono (by omega)))
    · walk_at "go"
      rw [ea, ec]
      refine ⟨by omega, ?_⟩
      walk_at "go"
      refine on_ix d10 d11 rfl fun v hv => ?_
      obtain ⟨p, hpm, rfl⟩ := List.mem_map.mp hv
      have hpo := Sh.one (hsh.s p hpm)
      walk_at "go"
      rw [ed]
      refine ⟨by rw [List.length_append, List.length_append]; show (sL qa).length + (sL qc).length + 1 + (sL qd).length ≤ _; omega, ?_⟩
      walk_at "go"
      rw [e1, ← sL_app, ← sL_app, ← sL_app]
      exact .now (k _ _ _ (hp2.mono (by omega)) ((((ha.app hc).app hpo).app hd).mono (by omega)))
    · walk_at "go"
      rw [ea]
      refine ⟨by show (sL qa).length + 1 ≤ _; omega, ?_⟩
      walk_at "go"
      rw [e1, ← sL_app, ← sL_app]
      exact .now (k _ _ _ (hp2.mono (by omega)) (((ha.app hodd).app hr).mono (by omega)))
    · walk_at "go"
      rw [ea]
      refine ⟨by show (sL qa).length + 1 ≤ _; omega, ?_⟩
      walk_at "go"
      rw [eb]
      refine ⟨by rw [List.length_append]; show (sL qa).length + 1 + (sL qb).length ≤ _; omega, ?_⟩
      walk_at "go"
      rw [e1, ← sL_app, ← sL_app]
      exact .now (k _ _ _ (hp2.mono (by omega)) (((ha.app hodd).app hb).mono (by omega)))
    · walk_at "go"
      rw [e1, ← sL_app]
      exact .now (k _ _ _ (hp2.mono (by omega)) ((hsh.app hodd).mono (by omega)))
    · walk_at "go"
      rw [e1, ← sL_app]
      exact .now (k _ _ _ (hp2.mono (by omega)) ((hodd.app hr).mono (by omega)))
end

section
variable {P : Program} {w : World} {K : PySem.W.Frag} {mg : Str → Option Value} {base : Heap}
mutual
theorem eqv_rfl : ∀ d : D, D.eqv d d = true
  | .non => by simp [D.eqv, toPy, PyData.eqv]
  | .bl b => by simp [D.eqv, toPy, PyData.eqv]
  | .int i => by simp [D.eqv, toPy, PyData.eqv]
  | .str x => by simp [D.eqv, toPy, PyData.eqv]
  | .tup xs => by have := eqvL_rfl xs; simpa [D.eqv, D.eqvL, toPy, PyData.eqv] using this
  | .lst xs => by have := eqvL_rfl xs; simpa [D.eqv, D.eqvL, toPy, PyData.eqv] using this
  | .scr xs => by have := eqvL_rfl xs; simpa [D.eqv, D.eqvL, toPy, PyData.eqv] using this
  | .obj _ _ => by simp [D.eqv, toPy, PyData.eqv]
  | .dK _ => by simp [D.eqv, toPy, PyData.eqv]
  | .exn _ _ _ _ => by simp [D.eqv, toPy, PyData.eqv]
  | .cst _ => by simp [D.eqv, toPy, PyData.eqv]
theorem eqvL_rfl : ∀ xs : List D, D.eqvL xs xs = true
  | [] => by simp [D.eqvL, toPyL, PyData.eqvAll]
  | x :: xs => by
    have h1 := eqv_rfl x
    have h2 := eqvL_rfl xs
    simp only [D.eqv, D.eqvL] at h1 h2
    simp [D.eqvL, toPyL, PyData.eqvAll, h1, h2]
end
theorem ne_same (d : D) : (if true = true then !D.eqv d d else D.eqv d d) = false := by rw [if_pos rfl, eqv_rfl]; rfl
theorem eq_same (d : D) : (if false = true then !D.eqv d d else D.eqv d d) = true := by rw [if_neg nofun, eqv_rfl]
theorem row_len : ∀ ps : List Str, (rowOf ps).length ≤ (ps.map (·.length)).sum + ps.length
  | [] => by show 0 ≤ _; omega
  | [a] => by show a.length ≤ [a.length].sum + 1; simp
  | a :: b :: l => by
    have h := row_len (b :: l)
    have e : rowOf (a :: b :: l) = a ++ bl ++ rowOf (b :: l) := rfl
    rw [e, app_len, app_len, List.map_cons, List.sum_cons, List.length_cons]
    have : bl.length = 1 := rfl
    omega
theorem Dd.D_hd (d : Dd) : ∃ tl, d.D = .tup (.str d.kind :: tl) := by
  cases d with
  | four k a b c => exact ⟨_, rfl⟩
  | doo a ts => exact ⟨_, rfl⟩
theorem in_three {p : Str} : (if true = true then !VL.inD (.str p) [.str "make", .str "do", .str "drop"] else VL.inD (.str p) [.str "make", .str "do", .str "drop"]) = !decide (p = "make" ∨ p = "do" ∨ p = "drop") := by
  rw [if_pos rfl]
  have := inD_strs p [("make" : Str), ("do" : Str), ("drop" : Str)]
  rw [show VL.inD (.str p) [.str "make", .str "do", .str "drop"] = VL.inD (.str p) ([("make" : Str), ("do" : Str), ("drop" : Str)].map D.str) from rfl, this]
  refine congrArg Bool.not (decide_eq_decide.mpr ⟨fun h => by simpa using h, fun h => by simpa using h⟩)
theorem ne_nil (ps : List Str) : (if true = true then !D.eqv (.lst (sL ps)) (.lst []) else D.eqv (.lst (sL ps)) (.lst [])) = decide (ps ≠ []) := by
  rw [if_pos rfl]
  cases ps with
  | nil => rw [show sL [] = [] from rfl, eqv_rfl]; rfl
  | cons p ps => simp [sL, D.eqv, toPy, toPyL, PyData.eqv, PyData.eqvAll]
theorem Dd.ed (d : Dd) (x : Str) : Ed 60 (.tup [.str x, d.D]) := by
  cases d with
  | four k a b c => simp only [Dd.D, Ed, EdL, and_self]
  | doo a ts => simp only [Dd.D, sL, Ed, EdL, EdL_strs, and_self]
theorem tt_ed (a b : Str) : Ed 60 (.tup [.str a, .str b]) := by simp only [Ed, EdL, and_self]
theorem prs_ed {l : List Str} {d : D} (h : prs l = some d) : Ed 59 d := by
  cases l with
  | nil => cases h
  | cons p rest =>
    by_cases hd : p = "do"
    · subst hd
      cases rest with
      | nil => exact absurd (show (none : Option D) = some d from h) nofun
      | cons a ts =>
        cases Option.some.inj (show some (D.tup [.str "do", .str a, .tup (sL ts)]) = some d from h)
        simp only [sL, Ed, EdL, EdL_strs, and_self]
    · rw [prs_n hd] at h
      by_cases hm : (p = "make" ∨ p = "drop") ∧ rest.length = 3
      · rw [if_pos hm] at h
        cases h
        simp only [sL, Ed, EdL_strs]
      · rw [if_neg hm] at h; cases h
theorem due_ed (r : Str) : Ed 60 (dueR r) := by
  unfold dueR readD
  by_cases h : ("" : Str) ∈ Txt.split r bl
  · rw [if_pos h]; simp only [Ed, EdL, and_self]
  · rw [if_neg h]
    cases e : prs (Txt.split r bl) with
    | none => simp only [Ed, EdL, and_self]
    | some d => have := prs_ed e; simp only [Ed, EdL, true_and, and_true]; exact this
def shM : Nat → Nat
  | 0 => 7
  | k + 1 => 3 * shM k + 2
theorem shM_le : ∀ k ≤ 2, shM k ≤ 71 := by decide
end

section
variable {P : Program} {w : World} {K : PySem.W.Frag} {mg : Str → Option Value} {base : Heap}


theorem ok_law (T : Txt w K mg) : ∃ fd : FuncData, (∀ (s : Shared) (u : Value), BindsTo s fd ⟨[u], []⟩ [("_law_script", u)]) ∧ ∀ base : Heap, K.In base → base.Ns mainGlobals mg → FnOk P w K mg base (HK.CX P w) 11 (He.ga K "law") fd ["_law_script"] (toSp K (spLaw 63)) := by
  refine fn_ofD T.d_law (fun _ _ _ _ _ _ u => rfl) N_law sc_law (fun base => ?_)
  have G_law_read := ok_law_read (P := P) (w := w) (base := base) T
  have G_law_refused_by_base := ok_law_refused_by_base (P := P) (w := w) (base := base) T
  have G_law_due := ok_law_due (P := P) (w := w) (base := base) T
  have G_law_spoiled := ok_law_spoiled (P := P) (w := w) (base := base) T
  have G_law_written := ok_law_written (P := P) (w := w) (base := base) T
  have G_law_row := ok_law_row (P := P) (w := w) (base := base) T
  have G_law_deed := ok_law_deed (P := P) (w := w) (base := base) T
  have G_law_take := ok_law_take (P := P) (w := w) (base := base) T
  have G_law_pot := ok_law_pot (P := P) (w := w) (base := base) T
  refine (fun cdv A outer s H E hr n0 Xd => ⟨_, _, (pss_cons (ps_set (i := 1) sc_law.nd rfl (by first | exact Or.inl rfl | exact Or.inr rfl) (pe_fn G_law_pot (hr.mono (by decide)) rfl T.g_law_pot (HK.passes_call (HK.takes_of rfl rfl rfl rfl) (fun _ _ _ _ h => h)) (pa_cons (pv 0) pa_nil))) (pss_cons (ps_set (i := 2) sc_law.nd rfl (by first | exact Or.inl rfl | exact Or.inr rfl) (pe_fn G_law_take (hr.mono (by decide)) rfl T.g_law_take (HK.passes_call (HK.takes_of rfl rfl rfl rfl) (fun _ _ _ _ h => h)) (pa_cons (pv 1) (pa_cons pe_int pa_nil)))) (pss_cons (ps_setLc (i := 3) (own := [("_law_k", 9)]) rfl sc_law.nd rfl rfl (sw_true rfl rfl rfl (by decide +kernel)) (pi_range1 rfl T.z_range (pa_cons (pe_fn G_law_take (hr.mono (by decide)) rfl T.g_law_take (HK.passes_call (HK.takes_of rfl rfl rfl rfl) (fun _ _ _ _ h => h)) (pa_cons (pv 1) (pa_cons pe_int pa_nil))) pa_nil)) (blkOk_by (N := N_law) (sc := defScope s_law) (by decide +kernel)) (fun _ _ _ _ _ => (pg_name (i := 9) sc_law.nd rfl (by first | exact Or.inl rfl | exact Or.inr rfl))) (fun _ _ _ _ _ => pts_nil) (fun _ _ _ _ _ => (pe_fn G_law_take (hr.mono (by decide)) rfl T.g_law_take HK.passF (pa_cons (pv 1) (pa_cons pe_int pa_nil))))) (pss_cons (ps_set (i := 4) sc_law.nd rfl (by first | exact Or.inl rfl | exact Or.inr rfl) (pe_fn G_law_deed (hr.mono (by decide)) rfl T.g_law_deed (HK.passes_call (HK.takes_of rfl rfl rfl rfl) (fun _ _ _ _ h => h)) (pa_cons (pv 1) (pa_cons (pv 2) pa_nil)))) (pss_cons (ps_set (i := 5) sc_law.nd rfl (by first | exact Or.inl rfl | exact Or.inr rfl) (pe_fn G_law_row (hr.mono (by decide)) rfl T.g_law_row (HK.passes_call (HK.takes_of rfl rfl rfl rfl) (fun _ _ _ _ h => h)) (pa_cons (pv 4) pa_nil))) (pss_cons (ps_if (pt_cmpR (kNin (K := K) rfl) (pe_ix (kIx (K := K) rfl) (pv 4) pe_int (fun _ _ => rfl)) (pe_tup (pa_cons pe_str (pa_cons pe_str (pa_cons pe_str pa_nil)))) (by rfl)) (pss_one (ps_if (pt_cmpR (kNe (K := K) rfl hr.units) (pe_fn G_law_written (hr.mono (by decide)) rfl T.g_law_written (HK.passes_call (HK.takes_of rfl rfl rfl rfl) (fun _ _ _ _ h => h)) (pa_cons (pv 4) pa_nil)) (pe_tup (pa_cons pe_str (pa_cons (pe_ix (kIx (K := K) rfl) (pv 4) pe_int (fun _ _ => rfl)) pa_nil))) (nomark _)) (pss_one (ps_ret pe_bl)) pss_nil)) (pss_one (ps_if (PW.pt (pw_or (pt_cmpR (kNe (K := K) rfl hr.units) (pe_fn G_law_written (hr.mono (by decide)) rfl T.g_law_written (HK.passes_call (HK.takes_of rfl rfl rfl rfl) (fun _ _ _ _ h => h)) (pa_cons (pv 4) pa_nil)) (pe_tup (pa_cons pe_str (pa_cons (pv 5) pa_nil))) (nomark _)) (pw_or1 (pt_cmpR (kNe (K := K) rfl hr.units) (pe_fn G_law_read (hr.mono (by decide)) rfl T.g_law_read (HK.passes_call (HK.takes_of rfl rfl rfl rfl) (fun _ _ _ _ h => h)) (pa_cons (pv 5) pa_nil)) (pe_tup (pa_cons pe_str (pa_cons (pv 4) pa_nil))) (nomark _))))) (pss_one (ps_ret pe_bl)) pss_nil))) (pss_cons (ps_set (i := 6) sc_law.nd rfl (by first | exact Or.inl rfl | exact Or.inr rfl) (pe_split (pv 5) pe_str)) (pss_cons (ps_for (passes_of rfl) rfl (kSeq (K := K) rfl (pv 3)) (pg_name (i := 7) sc_law.nd rfl (by first | exact Or.inl rfl | exact Or.inr rfl)) (pss_one (ps_if (pt_cmpR (kNe (K := K) rfl hr.units) (pv 6) (pe_lst pa_nil) (nomark _)) (pss_one (ps_set (i := 6) sc_law.nd rfl (by first | exact Or.inl rfl | exact Or.inr rfl) (pe_fn G_law_spoiled (hr.mono (by decide)) rfl T.g_law_spoiled (HK.passes_call (HK.takes_of rfl rfl rfl rfl) (fun _ _ _ _ h => h)) (pa_cons (pv 1) (pa_cons (pv 6) (pa_cons (pv 7) pa_nil)))))) pss_nil))) (pss_cons (ps_set (i := 5) sc_law.nd rfl (by first | exact Or.inl rfl | exact Or.inr rfl) (kJoin (K := K) rfl (pe_join pe_str (pv 6)))) (pss_cons (ps_set (i := 8) sc_law.nd rfl (by first | exact Or.inl rfl | exact Or.inr rfl) (pe_fn G_law_due (hr.mono (by decide)) rfl T.g_law_due (HK.passes_call (HK.takes_of rfl rfl rfl rfl) (fun _ _ _ _ h => h)) (pa_cons (pv 5) pa_nil))) (pss_cons (ps_if (PW.pt (pw_and (pt_cmpR (kEq (K := K) rfl hr.units) (pe_ix (kIx (K := K) rfl) (pv 8) pe_int (fun _ _ => rfl)) pe_str (nomark _)) (pw_and1 (pt_not (pt_val (pe_fn G_law_refused_by_base (hr.mono (by decide)) rfl T.g_law_refused_by_base (HK.passes_call (HK.takes_of rfl rfl rfl rfl) (fun _ _ _ _ h => h)) (pa_cons (pv 5) pa_nil))))))) (pss_one (ps_ret pe_bl)) pss_nil) (pss_one (ps_ret (pe_cmpR (kEq (K := K) rfl hr.units) (pe_fn G_law_read (hr.mono (by decide)) rfl T.g_law_read (HK.passes_call (HK.takes_of rfl rfl rfl rfl) (fun _ _ _ _ h => h)) (pa_cons (pv 5) pa_nil)) (pv 8) (nomark _))))))))))))))), inferInstance, fun ds S Q hn h => ?_⟩)
  · obtain ⟨ns, rfl, rfl, hl, k⟩ := h
    subst hn
    walk_at "go"
    refine CallP.s0 rfl ⟨ns, rfl, rfl, by omega, fun bs cells hp => ⟨.ref 1, potS bs 0 cells, rfl, rfl, ?_⟩⟩
    walk_at "go"
    refine CallP.s2 0 1 (by decide) rfl rfl rfl ⟨_, _, _, cells, 6, rfl, rfl, hp, by omega, by decide, by decide, fun bs1 z1 d1 hp1 d10 d11 => ⟨.d (.int d1), potS bs1 z1 cells, rfl, rfl, ?_⟩⟩
    walk_at "go"
    refine CallP.s2 0 1 (by decide) rfl rfl rfl ⟨_, _, _, cells, 3, rfl, rfl, hp1, by omega, by decide, by decide, fun bs2 z2 d2 hp2 d20 d21 => ⟨.d (.int d2), potS bs2 z2 cells, rfl, rfl, ?_⟩⟩
    walk_at "go"
    refine LcP.eq (ys := (List.range d2.toNat).map fun i : Nat => D.int (0 + (i : Int))) rfl ?_
    refine LcP.inv (l := List.range d2.toNat) (enc := fun i : Nat => D.int (0 + (i : Int))) (fun i acc S => ∃ bs' z' ws, PotOk (10 + i) bs' z' cells ∧ S = potS bs' z' cells ∧ acc = ws.map D.int ∧ ws.length = i ∧ ∀ w ∈ ws, 0 ≤ w ∧ w < 7) rfl (by rw [List.length_range]; omega) ⟨bs2, z2, [], hp2.mono (by omega), rfl, rfl, rfl, nofun⟩ ?_ ?_
    · rintro i c acc S' hx hm ht ⟨bs', z', ws, hp', rfl, rfl, hwl, hws⟩
      obtain ⟨rfl, hi⟩ := range_at hx
      refine ⟨trivial, ?_⟩
      walk_at "go"
      refine CallP.s2 0 1 (by decide) rfl rfl rfl ⟨_, _, _, cells, 7, rfl, rfl, hp', by omega, by decide, by decide, fun bs9 z9 d9 hp9 d90 d91 => ⟨.d (.int d9), potS bs9 z9 cells, rfl, rfl, ?_⟩⟩
      walk_at "go"
      exact .now ⟨bs9, z9, ws ++ [d9], hp9.mono (by omega), rfl, by rw [List.map_append]; rfl, by rw [List.length_append, hwl]; rfl, fun x hx => by
        rcases List.mem_append.mp hx with h | h
        · exact hws x h
        · rw [List.mem_singleton.mp h]; exact ⟨d90, d91⟩⟩
    rintro acc S' ⟨bs3, z3, ws, hp3, rfl, rfl, hwl, hws⟩
    rw [List.length_range] at hwl hp3
    have hp3 : PotOk 12 bs3 z3 cells := hp3.mono (by omega)
    have hwl : ws.length ≤ 2 := by omega
    refine ⟨trivial, ?_⟩
    walk_at "go"
    refine CallP.s2 0 1 (by decide) rfl rfl rfl ⟨_, _, _, cells, _, rfl, rfl, hp3, by omega, d10, d11, fun bs4 z4 d hp4 hok => ⟨.d d.D, potS bs4 z4 cells, rfl, rfl, ?_⟩⟩
    obtain ⟨tl, hdd⟩ := d.D_hd
    rw [hdd]
    walk_at "go"
    refine CallP.p rfl ⟨d, by rw [hdd], rfl, hok, ?_⟩
    walk_at "go"
    refine .hit (at_j 0 rfl rfl) ?_
    walk_at "go"
    rw [in_three]
    have hded := d.ed "told"
    rw [hdd] at hded
    have hrow0 : (rowOf d.parts).length ≤ 100000 := by
      have h1 := sum_le (n := 20) fun p hp => ok_len ((Dd.parts_ok hok).1 p hp)
      have h2 := (Dd.parts_ok hok).2
      have h3 := row_len d.parts
      omega
    by_cases hk : d.kind = "make" ∨ d.kind = "do" ∨ d.kind = "drop"
    · rw [decide_eq_true hk]
      walk_at "go"
      refine CallP.p rfl ⟨d, by rw [hdd], rfl, hok, fun _ => ?_, fun e0 => absurd hk e0⟩
      walk_at "go"
      refine ⟨tt_ed _ _, tt_ed _ _, Br.F (ne_same _) ?_⟩
      walk_at "go"
      refine CallP.p rfl ⟨rowOf d.parts, rfl, rfl, hrow0, ?_⟩
      rw [show dueR (rowOf d.parts) = .tup [.str "told", d.D] from by unfold dueR; rw [read_of hok hk], hdd]
      walk_at "go"
      refine Br.F (ne_same _) ?_
      walk_at "go"
      rw [show (Txt.split (rowOf d.parts) (Str.ofString " ")).map D.str = sL d.parts from by rw [show Txt.split (rowOf d.parts) (Str.ofString " ") = d.parts from split_row (Dd.parts_ok hok).1 (by cases d <;> (unfold Dd.parts; exact nofun))]; rfl]
      refine ForP.eq (ys := ws.map D.int) rfl ?_
      refine ForP.of (l := ws) (enc := D.int) (fun i ρ S => ∃ bs' z' ps v7 v8 v9, PotOk (1000 + 2 * i) bs' z' cells ∧ Sh (shM i) ps ∧ S = potS bs' z' cells ∧ ρ = [some (.d (.scr (ns.map .int))), some (.ref 1), some (.d (.int d1)), some (.d (.lst (ws.map .int))), some (.d (.tup (.str d.kind :: tl))), some (.d (.str (rowOf d.parts))), some (.d (.lst (sL ps))), v7, v8, v9]) ⟨bs4, z4, d.parts, _, _, _, hp4.mono (by omega), ⟨(Dd.parts_ok hok).2, fun p hp => ok_len ((Dd.parts_ok hok).1 p hp)⟩, rfl, rfl⟩ ?_ ?_
      · rintro i x ρ S hx hm ht ⟨bs', z', ps, v7, v8, v9, hp', hsh, rfl, rfl⟩
        have hi : i < ws.length := (List.getElem?_eq_some_iff.mp hx).1
        obtain ⟨hx0, hx7⟩ := hws x hm
        have hsm := shM_le i (by omega)
        refine ⟨trivial, ?_⟩
        walk_at "go"
        refine ⟨by simp only [sL, Ed, EdL_strs], by simp only [Ed, EdL], ?_⟩
        walk_at "go"
        rw [ne_nil]
        by_cases hne : ps = []
        · subst hne
          refine Br.F (by decide) ?_
          walk_at "go"
          exact .now ⟨bs', z', [], _, _, _, hp'.mono (by omega), ⟨by show 0 ≤ _; omega, nofun⟩, rfl, rfl⟩
        refine Br.T (decide_eq_true hne) ?_
        walk_at "go"
        refine CallP.s2 0 1 (by decide) rfl rfl rfl ⟨_, _, _, cells, shM i, ps, x, rfl, rfl, hp', by omega, hne, hsh, by omega, hx0, hx7, fun bs9 z9 qs hp9 hqs => ⟨.d (.lst (sL qs)), potS bs9 z9 cells, rfl, rfl, ?_⟩⟩
        walk_at "go"
        exact .now ⟨bs9, z9, qs, _, _, _, hp9.mono (by omega), hqs, rfl, rfl⟩
      rintro ρ S ⟨bs', z', ps, v7, v8, v9, hp', hsh, rfl, rfl⟩
      have hsm := shM_le ws.length hwl
      have hpl := hsh.l
      have hsum : (ps.map (·.length)).sum + ps.length * bl.length ≤ 2000 := by
        have h1 := sum_le (n := 20) hsh.s
        have h3 : bl.length = 1 := rfl
        rw [h3]
        omega
      refine ⟨trivial, ?_⟩
      walk_at "go"
      refine .hit (strsD_map ps) ?_
      walk_at "go"
      refine ⟨Nat.le_trans hsum (by decide), ?_⟩
      walk_at "go"
      have hrl := row_len ps
      have h3 : bl.length = 1 := rfl
      rw [h3] at hsum
      refine CallP.p rfl ⟨rowOf ps, rfl, rfl, by omega, ?_⟩
      cases er : readD (rowOf ps) with
      | none =>
        have hdu : dueR (rowOf ps) = .tup [.str "badrow", .int 0] := by unfold dueR; rw [er]
        rw [hdu]
        walk_at "go"
        refine CallP.p rfl ⟨rowOf ps, rfl, rfl, by omega, er, ?_⟩
        walk_at "go"
        refine CallP.p rfl ⟨rowOf ps, rfl, rfl, by omega, ?_⟩
        rw [hdu]
        walk_at "go"
        refine ⟨by simp only [Ed, EdL, and_self], by simp only [Ed, EdL, and_self], ?_⟩
        rw [eq_same]
        exact .cut rfl k
      | some dd =>
        have hed := due_ed (rowOf ps)
        have hdu : dueR (rowOf ps) = .tup [.str "told", dd] := by unfold dueR; rw [er]
        rw [hdu] at hed ⊢
        walk_at "go"
        refine CallP.p rfl ⟨rowOf ps, rfl, rfl, by omega, ?_⟩
        rw [hdu]
        walk_at "go"
        rw [eq_same]
        exact .cut rfl k
    · rw [decide_eq_false hk]
      walk_at "go"
      refine CallP.p rfl ⟨d, by rw [hdd], rfl, hok, fun e0 => absurd e0 hk, fun _ => ?_⟩
      walk_at "go"
      refine .hit (at_j 0 rfl rfl) ?_
      walk_at "go"
      refine ⟨tt_ed _ _, tt_ed _ _, Br.F (ne_same _) ?_⟩
      walk_at "go"
      rw [show (Txt.split (rowOf d.parts) (Str.ofString " ")).map D.str = sL d.parts from by rw [show Txt.split (rowOf d.parts) (Str.ofString " ") = d.parts from split_row (Dd.parts_ok hok).1 (by cases d <;> (unfold Dd.parts; exact nofun))]; rfl]
      refine ForP.eq (ys := ws.map D.int) rfl ?_
      refine ForP.of (l := ws) (enc := D.int) (fun i ρ S => ∃ bs' z' ps v7 v8 v9, PotOk (1000 + 2 * i) bs' z' cells ∧ Sh (shM i) ps ∧ S = potS bs' z' cells ∧ ρ = [some (.d (.scr (ns.map .int))), some (.ref 1), some (.d (.int d1)), some (.d (.lst (ws.map .int))), some (.d (.tup (.str d.kind :: tl))), some (.d (.str (rowOf d.parts))), some (.d (.lst (sL ps))), v7, v8, v9]) ⟨bs4, z4, d.parts, _, _, _, hp4.mono (by omega), ⟨(Dd.parts_ok hok).2, fun p hp => ok_len ((Dd.parts_ok hok).1 p hp)⟩, rfl, rfl⟩ ?_ ?_
      · rintro i x ρ S hx hm ht ⟨bs', z', ps, v7, v8, v9, hp', hsh, rfl, rfl⟩
        have hi : i < ws.length := (List.getElem?_eq_some_iff.mp hx).1
        obtain ⟨hx0, hx7⟩ := hws x hm
        have hsm := shM_le i (by omega)
        refine ⟨trivial, ?_⟩
        walk_at "go"
        refine ⟨by simp only [sL, Ed, EdL_strs], by simp only [Ed, EdL], ?_⟩
        walk_at "go"
        rw [ne_nil]
        by_cases hne : ps = []
        · subst hne
          refine Br.F (by decide) ?_
          walk_at "go"
          exact .now ⟨bs', z', [], _, _, _, hp'.mono (by omega), ⟨by show 0 ≤ _; omega, nofun⟩, rfl, rfl⟩
        refine Br.T (decide_eq_true hne) ?_
        walk_at "go"
        refine CallP.s2 0 1 (by decide) rfl rfl rfl ⟨_, _, _, cells, shM i, ps, x, rfl, rfl, hp', by omega, hne, hsh, by omega, hx0, hx7, fun bs9 z9 qs hp9 hqs => ⟨.d (.lst (sL qs)), potS bs9 z9 cells, rfl, rfl, ?_⟩⟩
        walk_at "go"
        exact .now ⟨bs9, z9, qs, _, _, _, hp9.mono (by omega), hqs, rfl, rfl⟩
      rintro ρ S ⟨bs', z', ps, v7, v8, v9, hp', hsh, rfl, rfl⟩
      have hsm := shM_le ws.length hwl
      have hpl := hsh.l
      have hsum : (ps.map (·.length)).sum + ps.length * bl.length ≤ 2000 := by
        have h1 := sum_le (n := 20) hsh.s
        have h3 : bl.length = 1 := rfl
        rw [h3]
        omega
      refine ⟨trivial, ?_⟩
      walk_at "go"
      refine .hit (strsD_map ps) ?_
      walk_at "go"
      refine ⟨Nat.le_trans hsum (by decide), ?_⟩
      walk_at "go"
      have hrl := row_len ps
      have h3 : bl.length = 1 := rfl
      rw [h3] at hsum
      refine CallP.p rfl ⟨rowOf ps, rfl, rfl, by omega, ?_⟩
      cases er : readD (rowOf ps) with
      | none =>
        have hdu : dueR (rowOf ps) = .tup [.str "badrow", .int 0] := by unfold dueR; rw [er]
        rw [hdu]
        walk_at "go"
        refine CallP.p rfl ⟨rowOf ps, rfl, rfl, by omega, er, ?_⟩
        walk_at "go"
        refine CallP.p rfl ⟨rowOf ps, rfl, rfl, by omega, ?_⟩
        rw [hdu]
        walk_at "go"
        refine ⟨by simp only [Ed, EdL, and_self], by simp only [Ed, EdL, and_self], ?_⟩
        rw [eq_same]
        exact .cut rfl k
      | some dd =>
        have hed := due_ed (rowOf ps)
        have hdu : dueR (rowOf ps) = .tup [.str "told", dd] := by unfold dueR; rw [er]
        rw [hdu] at hed ⊢
        walk_at "go"
        refine CallP.p rfl ⟨rowOf ps, rfl, rfl, by omega, ?_⟩
        rw [hdu]
        walk_at "go"
        rw [eq_same]
        exact .cut rfl k
end

end Toy
open PySem PySem.W PySem.Calls PyProof.Rows
theorem PySem.Challenge.cw_whomay_k92_deed_rows_holds : PySem.Challenge.rw_whomay_k92_deed_rows.Holds := by
  w_on; o_law
  refine HandSHeadRun.head_any (r := OpenLaw.row PySem.Challenge.rw_whomay_k92_deed_rows) (q := view (OpenLaw.row PySem.Challenge.rw_whomay_k92_deed_rows).prog [39]) (H := Toy.hk) (ob := Toy.hob) (M := 12000) (loose := Toy.loose) (d := HandSHeadRun.topDef (OpenLaw.row PySem.Challenge.rw_whomay_k92_deed_rows).prog 39) (kwd := []) Toy.hob_eq
    (by kernel_rfl) (fun s => by kernel_rfl) Toy.hrun (by kernel_rfl) (by kernel_rfl) (by kernel_rfl) (by rfl) (by first | assumption | decide +kernel) (by decide +kernel) ⟨rfl, rfl, rfl, rfl, rfl, by decide +kernel⟩ ?hw ?hc
  case hw => w_witness2
  case hc =>
    refine RX.walk_ofX (l := PySem.Challenge.rw_whomay_k92_deed_rows) (n := 63) (k := 11) (x := "_law_script") rfl (by decide) (by kernel_rfl) ⟨rfl, by decide, by decide⟩ ?F
    intro w mg fa h Y G hmg0
    obtain ⟨K, KX, c⟩ := Y
    have hmg : mg ("law" : PySem.Str) = some (.ref fa) := by
      have e : (HandSHeadRun.topDef (OpenLaw.row PySem.Challenge.rw_whomay_k92_deed_rows).prog 39).name = ("law" : PySem.Str) := by kernel_rfl
      rw [← e]
      exact hmg0
    have T := Toy.txt_of KX G c
    have e := hmg.symm.trans T.g_law
    cases e
    exact ⟨K, VL.toSp K (VL.spLaw 63), KX, fun H a ns hl hS => VL.law_sp hl hS, Toy.ok_law (P := PySem.Challenge.rw_whomay_k92_deed_rows.prog) (w := w) T⟩


