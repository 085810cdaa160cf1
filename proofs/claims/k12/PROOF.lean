import PyProof.Rows.All
import Wide.All
import OpenK.AllK
import Wide.FinOn
import KE.KStateDown
import HandS.ForMost
import HandS.ForExc
import HandS.Conv
import HandS.Deep
import HandS.IsInst
import HandS.SortInts
import HandS.TupSets
import HandS.ExcIs
import HandS.HotCalls
import HandS.Defaults
import HandS.Head0
import HandS.Head1
import HandS.Head2
import HandS.HeadEnd
import HandS.HeadHook1
import HandS.HeadHook2
import PySem.Challenge.RW_neverwait_k12_whole_distances
import HandS.Codes
-- NwBase
set_option Elab.async false
set_option linter.all false
set_option maxRecDepth 100000
set_option maxHeartbeats 4200000
namespace NW
open PySem PySem.Spec L2 PyProof.Rows
/-! ## The text by places -/
def tops : List Stmt := PySem.Challenge.pw_neverwait_k12_whole_distances.main.body
def top (i : Nat) : Stmt := PySem.Challenge.pw_neverwait_k12_whole_distances.main.body.getD i (.Pass ⟨0, 0, 0, 0⟩)
abbrev netAt (j : Nat) : Stmt := inClass (top 28) j
/-- a def that one may call by its name -/
structure Can (P : Program) (w : World) (K : PySem.W.Frag) (mg : Str → Option Value) (base : Heap) (CX : CXT) (k : Nat) (x : Str) (ps : List Str) (sp : Sp) : Prop where
  ex : ∃ (f : Addr) (fd : FuncData), mg x = some (.ref f) ∧ PySem.W.keepIn K (.ref f) = true ∧ Binds K fd ps [] ∧ FnOk P w K mg base CX k f fd ps sp
/-- a method that one may call of an object whose class stands at C -/
structure CanM (P : Program) (w : World) (K : PySem.W.Frag) (mg : Str → Option Value) (base : Heap) (CX : CXT) (k : Nat) (C : Addr) (m : Str) (ps : List Str) (sp : Sp) : Prop where
  ex : ∃ (f : Addr) (fd : FuncData), Meth K C m f ∧ Binds K fd ps [] ∧ FnOk P w K mg base CX k f fd ps sp
section
variable {X : Cx} {CX : CXT} {k : Nat} {C : Addr} {ps : List Str} {sp : Sp} {E : XK} {x m : Str} {p pos apos : Pos} {e o : Expr} {es : List Expr} {ta : TE} {t : TA}
theorem pe_can (F : Can X.prog X.w X.K X.mg X.base CX k x ps sp) (hr : Room k X.A) (hg : Gl X x) (hx : Passes CX X E)
    (ha : PA X (e :: es) t) (hdb : (x == ("__debug__" : Str)) = false := by decide) (he : starEach (e :: es) X.env = (false, eval e X.env) :: starEach es X.env := by rfl)
    (hpl : (backTo pos (starEach es X.env)).any (·.1) = false := by rfl) : PE X (.Call (.Name x p) (e :: es) [] pos) (tCall sp [] E t) := by
  obtain ⟨f, fd, hm, hk, hb, F⟩ := F.ex
  exact pe_call F hr hg hm hk hb .nil hx ha hdb he hpl
theorem pe_canS {E : L2.St → XK} (F : Can X.prog X.w X.K X.mg X.base CX k x ps sp) (hr : Room k X.A) (hg : Gl X x) (hx : ∀ σ, PassesAt CX X σ (E σ))
    (ha : PA X (e :: es) t) (hdb : (x == ("__debug__" : Str)) = false := by decide) (he : starEach (e :: es) X.env = (false, eval e X.env) :: starEach es X.env := by rfl)
    (hpl : (backTo pos (starEach es X.env)).any (·.1) = false := by rfl) : PE X (.Call (.Name x p) (e :: es) [] pos) (tCallS sp E t) := by
  obtain ⟨f, fd, hm, hk, hb, F⟩ := F.ex
  exact pe_callS F hr hg hm hk hb hx ha hdb he hpl
theorem pe_canM {pl : Sem Bool} (he : PE X o ta) (c : Cls X.K C) (F : CanM X.prog X.w X.K X.mg X.base CX k C m ps sp) (hr : Room k X.A) (hx : Passes CX X E) (ha : PA X (e :: es) t)
    (s1 : starEach (e :: es) X.env = (false, eval e X.env) :: starEach es X.env := by rfl) (s2 : (backTo pos (starEach es X.env)).any (·.1) = false := by rfl)
    (s3 : eval (.Call (.Attribute o m apos) (e :: es) [] pos) X.env = (do let ov ← eval o X.env; standAt apos.atName; let (f, first) ← holding [ov] (getMethod ov m pl); callWith pos f first (backTo pos (starEach (e :: es) X.env)) (backToKw pos (keywordEach [] X.env))) := by rfl) :
    PE X (.Call (.Attribute o m apos) (e :: es) [] pos) (tMeth C m sp [] E ta t) := by
  obtain ⟨f, fd, hm, hb, F⟩ := F.ex
  exact pe_meth he c hm F hr hb .nil hx ha s1 s2 s3
theorem pe_canM0 {pl : Sem Bool} (he : PE X o ta) (c : Cls X.K C) (F : CanM X.prog X.w X.K X.mg X.base CX k C m ps sp) (hr : Room k X.A) (hx : Passes CX X E)
    (s3 : eval (.Call (.Attribute o m apos) [] [] pos) X.env = (do let ov ← eval o X.env; standAt apos.atName; let (f, first) ← holding [ov] (getMethod ov m pl); callWith pos f first (backTo pos (starEach [] X.env)) (backToKw pos (keywordEach [] X.env))) := by rfl) :
    PE X (.Call (.Attribute o m apos) [] [] pos) (tMeth C m sp [] E ta tNil) := by
  obtain ⟨f, fd, hm, hb, F⟩ := F.ex
  exact pe_meth0 he c hm F hr hb .nil hx s3
end
/-- a def out of the head's facts -/
theorem fun_of {K : PySem.W.Frag} {x qual : Str} {st : Stmt} {f : Addr} {fd : FuncData} (F : FunD K x qual (defArgs st) (defBody st) (defScope st) [] [] f fd) : Fun K x qual st f fd := by
  obtain ⟨oc, od, dV, kV, doc, pm, an, cdv, ct, osl, e1, e2, e3, e4, e5⟩ := F.ex
  rcases e4 with ⟨_, e4⟩ | ⟨e4, _⟩
  · subst e4
    exact ⟨⟨oc, od, kV, doc, pm, an, cdv, ct, osl, e1, e2, e3⟩, F.kp⟩
  · exact absurd rfl e4
end NW
-- NwHead
set_option Elab.async false
set_option linter.all false
set_option maxRecDepth 100000
set_option maxHeartbeats 0
namespace NW
open PySem PySem.Spec L2 PyProof.Rows
/-! ## What the top leaves, as facts -/
def dfn (i : Nat) (x : Str) : He.DefD := ⟨(x, none), x, x, defArgs (top i), defBody (top i), defScope (top i), [], []⟩
def dmt (j : Nat) (m q : Str) : He.DefD := ⟨("Net", some m), m, q, defArgs (netAt j), defBody (netAt j), defScope (netAt j), [], []⟩
def fns : List He.DefD := [dfn 19 "is_whole", dfn 20 "is_house_of", dfn 21 "is_pair_of", dfn 22 "is_many", dfn 23 "are_unlike", dfn 24 "outs_of", dfn 25 "are_even", dfn 26 "fars_from", dfn 27 "want_net",
  dfn 30 "_law_pot", dfn 31 "_law_digit", dfn 32 "_law_some", dfn 33 "_law_round", dfn 34 "_law_tree", dfn 35 "_law_net", dfn 36 "_law_leads", dfn 37 "_law_fars", dfn 38 "_law_whole", dfn 39 "_law_row_is", dfn 40 "_law_tells",
  dfn 41 "_law_asked", dfn 42 "_law_refused", dfn 43 "_law_refuses", dfn 44 "_law_emptied", dfn 45 "law",
  dmt 0 "__init__" "Net.__init__", dmt 3 "want_house" "Net.want_house", dmt 4 "out" "Net.out", dmt 5 "far" "Net.far", dmt 6 "span" "Net.span", dmt 7 "good" "Net.good"]
def fas : List He.Fa := [.glo "is_whole", .glo "is_house_of", .glo "is_pair_of", .glo "is_many", .glo "are_unlike", .glo "outs_of", .glo "are_even", .glo "fars_from", .glo "want_net",
  .glo "_law_pot", .glo "_law_digit", .glo "_law_some", .glo "_law_round", .glo "_law_tree", .glo "_law_net", .glo "_law_leads", .glo "_law_fars", .glo "_law_whole", .glo "_law_row_is", .glo "_law_tells",
  .glo "_law_asked", .glo "_law_refused", .glo "_law_refuses", .glo "_law_emptied", .glo "law", .glo "Net", .glo "NoHouse", .glo "BeatError",
  .glo "NoBerth", .glo "NoHanding", .glo "NoNet", .glo "NoPlan", .glo "NoRanks", .glo "NoRow", .glo "NoShape", .glo "NoStand", .glo "NoText", .glo "NoTie", .glo "TooMany",
  .free "isinstance", .free "int", .free "bool", .free "tuple", .free "list", .free "len", .free "set", .free "range", .free "sorted", .free "max", .free "min", .free "any", .free "all", .free "ValueError",
  .int "LEAST_HOUSES" 2, .int "MOST_HOUSES" 32, .int "MOST_OUT" 8,
  .cls "Net", .noat "Net" "houses", .noat "Net" "arrows", .noat "Net" "outs", .noat "Net" "fars", .meth "Net" "want_house", .meth "Net" "out", .meth "Net" "far", .meth "Net" "span", .meth "Net" "good", .mkr "Net",
  .exc "NoHouse", .exm "NoHouse" "BeatError" true]
def others : List Str := ["NoBerth", "NoHanding", "NoNet", "NoPlan", "NoRanks", "NoRow", "NoShape", "NoStand", "NoText", "NoTie", "TooMany"]
def excB (K : PySem.W.Frag) (D : Addr) : Bool :=
  He.eqO (PySem.W.findIn K (.ref D) "__getattribute__") (some (some (.builtin "BaseException.__getattribute__"))) &&
  (He.eqO (PySem.W.findIn K (.ref D) "__getattr__") (some none) &&
  (decide (PySem.W.subIn K (.ref D) (.type "BaseException") = some true) &&
  (PySem.W.hasDictIn K D &&
  (He.eqO (PySem.W.findIn K (.ref D) "__class__") (some (some (.builtin "object.__class__"))) &&
  (He.eqO (PySem.W.specialIn K (.builtin "object.__class__") "__get__") (some (some (.builtin "getset_descriptor.__get__"))) &&
  (decide (PySem.W.takesIn K (.builtin "object.__class__") = some true) &&
  decide (PySem.W.mroIn K D (.type "object") = some true)))))))
def moreB (K : PySem.W.Frag) : Bool := excB K (He.ga K "NoHouse") &&
  ((others.all fun x => decide (PySem.W.kitOne K (.ref (He.ga K "NoHouse")) (.ref (He.ga K x)) = some false)) &&
  (decide (PySem.W.kitOne K (.ref (He.ga K "NoHouse")) (.ref (He.ga K "NoHouse")) = some true) &&
  decide (PySem.W.kitOne K (.ref (He.ga K "NoHouse")) (.type "ValueError") = some true)))
abbrev AlN : Type := He.AlD × Bool
def obsN (K : PySem.W.Frag) : AlN := (He.obsD fas fns K, moreB K)
def valN : AlN := (He.valD fns, true)
def SaysN (K : PySem.W.Frag) : Prop := He.SaysD fas fns K ∧ moreB K = true
def obsNG (n : Nat) (g : Addr → Option Obj) : AlN := obsN (He.frG g (He.asD g n))
theorem saysN_of {K : PySem.W.Frag} (e : obsN K = valN) : SaysN K := ⟨congrArg Prod.fst e, congrArg Prod.snd e⟩
def hookN (n : Nat) : PySem.W.Hook where
  α := AlN
  obs := fun s => obsNG n s.heap.get?
  val := fun _ => valN
  says := fun _ h => ∃ K : PySem.W.Frag, K.In h ∧ SaysN K
  of := fun _ _ e => ⟨_, He.frG_in, saysN_of e⟩
  keeps := fun _ _ _ ⟨K, inn, says⟩ kept => ⟨K, PySem.W.Frag.In.keeps inn kept, says⟩
theorem obsNG_eq {n : Nat} {g : Addr → Option Obj} {s : Shared} (h : ∀ a, g a = s.heap.get? a) : obsNG n g = (hookN n).obs s := by
  have e : g = s.heap.get? := funext h; rw [e] <;> rfl
abbrev R : PySem.W.OpenRow := PySem.W.OpenLaw.row PySem.Challenge.rw_neverwait_k12_whole_distances
abbrev hk : PySem.W.Hook := hookN 5
def ob (s : PySem.W.SharedT) : AlN := obsNG 5 (HandSHeadRun.getT s)
theorem ob_eq (s : PySem.W.SharedT) : ob s = hk.obs s.abs := obsNG_eq (HandSHeadRun.getT_eq s)
def loose1 : List Str := ["_wall", "BeatError", "NoNet", "NoShape", "NoTie", "NoText", "NoHouse", "NoRanks", "NoStand", "NoBerth", "NoHanding", "NoPlan", "TooMany", "NoRow", "LEAST_HOUSES", "MOST_HOUSES", "MOST_OUT", "is_whole", "is_house_of", "is_pair_of", "is_many"]
def loose2 : List Str := ["are_unlike", "outs_of", "are_even", "fars_from", "want_net", "Net", "_law_pot", "_law_digit", "_law_some", "_law_round", "_law_tree", "_law_net", "_law_leads", "_law_fars", "_law_whole", "_law_row_is", "_law_tells", "_law_asked", "_law_refused", "_law_refuses", "_law_emptied"]
def loose : List Str := loose1 ++ loose2
theorem run (w : World) : HandSHeadRun.RunEq R (PySem.W.view R.prog [45]) hk ob 12000 loose w := by
  intro os
  kernel_rfl
end NW
-- NwTx
set_option Elab.async false
set_option linter.all false
set_option maxRecDepth 100000
set_option maxHeartbeats 4200000
namespace NW
open PySem PySem.Spec L2 PyProof.Rows
/-- what a proof of a def leans on -/
structure Tx (K : PySem.W.Frag) (mg : Str → Option Value) : Prop where
  says : SaysN K
  at_ : ∃ h : Heap, K.In h ∧ h.Ns mainGlobals mg
section
variable {K : PySem.W.Frag} {mg : Str → Option Value}
theorem Tx.glo (T : Tx K mg) (i : Nat) {x : Str} (h : fas[i]? = some (.glo x) := by rfl) : mg x = some (.ref (He.ga K x)) := by
  obtain ⟨_, X, G⟩ := T.at_
  exact He.glo_ok X G (T.says.1.fact i h)
theorem Tx.free (T : Tx K mg) (i : Nat) {x : Str} (h : fas[i]? = some (.free x) := by rfl) : mg x = none := by
  obtain ⟨_, X, G⟩ := T.at_
  exact He.free_ok X G (T.says.1.fact i h)
theorem Tx.int (T : Tx K mg) (i : Nat) {x : Str} {n : Int} (h : fas[i]? = some (.int x n) := by rfl) : ∃ t, mg x = some (.int n t) := by
  obtain ⟨_, X, G⟩ := T.at_
  exact He.int_ok X G (T.says.1.fact i h)
theorem Tx.fIsi (T : Tx K mg) : mg "isinstance" = none := T.free 39
theorem Tx.fInt (T : Tx K mg) : mg "int" = none := T.free 40
theorem Tx.fBool (T : Tx K mg) : mg "bool" = none := T.free 41
theorem Tx.fTuple (T : Tx K mg) : mg "tuple" = none := T.free 42
theorem Tx.fList (T : Tx K mg) : mg "list" = none := T.free 43
theorem Tx.fLen (T : Tx K mg) : mg "len" = none := T.free 44
theorem Tx.fSet (T : Tx K mg) : mg "set" = none := T.free 45
theorem Tx.fRange (T : Tx K mg) : mg "range" = none := T.free 46
theorem Tx.fSorted (T : Tx K mg) : mg "sorted" = none := T.free 47
theorem Tx.fMax (T : Tx K mg) : mg "max" = none := T.free 48
theorem Tx.fMin (T : Tx K mg) : mg "min" = none := T.free 49
theorem Tx.fAny (T : Tx K mg) : mg "any" = none := T.free 50
theorem Tx.fAll (T : Tx K mg) : mg "all" = none := T.free 51
theorem Tx.fVE (T : Tx K mg) : mg "ValueError" = none := T.free 52
theorem Tx.least (T : Tx K mg) : ∃ t, mg "LEAST_HOUSES" = some (.int 2 t) := T.int 53
theorem Tx.most (T : Tx K mg) : ∃ t, mg "MOST_HOUSES" = some (.int 32 t) := T.int 54
theorem Tx.out8 (T : Tx K mg) : ∃ t, mg "MOST_OUT" = some (.int 8 t) := T.int 55
abbrev CN (K : PySem.W.Frag) : Addr := He.ga K "Net"
abbrev CH (K : PySem.W.Frag) : Addr := He.ga K "NoHouse"
theorem Tx.cls (T : Tx K mg) : Cls K (CN K) := He.cls_ok (T.says.1.fact 56 (f := .cls "Net"))
theorem Tx.nHouses (T : Tx K mg) : NoAttr K (CN K) "houses" := He.noat_ok (T.says.1.fact 57 (f := .noat "Net" "houses"))
theorem Tx.nArrows (T : Tx K mg) : NoAttr K (CN K) "arrows" := He.noat_ok (T.says.1.fact 58 (f := .noat "Net" "arrows"))
theorem Tx.nOuts (T : Tx K mg) : NoAttr K (CN K) "outs" := He.noat_ok (T.says.1.fact 59 (f := .noat "Net" "outs"))
theorem Tx.nFars (T : Tx K mg) : NoAttr K (CN K) "fars" := He.noat_ok (T.says.1.fact 60 (f := .noat "Net" "fars"))
/-- a def that keeps a promise may be called -/
theorem Tx.can (T : Tx K mg) {P : Program} {w : World} {base : Heap} {CX : CXT} {k : Nat} {ps : List Str} {sp : Sp} (i : Nat) {s : Nat} {x : Str} (hd : fns[i]? = some (dfn s x)) (hg : fas[i]? = some (.glo x))
    (hb : ∀ (kV doc pm : Value) (an : Option Addr) (cdv ct : Value) (us : List Value), us.length = ps.length →
      bindArgs (PySem.W.fnOf x x (defArgs (top s)) (defBody (top s)) (defScope (top s)) .none kV doc pm an cdv ct) ⟨us, []⟩ = pure (ps.zip us))
    (H : ∀ (f : Addr) (fd : FuncData), Fun K x x (top s) f fd → FnOk P w K mg base CX k f fd ps sp) : Can P w K mg base CX k x ps sp := by
  obtain ⟨fd, F⟩ := T.says.1.def_ i hd
  have F' : Fun K x x (top s) (He.ga K x) fd := fun_of F
  exact ⟨_, fd, T.glo i hg, F'.kp, F'.binds hb, H _ _ F'⟩
theorem Tx.canM (T : Tx K mg) {P : Program} {w : World} {base : Heap} {CX : CXT} {k : Nat} {ps : List Str} {sp : Sp} (i j : Nat) {s : Nat} {m q : Str} (hd : fns[i]? = some (dmt s m q)) (hg : fas[j]? = some (.meth "Net" m))
    (hb : ∀ (kV doc pm : Value) (an : Option Addr) (cdv ct : Value) (us : List Value), us.length = ps.length →
      bindArgs (PySem.W.fnOf m q (defArgs (netAt s)) (defBody (netAt s)) (defScope (netAt s)) .none kV doc pm an cdv ct) ⟨us, []⟩ = pure (ps.zip us))
    (H : ∀ (f : Addr) (fd : FuncData), Fun K m q (netAt s) f fd → FnOk P w K mg base CX k f fd ps sp) : CanM P w K mg base CX k (CN K) m ps sp := by
  obtain ⟨fd, F⟩ := T.says.1.def_ i hd
  have F' : Fun K m q (netAt s) (He.ma K (CN K) m) fd := fun_of F
  exact ⟨_, fd, He.meth_ok (T.says.1.fact j hg), F'.binds hb, H _ _ F'⟩
end
end NW
-- NwWhole
set_option Elab.async false
set_option linter.all false
set_option maxRecDepth 100000
set_option maxHeartbeats 4200000
namespace NW
open PySem PySem.Spec L2 PyProof.Rows
/-! ## is_whole, is_house_of, is_pair_of, is_many -/
/-- what may be asked whether it is a whole number -/
inductive Thing (H : Hp) : V → Prop
  | int (i : Int) : Thing H (.int i)
  | bl (b : Bool) : Thing H (.bl b)
  | non : Thing H .non
  | str (s : Str) : Thing H (.str s)
  | tup {a : Addr} {xs : List V} (e : H a = some (.tup xs)) : Thing H (.ref a)
  | lst {a : Addr} {xs : List V} (e : H a = some (.lst xs)) : Thing H (.ref a)
  | dct {a : Addr} {kvs : List (Key × V)} (e : H a = some (.dK kvs)) : Thing H (.ref a)
def whole : V → Bool
  | .int _ => true
  | _ => false
def spWhole : Sp := fun vs H Q _ => ∃ x, vs = [x] ∧ Thing H x ∧ Q (.bl (whole x)) H
theorem kbT (a b : String) (r : Bool) (h : kitB a b = some r := by decide +kernel) (K : PySem.W.Frag) : PySem.W.kitOne K (.type a) (.type b) = some r := kit_ty h
section
variable {P : Program} {w : World} {base : Heap} {K : PySem.W.Frag} {mg : Str → Option Value}
theorem scWhole : FnScope ["thing"] ["thing"] (defScope (top 19)) := ⟨rfl, rfl, rfl, by decide +kernel, rfl, by decide +kernel, by decide +kernel⟩
theorem ok_whole {f : Addr} {fd : FuncData} (T : Tx K mg) (F : Fun K "is_whole" "is_whole" (top 19) f fd) : FnOk P w K mg base CX0 1 f fd ["thing"] spWhole := by
  refine F.ok scWhole (fun vs H Q E h => ?_) (fun cdv A outer s H vs Q E hr h => ?_)
  · obtain ⟨x, rfl, _⟩ := h
    rfl
  · obtain ⟨x, rfl, hx, q⟩ := h
    refine ⟨_, pss_one (ps_ret (pe_and (pe_callB call_isi (by rfl) T.fIsi (by decide +kernel) (pa_cons (pv 0) (pa_cons (pe_bltn (v := .ty "int") (by rfl) T.fInt (by decide +kernel) rfl) pa_nil)))
      (pe_one (pe_not (pe_callB call_isi (by rfl) T.fIsi (by decide +kernel) (pa_cons (pv 0) (pa_cons (pe_bltn (v := .ty "bool") (by rfl) T.fBool (by decide +kernel) rfl) pa_nil))))))), ?_⟩
    cases hx with
    | int i =>
      refine ⟨_, rfl, _, _, _, _, true, rfl, .ty _, .base (.int i), kbT "int" "int" true rfl K, true, rfl, iteT ?_⟩
      exact ⟨_, rfl, _, _, _, _, false, rfl, .ty _, .base (.int i), kbT "int" "bool" false (by decide +kernel) K, _, rfl, q⟩
    | bl b =>
      refine ⟨_, rfl, _, _, _, _, true, rfl, .ty _, .base (.bl b), kbT "bool" "int" true (by decide +kernel) K, true, rfl, iteT ?_⟩
      exact ⟨_, rfl, _, _, _, _, true, rfl, .ty _, .base (.bl b), kbT "bool" "bool" true (by decide +kernel) K, _, rfl, q⟩
    | non => exact ⟨_, rfl, _, _, _, _, false, rfl, .ty _, .base .non, kbT "NoneType" "int" false (by decide +kernel) K, false, rfl, iteF q⟩
    | str s => exact ⟨_, rfl, _, _, _, _, false, rfl, .ty _, .base (.str s), kbT "str" "int" false (by decide +kernel) K, false, rfl, iteF q⟩
    | tup e => exact ⟨_, rfl, _, _, _, _, false, rfl, .ty _, .base (.tup e), kbT "tuple" "int" false (by decide +kernel) K, false, rfl, iteF q⟩
    | lst e => exact ⟨_, rfl, _, _, _, _, false, rfl, .ty _, .base (.lst e), kbT "list" "int" false (by decide +kernel) K, false, rfl, iteF q⟩
    | dct e => exact ⟨_, rfl, _, _, _, _, false, rfl, .ty _, .base (.dK e), kbT "dict" "int" false (by decide +kernel) K, false, rfl, iteF q⟩
theorem can_whole (T : Tx K mg) : Can P w K mg base CX0 1 "is_whole" ["thing"] spWhole :=
  T.can 0 rfl rfl (fun _ _ _ _ _ _ us hl => match us, hl with | [_], _ => rfl) fun _ _ F => ok_whole T F
end
end NW
-- NwSmall
set_option Elab.async false
set_option linter.all false
set_option maxRecDepth 100000
set_option maxHeartbeats 4200000
namespace NW
open PySem PySem.Spec L2 PyProof.Rows
section
variable {P : Program} {w : World} {base : Heap} {K : PySem.W.Frag} {mg : Str → Option Value}
def house (n : Int) : V → Bool
  | .int i => decide (0 ≤ i) && decide (i < n)
  | _ => false
def spHouse : Sp := fun vs H Q _ => ∃ n x, vs = [.int n, x] ∧ Thing H x ∧ Q (.bl (house n x)) H
theorem scHouse : FnScope ["many", "thing"] ["many", "thing"] (defScope (top 20)) := ⟨rfl, rfl, rfl, by decide +kernel, rfl, by decide +kernel, by decide +kernel⟩
theorem ok_house {f : Addr} {fd : FuncData} (T : Tx K mg) (F : Fun K "is_house_of" "is_house_of" (top 20) f fd) : FnOk P w K mg base CX0 2 f fd ["many", "thing"] spHouse := by
  refine F.ok scHouse (fun vs H Q E h => ?_) (fun cdv A outer s H vs Q E hr h => ?_)
  · obtain ⟨n, x, rfl, _⟩ := h
    rfl
  · obtain ⟨n, x, rfl, hx, q⟩ := h
    refine ⟨_, pss_one (ps_ret (pe_and (pe_can (can_whole T) hr (by rfl) pass0 (pa_cons (pv 1) pa_nil)) (pe_one (pe_chain op_le op_lt pe_int (pv 1) (pv 0))))), ?_⟩
    cases hx with
    | int i =>
      refine ⟨_, rfl, _, rfl, .int i, true, rfl, iteT ?_⟩; refine ⟨_, rfl, _, _, rfl, rfl, _, rfl, ?_⟩
      by_cases c : (0 : Int) ≤ i
      · rw [decide_eq_true c]
        refine iteT ⟨_, rfl, _, _, rfl, rfl, ?_⟩
        have e : house n (.int i) = decide (i < n) := by simp [house, c]
        show Q (.bl (decide (i < n))) H
        rw [← e]; exact q
      · rw [decide_eq_false c]
        refine iteF ?_
        have e : house n (.int i) = false := by simp [house, c]
        rw [e] at q; exact q
    | bl b => exact ⟨_, rfl, _, rfl, .bl b, false, rfl, iteF q⟩
    | non => exact ⟨_, rfl, _, rfl, .non, false, rfl, iteF q⟩
    | str s => exact ⟨_, rfl, _, rfl, .str s, false, rfl, iteF q⟩
    | tup e => exact ⟨_, rfl, _, rfl, .tup e, false, rfl, iteF q⟩
    | lst e => exact ⟨_, rfl, _, rfl, .lst e, false, rfl, iteF q⟩
    | dct e => exact ⟨_, rfl, _, rfl, .dct e, false, rfl, iteF q⟩
theorem can_house (T : Tx K mg) : Can P w K mg base CX0 2 "is_house_of" ["many", "thing"] spHouse :=
  T.can 1 rfl rfl (fun _ _ _ _ _ _ us hl => match us, hl with | [_, _], _ => rfl) fun _ _ F => ok_house T F
/-- a pair of two unlike houses -/
def spPair : Sp := fun vs H Q _ => ∃ (n a b : Int) (t : Addr), vs = [.int n, .ref t] ∧ H t = some (.tup [.int a, .int b]) ∧ 0 ≤ a ∧ a < n ∧ 0 ≤ b ∧ b < n ∧ a ≠ b ∧ Q (.bl true) H
theorem scPair : FnScope ["many", "thing"] ["many", "thing"] (defScope (top 21)) := ⟨rfl, rfl, rfl, by decide +kernel, rfl, by decide +kernel, by decide +kernel⟩
theorem house_in {n a : Int} (h0 : 0 ≤ a) (h1 : a < n) : house n (.int a) = true := by simp [house, h0, h1]
theorem ok_pair {f : Addr} {fd : FuncData} (T : Tx K mg) (F : Fun K "is_pair_of" "is_pair_of" (top 21) f fd) : FnOk P w K mg base CX0 3 f fd ["many", "thing"] spPair := by
  refine F.ok scPair (fun vs H Q E h => ?_) (fun cdv A outer s H vs Q E hr h => ?_)
  · obtain ⟨n, a, b, t, rfl, _⟩ := h
    rfl
  · obtain ⟨n, a, b, t, rfl, ht, a0, a1, b0, b1, ne, q⟩ := h
    refine ⟨_, pss_cons (ps_if (PW.pt (pw_or (pt_not (pt_val (pe_callB call_isi (by rfl) T.fIsi (by decide +kernel) (pa_cons (pv 1) (pa_cons (pe_bltn (v := .ty "tuple") (by rfl) T.fTuple (by decide +kernel) rfl) pa_nil)))))
        (pw_or1 (pt_cmpR op_ne (pe_callB call_len_seq (by rfl) T.fLen PySem.boot_len (pa_cons (pv 1) pa_nil)) pe_int (nomark _))))) (pss_one (ps_ret pe_bl)) pss_nil)
      (pss_one (ps_ret (pe_and (pe_can (can_house T) hr (by rfl) pass0 (pa_cons (pv 0) (pa_cons (pe_ix ix_tup (pv 1) pe_int (fun _ _ => rfl)) pa_nil)))
        (pe_and (pe_can (can_house T) hr (by rfl) pass0 (pa_cons (pv 0) (pa_cons (pe_ix ix_tup (pv 1) pe_int (fun _ _ => rfl)) pa_nil)))
          (pe_one (pe_cmpR op_ne (pe_ix ix_tup (pv 1) pe_int (fun _ _ => rfl)) (pe_ix ix_tup (pv 1) pe_int (fun _ _ => rfl)) (nomark _))))))), ?_⟩
    have hq : SqT K H t [.int a, .int b] := SqT.of ht
    refine ⟨_, rfl, _, _, _, _, true, rfl, .ty _, .base (.tup ht), kbT "tuple" "tuple" true rfl K, true, rfl, iteF ?_⟩
    refine ⟨_, rfl, t, _, rfl, .inr hq, rfl, _, rfl, iteF ?_⟩
    refine ⟨_, rfl, _, rfl, t, _, _, _, rfl, rfl, hq, atI_nat (j := 0) rfl, _, _, rfl, .int a, true, congrArg V.bl (house_in a0 a1), iteT ?_⟩
    refine ⟨_, rfl, _, rfl, t, _, _, _, rfl, rfl, hq, atI_nat (j := 1) rfl, _, _, rfl, .int b, true, congrArg V.bl (house_in b0 b1), iteT ?_⟩
    refine ⟨_, rfl, t, _, _, _, rfl, rfl, hq, atI_nat (j := 0) rfl, _, rfl, t, _, _, _, rfl, rfl, hq, atI_nat (j := 1) rfl, rfl, ?_⟩
    rw [decide_eq_false (fun e => ne (V.int.inj e))]
    exact q
theorem can_pair (T : Tx K mg) : Can P w K mg base CX0 3 "is_pair_of" ["many", "thing"] spPair :=
  T.can 2 rfl rfl (fun _ _ _ _ _ _ us hl => match us, hl with | [_, _], _ => rfl) fun _ _ F => ok_pair T F
def spMany : Sp := fun vs H Q _ => ∃ n : Int, vs = [.int n] ∧ 2 ≤ n ∧ n ≤ 32 ∧ Q (.bl true) H
theorem scMany : FnScope ["thing"] ["thing"] (defScope (top 22)) := ⟨rfl, rfl, rfl, by decide +kernel, rfl, by decide +kernel, by decide +kernel⟩
theorem ok_many {f : Addr} {fd : FuncData} (T : Tx K mg) (F : Fun K "is_many" "is_many" (top 22) f fd) : FnOk P w K mg base CX0 2 f fd ["thing"] spMany := by
  refine F.ok scMany (fun vs H Q E h => ?_) (fun cdv A outer s H vs Q E hr h => ?_)
  · obtain ⟨n, rfl, _⟩ := h
    rfl
  · obtain ⟨n, rfl, h2, h32, q⟩ := h
    obtain ⟨t1, e1⟩ := T.least
    obtain ⟨t2, e2⟩ := T.most
    refine ⟨_, pss_one (ps_ret (pe_and (pe_can (can_whole T) hr (by rfl) pass0 (pa_cons (pv 0) pa_nil)) (pe_one (pe_chain op_le op_le (pe_glob (v := .int 2) (by rfl) e1 ⟨_, rfl⟩) (pv 0) (pe_glob (v := .int 32) (by rfl) e2 ⟨_, rfl⟩))))), ?_⟩
    refine ⟨_, rfl, _, rfl, .int n, true, rfl, iteT ?_⟩
    refine ⟨_, rfl, _, _, rfl, rfl, true, congrArg V.bl (decide_eq_true h2), iteT ?_⟩
    refine ⟨_, _, rfl, rfl, ?_⟩
    show Q (.bl (decide (n ≤ 32))) H
    rw [decide_eq_true h32]
    exact q
theorem can_many (T : Tx K mg) : Can P w K mg base CX0 2 "is_many" ["thing"] spMany :=
  T.can 3 rfl rfl (fun _ _ _ _ _ _ us hl => match us, hl with | [_], _ => rfl) fun _ _ F => ok_many T F
end
end NW
-- NwNets
set_option linter.all false
namespace NW
/-! ## Ties as pairs of numbers; which lists of ties are nets -/
abbrev Ties := List (Nat × Nat)

def fromH (h : Nat) (p : Nat × Nat) : Bool := p.1 == h
def intoH (h : Nat) (p : Nat × Nat) : Bool := p.2 == h

inductive Reach (T : Ties) : Nat → Nat → Prop
  | here (a : Nat) : Reach T a a
  | step {a b c : Nat} : Reach T a b → (b, c) ∈ T → Reach T a c

theorem Reach.trans {T : Ties} {a b c : Nat} (x : Reach T a b) (y : Reach T b c) : Reach T a c := by
  induction y with
  | here => exact x
  | step _ h ih => exact .step ih h
theorem Reach.one {T : Ties} {a b : Nat} (h : (a, b) ∈ T) : Reach T a b := .step (.here a) h
theorem Reach.mono {T U : Ties} {a b : Nat} (h : ∀ p, p ∈ T → p ∈ U) (x : Reach T a b) : Reach U a b := by
  induction x with
  | here => exact .here _
  | step _ q ih => exact .step ih (h _ q)

/-- a net of n houses -/
structure Good (n : Nat) (T : Ties) : Prop where
  rng : ∀ p ∈ T, p.1 < n ∧ p.2 < n ∧ p.1 ≠ p.2
  nd : T.Nodup
  bal : ∀ h, T.countP (fromH h) = T.countP (intoH h)
  cap : ∀ h, T.countP (fromH h) ≤ 8
  conn : ∀ a b, a < n → b < n → Reach T a b

theorem Good.perm {n : Nat} {T U : Ties} (g : Good n T) (h : U.Perm T) : Good n U where
  rng := fun p hp => g.rng p (h.mem_iff.mp hp)
  nd := h.nodup_iff.mpr g.nd
  bal := fun x => by rw [h.countP_eq, h.countP_eq, g.bal]
  cap := fun x => by rw [h.countP_eq]; exact g.cap x
  conn := fun a b ha hb => (g.conn a b ha hb).mono fun p hp => h.mem_iff.mpr hp

/-! ### a round through some houses -/
def back (m k : Nat) : Nat := if k = 0 then m - 1 else k - 1
def cyc (o : List Nat) : Ties := (List.range o.length).map fun k => (o.getD (back o.length k) 0, o.getD k 0)

theorem getD_at {o : List Nat} {k : Nat} (h : k < o.length) : o.getD k 0 = o[k] := by
  rw [List.getD_eq_getElem?_getD]; rw [List.getElem?_eq_getElem h]; rfl

theorem range_map_getD (o : List Nat) : ((List.range o.length).map fun k => o.getD k 0) = o := by
  apply List.ext_getElem
  · simp
  · intro i h1 h2
    rw [List.getElem_map, List.getElem_range]
    exact getD_at h2

theorem cyc_snd (o : List Nat) : (cyc o).map (·.2) = o := by
  unfold cyc
  rw [List.map_map]
  exact range_map_getD o

theorem cyc_fst_concat (i : List Nat) (z : Nat) : (cyc (i ++ [z])).map (·.1) = z :: i := by
  unfold cyc
  rw [List.map_map]
  have hl : (i ++ [z]).length = i.length + 1 := by simp
  apply List.ext_getElem
  · simp
  · intro k h1 h2
    rw [List.getElem_map, List.getElem_range]
    show (i ++ [z]).getD (back (i ++ [z]).length k) 0 = _
    rw [hl]
    cases k with
    | zero =>
      show (i ++ [z]).getD (i.length + 1 - 1) 0 = z
      rw [List.getD_eq_getElem?_getD, Nat.add_sub_cancel, List.getElem?_append_right (Nat.le_refl _), Nat.sub_self]
      rfl
    | succ k =>
      have hk : k < i.length := by simpa using h2
      show (i ++ [z]).getD (k + 1 - 1) 0 = i[k]
      rw [Nat.add_sub_cancel, List.getD_eq_getElem?_getD, List.getElem?_append_left hk, List.getElem?_eq_getElem hk]
      rfl

theorem cyc_fst (o : List Nat) : ((cyc o).map (·.1)).Perm o := by
  rcases List.eq_nil_or_concat o with e | ⟨i, z, e⟩
  · subst e; exact List.Perm.refl _
  · subst e
    rw [List.concat_eq_append, cyc_fst_concat]
    exact (List.perm_append_singleton z i).symm

theorem countP_from (h : Nat) (T : Ties) : T.countP (fromH h) = (T.map (·.1)).count h := by
  rw [List.count_eq_countP, List.countP_map]; rfl
theorem countP_into (h : Nat) (T : Ties) : T.countP (intoH h) = (T.map (·.2)).count h := by
  rw [List.count_eq_countP, List.countP_map]; rfl

theorem cyc_from (o : List Nat) (h : Nat) : (cyc o).countP (fromH h) = o.count h := by
  rw [countP_from, (cyc_fst o).count_eq]
theorem cyc_into (o : List Nat) (h : Nat) : (cyc o).countP (intoH h) = o.count h := by
  rw [countP_into, cyc_snd]

theorem nodup_of_map {α β : Type} (f : α → β) {l : List α} (h : (l.map f).Nodup) : l.Nodup := by
  induction l with
  | nil => exact List.nodup_nil
  | cons x l ih =>
    rw [List.map_cons] at h
    obtain ⟨h1, h2⟩ := List.nodup_cons.mp h; exact List.nodup_cons.mpr ⟨fun hx => h1 (List.mem_map_of_mem hx), ih h2⟩

theorem cyc_nodup {o : List Nat} (nd : o.Nodup) : (cyc o).Nodup := nodup_of_map (·.2) (by rw [cyc_snd]; exact nd)

theorem nodup_at {o : List Nat} (nd : o.Nodup) {i j : Nat} (hi : i < o.length) (hj : j < o.length) (e : o[i] = o[j]) : i = j := by
  rcases Nat.lt_trichotomy i j with c | c | c
  · exact absurd e ((List.pairwise_iff_getElem.mp nd) i j hi hj c)
  · exact c
  · exact absurd e.symm ((List.pairwise_iff_getElem.mp nd) j i hj hi c)

theorem back_lt {m k : Nat} (h : k < m) : back m k < m := by unfold back; split <;> omega
theorem back_ne {m k : Nat} (h : k < m) (h2 : 2 ≤ m) : back m k ≠ k := by unfold back; split <;> omega

theorem cyc_mem {o : List Nat} {p : Nat × Nat} (h : p ∈ cyc o) : ∃ k, ∃ hk : k < o.length, p = (o[back o.length k]'(back_lt hk), o[k]) := by
  unfold cyc at h
  obtain ⟨k, hk, e⟩ := List.mem_map.mp h
  have hk' := List.mem_range.mp hk
  refine ⟨k, hk', ?_⟩
  rw [← e, getD_at hk', getD_at (back_lt hk')]

theorem cyc_rng {o : List Nat} {n : Nat} (nd : o.Nodup) (h2 : 2 ≤ o.length) (hn : ∀ x ∈ o, x < n) : ∀ p ∈ cyc o, p.1 < n ∧ p.2 < n ∧ p.1 ≠ p.2 := by
  intro p hp
  obtain ⟨k, hk, e⟩ := cyc_mem hp
  subst e
  refine ⟨hn _ (List.getElem_mem _), hn _ (List.getElem_mem _), fun e => back_ne hk h2 (nodup_at nd _ _ e)⟩

theorem cyc_src {o : List Nat} {h : Nat} (hh : h ∈ o) : ∃ p ∈ cyc o, p.1 = h := by
  have := (cyc_fst o).mem_iff.mpr hh
  obtain ⟨p, hp, e⟩ := List.mem_map.mp this
  exact ⟨p, hp, e⟩

theorem cyc_next (o : List Nat) {k : Nat} (hk : k + 1 < o.length) : (o[k]'(by omega), o[k + 1]) ∈ cyc o := by
  unfold cyc
  refine List.mem_map.mpr ⟨k + 1, List.mem_range.mpr hk, ?_⟩
  rw [getD_at hk, getD_at (back_lt hk)]
  rfl
theorem cyc_close (o : List Nat) (h : 0 < o.length) : (o[o.length - 1]'(by omega), o[0]) ∈ cyc o := by
  unfold cyc
  refine List.mem_map.mpr ⟨0, List.mem_range.mpr h, ?_⟩
  rw [getD_at h, getD_at (back_lt h)]
  rfl
theorem cyc_up (o : List Nat) {T : Ties} (hT : ∀ p, p ∈ cyc o → p ∈ T) : ∀ (d i : Nat) (h : i + d < o.length), Reach T (o[i]'(by omega)) o[i + d]
  | 0, i, h => .here _
  | d + 1, i, h => .step (cyc_up o hT d i (by omega)) (hT _ (cyc_next o h))
theorem cyc_conn (o : List Nat) {T : Ties} (hT : ∀ p, p ∈ cyc o → p ∈ T) {a b : Nat} (ha : a ∈ o) (hb : b ∈ o) : Reach T a b := by
  obtain ⟨i, hi, e⟩ := List.getElem_of_mem ha
  obtain ⟨j, hj, e'⟩ := List.getElem_of_mem hb
  subst e e'
  have h0 : 0 < o.length := by omega
  have up : ∀ k (hk : k < o.length), Reach T o[0] o[k] := fun k hk => by
    have z := cyc_up o hT k 0 (by omega)
    simpa using z
  have top : Reach T o[i] (o[o.length - 1]'(by omega)) := by
    have z := cyc_up o hT (o.length - 1 - i) i (by omega)
    have e : i + (o.length - 1 - i) = o.length - 1 := by omega
    simpa [e] using z
  exact (Reach.step top (hT _ (cyc_close o h0))).trans (up j hj)

/-- all houses in a round are a net -/
theorem good_ring {n : Nat} {o : List Nat} (hp : o.Perm (List.range n)) (h2 : 2 ≤ n) : Good n (cyc o) := by
  have nd : o.Nodup := hp.nodup_iff.mpr List.nodup_range
  have hl : o.length = n := by rw [hp.length_eq, List.length_range]
  have mem : ∀ x, x ∈ o ↔ x < n := fun x => by rw [hp.mem_iff, List.mem_range]
  have one : ∀ h, o.count h ≤ 1 := List.nodup_iff_count.mp nd
  refine ⟨cyc_rng nd (by omega) fun x hx => (mem x).mp hx, cyc_nodup nd, fun h => by rw [cyc_from, cyc_into], fun h => ?_, fun a b ha hb => ?_⟩
  · rw [cyc_from]; have := one h; omega
  · exact cyc_conn o (fun _ h => h) ((mem a).mpr ha) ((mem b).mpr hb)

/-- a round more -/
theorem good_more {n : Nat} {T : Ties} {s : List Nat} (g : Good n T) (nd : s.Nodup) (h2 : 2 ≤ s.length) (hn : ∀ x ∈ s, x < n)
    (few : ∀ p ∈ cyc s, T.countP (fromH p.1) ≤ 7) (new : ∀ p ∈ cyc s, p ∉ T) : Good n (T ++ cyc s) := by
  have one : ∀ h, s.count h ≤ 1 := List.nodup_iff_count.mp nd
  refine ⟨fun p hp => ?_, List.nodup_append.mpr ⟨g.nd, cyc_nodup nd, fun a ha b hb e => new b hb (e ▸ ha)⟩, fun h => ?_, fun h => ?_, fun a b ha hb => ?_⟩
  · rcases List.mem_append.mp hp with c | c
    · exact g.rng p c
    · exact cyc_rng nd h2 hn p c
  · rw [List.countP_append, List.countP_append, g.bal, cyc_from, cyc_into]
  · rw [List.countP_append, cyc_from]
    by_cases hs : h ∈ s
    · obtain ⟨p, hp, e⟩ := cyc_src hs
      have a := few p hp
      have b := one h
      rw [e] at a
      omega
    · rw [List.count_eq_zero_of_not_mem hs]
      exact g.cap h
  · exact (g.conn a b ha hb).mono fun p hp => List.mem_append_left _ hp

/-! ### a tree tied both ways, house by house -/
structure Part (P : List Nat) (T : Ties) : Prop where
  rng : ∀ p ∈ T, p.1 ∈ P ∧ p.2 ∈ P ∧ p.1 ≠ p.2
  nd : T.Nodup
  bal : ∀ h, T.countP (fromH h) = T.countP (intoH h)
  cap : ∀ h, T.countP (fromH h) ≤ 8
  conn : ∀ a b, a ∈ P → b ∈ P → Reach T a b

theorem part_one (x : Nat) : Part [x] [] where
  rng := fun p hp => by cases hp
  nd := List.nodup_nil
  bal := fun _ => rfl
  cap := fun _ => Nat.zero_le _
  conn := fun a b ha hb => by
    rw [List.mem_singleton.mp ha, List.mem_singleton.mp hb]; exact .here _

theorem zero_out {P : List Nat} {T : Ties} (g : Part P T) {v : Nat} (hv : v ∉ P) : T.countP (fromH v) = 0 := by
  rw [List.countP_eq_zero]
  intro p hp e
  have := (g.rng p hp).1
  rw [show p.1 = v from beq_iff_eq.mp e] at this
  exact hv this

theorem part_more {P : List Nat} {T : Ties} (g : Part P T) {v s : Nat} (hv : v ∉ P) (hs : s ∈ P) (few : T.countP (fromH s) < 8) :
    Part (P ++ [v]) (T ++ [(s, v), (v, s)]) ∧ (T ++ [(s, v), (v, s)]).countP (fromH v) = 1 := by
  have hne : s ≠ v := fun e => hv (e ▸ hs)
  have z := zero_out g hv
  have c2 : ∀ h, ([(s, v), (v, s)] : Ties).countP (fromH h) = (if s = h then 1 else 0) + (if v = h then 1 else 0) := fun h => by
    simp [List.countP_cons, fromH]; omega
  have c3 : ∀ h, ([(s, v), (v, s)] : Ties).countP (intoH h) = (if s = h then 1 else 0) + (if v = h then 1 else 0) := fun h => by
    simp [List.countP_cons, intoH]
  refine ⟨⟨fun p hp => ?_, ?_, fun h => ?_, fun h => ?_, fun a b ha hb => ?_⟩, ?_⟩
  · rcases List.mem_append.mp hp with c | c
    · obtain ⟨a, b, d⟩ := g.rng p c
      exact ⟨List.mem_append_left _ a, List.mem_append_left _ b, d⟩
    · rcases List.mem_cons.mp c with c | c
      · subst c
        exact ⟨List.mem_append_left _ hs, List.mem_append_right _ (List.mem_singleton.mpr rfl), hne⟩
      · rw [List.mem_singleton.mp c]
        exact ⟨List.mem_append_right _ (List.mem_singleton.mpr rfl), List.mem_append_left _ hs, fun e => hne e.symm⟩
  · refine List.nodup_append.mpr ⟨g.nd, ?_, ?_⟩
    · refine List.nodup_cons.mpr ⟨fun h => ?_, List.nodup_cons.mpr ⟨List.not_mem_nil, List.nodup_nil⟩⟩
      have e := List.mem_singleton.mp h
      exact hne (congrArg Prod.fst e)
    · intro a ha b hb e
      subst e
      obtain ⟨x, y, _⟩ := g.rng a ha
      rcases List.mem_cons.mp hb with c | c
      · rw [c] at y; exact hv y
      · rw [List.mem_singleton.mp c] at x; exact hv x
  · rw [List.countP_append, List.countP_append, g.bal, c2, c3]
  · rw [List.countP_append, c2]
    have gc := g.cap h
    by_cases e1 : s = h
    · subst e1
      rw [if_pos rfl, if_neg (fun e => hne e.symm)]
      omega
    · rw [if_neg e1]
      by_cases e2 : v = h
      · subst e2
        rw [if_pos rfl, z]; omega
      · rw [if_neg e2]; omega
  · have old : ∀ {x y : Nat}, x ∈ P → y ∈ P → Reach (T ++ [(s, v), (v, s)]) x y := fun hx hy => (g.conn _ _ hx hy).mono fun p hp => List.mem_append_left _ hp
    have e1 : (s, v) ∈ T ++ [(s, v), (v, s)] := by simp
    have e2 : (v, s) ∈ T ++ [(s, v), (v, s)] := by simp
    rcases List.mem_append.mp ha with a1 | a1 <;> rcases List.mem_append.mp hb with b1 | b1
    · exact old a1 b1
    · rw [List.mem_singleton.mp b1]
      exact .step (old a1 hs) e1
    · rw [List.mem_singleton.mp a1]
      exact (Reach.one e2).trans (old hs b1)
    · rw [List.mem_singleton.mp a1, List.mem_singleton.mp b1]
      exact .here _
  · rw [List.countP_append, c2, z, if_neg hne, if_pos rfl]

theorem part_good {n : Nat} {o : List Nat} {T : Ties} (hp : o.Perm (List.range n)) (g : Part o T) : Good n T where
  rng := fun p h => by
    obtain ⟨a, b, c⟩ := g.rng p h
    exact ⟨List.mem_range.mp (hp.mem_iff.mp a), List.mem_range.mp (hp.mem_iff.mp b), c⟩
  nd := g.nd
  bal := g.bal
  cap := g.cap
  conn := fun a b ha hb => g.conn a b (hp.mem_iff.mpr (List.mem_range.mpr ha)) (hp.mem_iff.mpr (List.mem_range.mpr hb))

/-! ### how many ties there are -/
theorem countP_sum (T : Ties) : ∀ n : Nat, (∀ p ∈ T, p.1 < n) → (∀ h, T.countP (fromH h) ≤ 8) → T.length ≤ 8 * n := by
  intro n
  induction n generalizing T with
  | zero =>
    intro h _
    cases T with
    | nil => exact Nat.le_refl _
    | cons p _ => exact absurd (h p List.mem_cons_self) (Nat.not_lt_zero _)
  | succ n ih =>
    intro h c
    have e : T.length = T.countP (fromH n) + (T.filter fun p => !fromH n p).length := by
      rw [List.length_eq_countP_add_countP (fromH n), ← List.countP_eq_length_filter]
      congr 1
      apply List.countP_congr
      intro x _
      cases fromH n x <;> simp
    have a := ih (T.filter fun p => !fromH n p) (fun p hp => by
      obtain ⟨h1, h2⟩ := List.mem_filter.mp hp
      have h3 := h p h1
      have h4 : p.1 ≠ n := fun e => by simp [fromH, e] at h2
      omega) (fun x => Nat.le_trans (List.Sublist.countP_le List.filter_sublist) (c x))
    have b := c n
    omega
theorem Good.len {n : Nat} {T : Ties} (g : Good n T) : T.length ≤ 8 * n := countP_sum T n (fun p hp => (g.rng p hp).1) g.cap
end NW
-- NwHp
set_option Elab.async false
set_option linter.all false
set_option maxRecDepth 100000
set_option maxHeartbeats 4200000
namespace NW
open PySem PySem.Spec L2 PyProof.Rows
/-! ## Words about heaps -/
/-- a house as a value -/
abbrev nV (n : Nat) : V := .int (n : Int)
/-- all but p stands as before -/
def But (p : Addr) (H H' : Hp) : Prop := ∀ b o, b ≠ p → H b = some o → H' b = some o
theorem But.refl (p : Addr) (H : Hp) : But p H H := fun _ _ _ h => h
theorem But.trans {p : Addr} {H H1 H2 : Hp} (a : But p H H1) (b : But p H1 H2) : But p H H2 := fun c o hc h => b c o hc (a c o hc h)
theorem But.of {p : Addr} {H H' : Hp} (s : Same H H') : But p H H' := fun b o _ h => s b o h
theorem but_upd {p : Addr} {H : Hp} {o : HO} : But p H (upd H p o) := fun b u hb h => by rw [upd_ne hb]; exact h
theorem same_new {H : Hp} {p : Addr} {o : HO} (h : H p = none) : Same H (upd H p o) := fun b x e => by
  rw [upd_ne (ne_of_none e h)]; exact e
/-- what was free before is free, unless it is p -/
theorem But.free {p : Addr} {H H' : Hp} (s : But p H H') {l : Addr} (hl : l ≠ p) (h : H' l = none) : H l = none := by
  cases e : H l with
  | none => rfl
  | some o => rw [s l o hl e] at h; cases h
/-- the pot of digits -/
def Pot (H : Hp) (p : Addr) : Prop := ∃ a b : Int, H p = some (.lst [.int a, .int b])
theorem Pot.but {p q : Addr} {H H' : Hp} (h : Pot H p) (s : But q H H') (ne : p ≠ q) : Pot H' p := by
  obtain ⟨a, b, h⟩ := h
  exact ⟨a, b, s p _ ne h⟩
theorem Pot.same {p : Addr} {H H' : Hp} (h : Pot H p) (s : Same H H') : Pot H' p := by
  obtain ⟨a, b, h⟩ := h
  exact ⟨a, b, s p _ h⟩
theorem Pot.ne {p q : Addr} {H : Hp} (h : Pot H p) (hq : H q = none) : p ≠ q := by
  obtain ⟨a, b, h⟩ := h
  exact ne_of_none h hq
/-- a list of numbers -/
abbrev NL (H : Hp) (l : Addr) (ns : List Nat) : Prop := H l = some (.lst (ns.map nV))
/-- a list of pairs: their addresses and what they hold -/
structure PL (H : Hp) (l : Addr) (ts : List (Addr × Nat × Nat)) : Prop where
  at_ : H l = some (.lst (ts.map fun t => V.ref t.1))
  tup : ∀ t ∈ ts, H t.1 = some (.tup [nV t.2.1, nV t.2.2])
/-- a list of lists of numbers -/
structure LL (H : Hp) (l : Addr) (rs : List (Addr × List Nat)) : Prop where
  at_ : H l = some (.lst (rs.map fun r => V.ref r.1))
  row : ∀ r ∈ rs, NL H r.1 r.2
theorem PL.same {H H' : Hp} {l : Addr} {ts : List (Addr × Nat × Nat)} (h : PL H l ts) (s : Same H H') : PL H' l ts := ⟨s _ _ h.at_, fun t ht => s _ _ (h.tup t ht)⟩
theorem LL.same {H H' : Hp} {l : Addr} {rs : List (Addr × List Nat)} (h : LL H l rs) (s : Same H H') : LL H' l rs := ⟨s _ _ h.at_, fun t ht => s _ _ (h.row t ht)⟩
theorem tup_ne_lst {H : Hp} {a b : Addr} {xs ys : List V} (h : H a = some (.tup xs)) (h' : H b = some (.lst ys)) : a ≠ b := ne_of h h' (by intro z; cases z)
theorem PL.but {H H' : Hp} {l p : Addr} {ts : List (Addr × Nat × Nat)} (h : PL H l ts) (s : But p H H') (hl : l ≠ p) {xs : List V} (hp : H p = some (.lst xs)) : PL H' l ts :=
  ⟨s _ _ hl h.at_, fun t ht => s _ _ (tup_ne_lst (h.tup t ht) hp) (h.tup t ht)⟩
theorem PL.butPot {H H' : Hp} {l p : Addr} {ts : List (Addr × Nat × Nat)} (h : PL H l ts) (s : But p H H') (hl : l ≠ p) (hp : Pot H p) : PL H' l ts := by
  obtain ⟨a, b, hp⟩ := hp
  exact h.but s hl hp
theorem PL.get {H : Hp} {l : Addr} {ts : List (Addr × Nat × Nat)} (h : PL H l ts) {i : Nat} {t : Addr × Nat × Nat} (e : ts[i]? = some t) : (ts.map fun t => V.ref t.1)[i]? = some (.ref t.1) ∧ H t.1 = some (.tup [nV t.2.1, nV t.2.2]) :=
  ⟨by rw [List.getElem?_map, e]; rfl, h.tup t (List.mem_of_getElem? e)⟩
theorem map_at {α : Type} {f : α → V} {xs : List α} {i : Nat} {x : V} (h : (xs.map f)[i]? = some x) : ∃ y, xs[i]? = some y ∧ x = f y := by
  rw [List.getElem?_map] at h
  cases e : xs[i]? with
  | none => rw [e] at h; exact nomatch h
  | some y => rw [e] at h; exact ⟨y, rfl, (Option.some.inj h).symm⟩
theorem nl_at {ns : List Nat} {i : Nat} (h : i < ns.length) : (ns.map nV)[i]? = some (nV ns[i]) := by
  rw [List.getElem?_map, List.getElem?_eq_getElem h]; rfl
theorem atN {ns : List Nat} {i : Nat} (h : i < ns.length) : atI (ns.map nV) (i : Int) = some (nV ns[i]) := atI_nat (nl_at h)
theorem map_eraseIdx' {α β : Type} (f : α → β) : ∀ (l : List α) (i : Nat), (l.map f).eraseIdx i = (l.eraseIdx i).map f
  | [], _ => rfl
  | _ :: _, 0 => rfl
  | x :: l, i + 1 => by
    show f x :: (l.map f).eraseIdx i = f x :: (l.eraseIdx i).map f
    rw [map_eraseIdx' f l i]
theorem perm_eraseIdx {α : Type} : ∀ (l : List α) (i : Nat) (h : i < l.length), l.Perm (l[i] :: l.eraseIdx i)
  | x :: l, 0, _ => List.Perm.refl _
  | x :: l, i + 1, h => by
    have ih := perm_eraseIdx l i (Nat.lt_of_succ_lt_succ h)
    show (x :: l).Perm (l[i]'(Nat.lt_of_succ_lt_succ h) :: x :: l.eraseIdx i)
    exact (ih.cons x).trans (List.Perm.swap _ _ _)
theorem small_le {n : Nat} (h : n ≤ 1000) : n ≤ sizeLine := Nat.le_of_lt (small1000 h)
theorem map_snoc {α β : Type} (f : α → β) (l : List α) (x : α) : (l ++ [x]).map f = l.map f ++ [f x] := by rw [List.map_append]; rfl
end NW
-- NwK
set_option Elab.async false
set_option linter.all false
set_option maxRecDepth 100000
set_option maxHeartbeats 4200000
namespace NW
open PySem PySem.Spec L2 PyProof.Rows
/-! ## Rules inside a comprehension: the written part K is handed in, so that the reading does not name the block's context -/
section
variable {X : Cx} {K : PySem.W.Frag}
theorem ixL (K : PySem.W.Frag) (h : X.K = K := by rfl) : IxR X (rIxL K) := by subst h; exact ix_list
theorem ixT (K : PySem.W.Frag) (h : X.K = K := by rfl) : IxR X (rIxT K) := by subst h; exact ix_tup
def rLen (K : PySem.W.Frag) : List V → Hp → VK → Prop := fun xs H Q => ∃ p ys, xs = [.ref p] ∧ (SqL K H p ys ∨ SqT K H p ys) ∧ Q (.int ys.length) H
theorem clen (K : PySem.W.Frag) (h : X.K = K := by rfl) : CallR X (.builtin "len") (rLen K) := by subst h; exact call_len_seq
theorem oin (K : PySem.W.Frag) (h : X.K = K := by rfl) : OpR X (compareOp .In) (rIn K false) := by subst h; exact op_in_seq
theorem onotin (K : PySem.W.Frag) (h : X.K = K := by rfl) : OpR X (compareOp .NotIn) (rIn K true) := by subst h; exact op_notIn_seq
theorem oinD (K : PySem.W.Frag) (hu : X.A.units + 65 < cLine) (h : X.K = K := by rfl) : OpR X (compareOp .In) (rInD K) := by subst h; exact op_inD hu
theorem cmax (K : PySem.W.Frag) (hc : X.calm = true) (h : X.K = K := by rfl) : CallR X (.builtin "max") (rMax K) := by subst h; exact cr_max hc
theorem csort (K : PySem.W.Frag) (h : X.K = K := by rfl) : CallR X (.builtin "sorted") (rSortedI K) := by subst h; exact cr_sortedI
theorem piL (K : PySem.W.Frag) {tg l : Expr} {tl : TE} (hl : PE X l tl) (h : X.K = K := by rfl) : PI X tg l (iList K tl) := by subst h; exact pi_list hl
theorem fldK (K : PySem.W.Frag) {e : Expr} {f : Str} {pos : Pos} {ta : TE} (he : PE X e ta) (hb : attributeBase e f X.env (eval e X.env) = eval e X.env) (h : X.K = K := by rfl) : PE X (.Attribute e f pos) (tFld K ta f) := by
  subst h; exact pe_fld he hb
theorem tupK (K : PySem.W.Frag) {pos : Pos} {es : List Expr} {k : Nat} {t : TGs} {n : Nat} (hc : X.calm = true) (h : PGs X es t) (hK : X.K = K := by rfl)
    (hn : (assignEach es X.env).length = n := by rfl) (hst : (assignEach es X.env).findIdx? (·.1) = none := by rfl) : PG X (.Tuple es k pos) (gTup K n t) := by
  subst hK; exact pg_tup hc h hn hst
theorem bmK {o e : Expr} {es : List Expr} {to : TE} {t : TA} {name : Str} {apos cpos : Pos} {T id : String} {r : V → List V → Hp → VK → Prop} (K : PySem.W.Frag)
    (pa : PlainAttrs T) (slot : Slot T name id) (hty : typeOf (.builtin id) = pure (.type "method_descriptor")) (hm : MtR X id r) (ho : PE X o to) (ha : PA X (e :: es) t) (hK : X.K = K := by rfl)
    (b1 : attributeBase o name X.env (eval o X.env) = eval o X.env := by rfl) (b2 : ((backTo cpos (starEach (e :: es) X.env)).all (fun x => !x.1) && (backToKw cpos (keywordEach [] X.env)).all (fun x => x.1.isSome) && decide ((e :: es).length + ([] : List Keyword).length + (if ([] : List Keyword).isEmpty then 0 else 1) < 30)) = true := by rfl)
    (hline : (apos.endLine == cpos.line) = true := by rfl) (hs : starEach (e :: es) X.env = (false, eval e X.env) :: starEach es X.env := by rfl)
    (hpl : (backTo cpos (starEach es X.env)).any (·.1) = false := by rfl) : PE X (.Call (.Attribute o name apos) (e :: es) [] cpos) (tBM K T r to t) := by
  subst hK; exact pe_bm pa slot hty hm ho ha b1 b2 hline hs hpl
/-- xs.append(e), xs.pop(i), xs.extend(ys) -/
theorem appK {o e : Expr} {to te : TE} {apos cpos : Pos} (K : PySem.W.Frag) (ho : PE X o to) (he : PE X e te) (hK : X.K = K := by rfl)
    (hbase : attributeBase o "append" X.env (eval o X.env) = eval o X.env := by rfl) (hs : starEach (e :: []) X.env = (false, eval e X.env) :: starEach [] X.env := by rfl)
    (hfew : ((backTo cpos (starEach (e :: []) X.env)).all (fun x => !x.1) && (backToKw cpos (keywordEach [] X.env)).all (fun x => x.1.isSome)
      && decide ((e :: ([] : List Expr)).length + ([] : List Keyword).length + (if ([] : List Keyword).isEmpty then 0 else 1) < 30)) = true := by rfl)
    (hline : (apos.endLine == cpos.line) = true := by rfl) : PE X (.Call (.Attribute o "append" apos) [e] [] cpos) (tBM K "list" rAppend to (tCons te tNil)) :=
  bmK K PySem.F.plainAttrs_list PySem.F.slot_list_append PySem.F.type_list_append mt_append ho (pa_cons he pa_nil hs) hK hbase hfew hline hs rfl
end
end NW
-- NwData
set_option Elab.async false
set_option linter.all false
set_option maxRecDepth 100000
set_option maxHeartbeats 4200000
namespace NW
open PySem PySem.Spec L2 PyProof.Rows
/-! ## Numbers, pairs and lists of them as data that == compares -/
def iDs (ns : List Nat) : List PyData := ns.map fun (n : Nat) => .int (n : Int)
def iD (ns : List Nat) : PyData := .list (iDs ns)
def pD (p : Nat × Nat) : PyData := .tuple [.int (p.1 : Int), .int (p.2 : Int)]
def psD (ps : List (Nat × Nat)) : PyData := .list (ps.map pD)
theorem iDs_lay : ∀ ns, PyData.canLayAll0 (iDs ns) = true
  | [] => by simp [iDs, PyData.canLayAll0]
  | n :: ns => by
    have ih := iDs_lay ns
    simp only [iDs] at ih
    simp [iDs, PyData.canLayAll0, PyData.canLay0, ih]
theorem iDs_deep : ∀ ns, PyData.depthAll (iDs ns) ≤ 0
  | [] => by simp [iDs, PyData.depthAll]
  | n :: ns => by
    have ih := iDs_deep ns
    simp only [iDs] at ih
    simp only [iDs, List.map_cons, PyData.depthAll, PyData.depth]
    omega
theorem pDs_lay : ∀ ps : List (Nat × Nat), PyData.canLayAll0 (ps.map pD) = true
  | [] => (by simp [PyData.canLayAll0])
  | p :: ps => by
    have ih := pDs_lay ps
    simp [PyData.canLayAll0, PyData.canLay0, pD, ih]
theorem pD_deep (p : Nat × Nat) : PyData.depth (pD p) = 1 := by simp [pD, PyData.depth, PyData.depthAll]
theorem pDs_deep : ∀ ps : List (Nat × Nat), PyData.depthAll (ps.map pD) ≤ 1
  | [] => (by simp [PyData.depthAll])
  | p :: ps => by
    have ih := pDs_deep ps
    have h := pD_deep p; simp only [List.map_cons, PyData.depthAll]
    omega
theorem shaped_mk {d : PyData} (h1 : PyData.canLay0 d = true) (h2 : d.depth ≤ 64) : SeqAt.shaped d = true := by
  unfold SeqAt.shaped
  rw [h1, decide_eq_true h2]; rfl
theorem iD_shaped (ns : List Nat) : SeqAt.shaped (iD ns) = true := by
  refine shaped_mk (by simp only [iD, PyData.canLay0]; exact iDs_lay ns) ?_
  have h := iDs_deep ns
  simp only [iD, PyData.depth]
  omega
theorem pD_shaped (p : Nat × Nat) : SeqAt.shaped (pD p) = true := by
  refine shaped_mk (by simp [pD, PyData.canLay0, PyData.canLayAll0]) ?_
  rw [pD_deep]; decide
theorem psD_shaped (ps : List (Nat × Nat)) : SeqAt.shaped (psD ps) = true := by
  refine shaped_mk (by simp only [psD, PyData.canLay0]; exact pDs_lay ps) ?_
  have h := pDs_deep ps
  simp only [psD, PyData.depth]
  omega
theorem nilD_shaped : SeqAt.shaped (.list []) = true := iD_shaped []
theorem eqv_int (a b : Nat) : PyData.eqv (.int (a : Int)) (.int (b : Int)) = decide (a = b) := by
  simp only [PyData.eqv]
  by_cases h : a = b
  · subst h; simp
  · rw [decide_eq_false h]; exact beq_eq_false_iff_ne.mpr (by omega)
theorem iDs_eqv : ∀ ns ms : List Nat, PyData.eqvAll (iDs ns) (iDs ms) = decide (ns = ms)
  | [], [] => by simp [iDs, PyData.eqvAll]
  | [], _ :: _ => by simp [iDs, PyData.eqvAll]
  | _ :: _, [] => by simp [iDs, PyData.eqvAll]
  | n :: ns, m :: ms => by
    have ih := iDs_eqv ns ms
    simp only [iDs] at ih
    simp only [iDs, List.map_cons, PyData.eqvAll, ih, eqv_int]
    by_cases h : n = m <;> by_cases h' : ns = ms <;> simp [h, h']
theorem iD_eqv (ns ms : List Nat) : PyData.eqv (iD ns) (iD ms) = decide (ns = ms) := by
  simp only [iD, PyData.eqv]; exact iDs_eqv ns ms
theorem eqv_nil (ds : List PyData) : PyData.eqv (.list ds) (.list []) = ds.isEmpty := by
  cases ds <;> simp [PyData.eqv, PyData.eqvAll]
theorem pD_eqv (p q : Nat × Nat) : PyData.eqv (pD p) (pD q) = decide (p = q) := by
  have e : PyData.eqv (pD p) (pD q) = (PyData.eqv (.int (p.1 : Int)) (.int (q.1 : Int)) && (PyData.eqv (.int (p.2 : Int)) (.int (q.2 : Int)) && true)) := by simp only [pD, PyData.eqv, PyData.eqvAll]
  rw [e, eqv_int, eqv_int]
  obtain ⟨a, b⟩ := p
  obtain ⟨c, d⟩ := q
  by_cases h : a = c <;> by_cases h' : b = d <;> simp [h, h']
theorem psD_any (ps : List (Nat × Nat)) (p : Nat × Nat) : ((ps.map pD).any fun z => PyData.eqv z (pD p)) = decide (p ∈ ps) := by
  induction ps with
  | nil => simp
  | cons q ps ih =>
    rw [List.map_cons, List.any_cons, ih, pD_eqv]
    by_cases h : q = p
    · subst h; simp
    · have h' : ¬ p = q := fun e => h e.symm
      simp [h, h']
section
variable {K : PySem.W.Frag} {H : Hp}
theorem dp_ints : ∀ ns : List Nat, DpAll K H (ns.map nV) (iDs ns)
  | [] => .nil
  | n :: ns => .cons (.int _) (dp_ints ns)
theorem dp_nl {a : Addr} {ns : List Nat} (h : NL H a ns) : Dp K H (.ref a) (iD ns) := .lst (SqL.of h) (dp_ints ns)
theorem dp_nil {a : Addr} (h : H a = some (.lst [])) : Dp K H (.ref a) (.list []) := .lst (SqL.of h) .nil
theorem dp_pair {t : Addr} {p : Nat × Nat} (h : H t = some (.tup [nV p.1, nV p.2])) : Dp K H (.ref t) (pD p) := .tup (SqT.of h) (.cons (.int _) (.cons (.int _) .nil))
theorem dp_pairs : ∀ ts : List (Addr × Nat × Nat), (∀ t ∈ ts, H t.1 = some (.tup [nV t.2.1, nV t.2.2])) → DpAll K H (ts.map fun t => V.ref t.1) ((ts.map (·.2)).map pD)
  | [], _ => .nil
  | t :: ts, h => .cons (dp_pair (p := t.2) (h t List.mem_cons_self)) (dp_pairs ts fun u hu => h u (List.mem_cons_of_mem _ hu))
theorem dp_pl {l : Addr} {ts : List (Addr × Nat × Nat)} (h : PL H l ts) : Dp K H (.ref l) (psD (ts.map (·.2))) := .lst (SqL.of h.at_) (dp_pairs ts h.tup)
end
end NW
-- NwRd
set_option Elab.async false
set_option linter.all false
set_option maxRecDepth 100000
set_option maxHeartbeats 4200000
namespace NW
open PySem PySem.Spec L2 PyProof.Rows
/-! ## Readings that come more than once -/
theorem take_snoc {α : Type} {l : List α} {i : Nat} {x : α} (h : l[i]? = some x) : l.take (i + 1) = l.take i ++ [x] := by
  rw [List.take_add_one, h]; rfl
theorem filter_snoc {α : Type} (p : α → Bool) {l : List α} {i : Nat} {x : α} (h : l[i]? = some x) : (l.take (i + 1)).filter p = (l.take i).filter p ++ (if p x then [x] else []) := by
  rw [take_snoc h, List.filter_append]
  cases e : p x <;> simp [e]
theorem filter_take_len {α : Type} (p : α → Bool) (l : List α) (i : Nat) : ((l.take i).filter p).length ≤ l.length := by
  have a := List.length_filter_le p (l.take i)
  have b := List.length_take_le i l
  rw [List.length_take] at a
  omega
/-- the ties out of h -/
def outOf (h : Nat) (ts : List (Addr × Nat × Nat)) : List (Addr × Nat × Nat) := ts.filter fun t => t.2.1 == h
theorem outOf_len (h : Nat) (ts : List (Addr × Nat × Nat)) : (outOf h ts).length = (ts.map (·.2)).countP (fromH h) := by
  unfold outOf
  rw [← List.countP_eq_length_filter, List.countP_map]; rfl
/-- what is left of a comprehension once the thing walked and the new list's place are there -/
abbrev LcG (J : It) (g : TG) (tt : TT) (te : TE) (vs : List Nat) (σ : L2.St) (H1 : Hp) (D : Addr) (Qd : Hp → Prop) : Prop :=
  ∃ inv : Nat → Nat → Hp → Prop, (∃ fuel, inv 0 fuel (upd H1 D (.lst []))) ∧ ∀ turn fuel Hn, inv turn fuel Hn → (J.stop turn Hn ∧ Qd Hn) ∨
    (J.go turn Hn ∧ ∃ on : Hp → Prop, (∀ Ho, on Ho → ∃ less, less < fuel ∧ inv (turn + 1) less Ho) ∧ ∀ item Hi, J.yld turn Hn item Hi → g item (wipe σ vs) Hi fun σ2 H2 => wipe σ2 vs = wipe σ vs ∧
      tt σ2 H2 fun b H3 => if b = true then te σ2 H3 fun y H4 => ∃ had, H4 D = some (.lst had) ∧ had.length < sizeLine ∧ on (upd H4 D (.lst (had ++ [y]))) else on H3)
section
variable {K : PySem.W.Frag} {σ : L2.St} {H : Hp} {D : Addr} {Qd : Hp → Prop}
/-- [tie for tie in ties if tie[0] == house] -/
theorem rd_from {b it : Nat} {l : Addr} {ts : List (Addr × Nat × Nat)} {h : Nat} (nD : H D = none) (hb : ∀ x, ((wipe σ [it]).set it (some x))[b]? = some (some (nV h)))
    (hi : ∀ x, ((wipe σ [it]).set it (some x))[it]? = some (some x)) (hw : ∀ x, wipe ((wipe σ [it]).set it (some x)) [it] = wipe σ [it]) (hl : PL H l ts) (few : ts.length ≤ 1000)
    (q : ∀ H', Same H H' → H' D = some (.lst ((outOf h ts).map fun t => V.ref t.1)) → Qd H') :
    LcG (Itl K l) (gName it) (tTest (tOp rEq (tOp (rIxT K) (tVar it) (tC (.int 0))) (tVar b))) (tVar it) [it] σ H D Qd := by
  refine lc_list (K := K) (a := l) (xs := ts.map fun t => V.ref t.1) (fun i H1 => Same H H1 ∧ H1 D = some (.lst (((ts.take i).filter fun t => t.2.1 == h).map fun t => V.ref t.1))) ?_ ?_ ?_ ?_
  · exact ⟨same_new nD, upd_same⟩
  · rintro i H1 _ ⟨s, _⟩
    exact s.seq (SqL.of hl.at_)
  · rintro i x H1 hx ⟨s, hD⟩
    obtain ⟨t, ht, rfl⟩ := map_at hx
    obtain ⟨_, htup⟩ := hl.get ht
    have htup1 := s _ _ htup
    have hfs := filter_snoc (fun t : Addr × Nat × Nat => t.2.1 == h) ht
    refine ⟨hw _, ?_⟩
    refine ⟨_, hi _, t.1, _, _, _, rfl, rfl, SqT.of htup1, atI_nat (j := 0) rfl, _, hb _, rfl, _, rfl, ?_⟩
    by_cases c : t.2.1 = h
    · rw [decide_eq_true (by rw [c])]
      refine iteT ⟨_, hi _, _, hD, ?_, ?_, ?_⟩
      · rw [List.length_map]
        exact small1000 (Nat.le_trans (filter_take_len _ _ _) few)
      · intro b' o e
        rw [upd_ne (ne_of_none e nD)]
        exact s b' o e
      · rw [upd_same, hfs, if_pos (beq_iff_eq.mpr c), map_snoc]
    · rw [decide_eq_false (fun e => c (by have := V.int.inj e; omega))]
      refine iteF ⟨s, ?_⟩
      have e : (t.2.1 == h) = false := beq_eq_false_iff_ne.mpr c
      rw [hfs, e, if_neg Bool.false_ne_true, List.append_nil]
      exact hD
  · rintro H1 ⟨s, hD⟩
    rw [List.length_map, List.take_length] at hD
    exact q H1 s hD
theorem atD {ns : List Nat} {i : Nat} (h : i < ns.length) : atI (ns.map nV) (i : Int) = some (nV (ns.getD i 0)) := by rw [getD_at h]; exact atN h
theorem atBack {ns : List Nat} {k : Nat} (h : k < ns.length) : atI (ns.map nV) ((k : Int) - 1) = some (nV (ns.getD (back ns.length k) 0)) := by
  by_cases c : k = 0
  · subst c
    obtain ⟨i, z, e⟩ : ∃ i z, ns = i ++ [z] := by
      rcases List.eq_nil_or_concat ns with e | ⟨i, z, e⟩
      · subst e; exact absurd h (Nat.not_lt_zero _)
      · exact ⟨i, z, by rw [e, List.concat_eq_append]⟩
    subst e
    have e2 : (i ++ [z]).getD (back (i ++ [z]).length 0) 0 = z := by
      show (i ++ [z]).getD ((i ++ [z]).length - 1) 0 = z
      rw [List.length_append, List.getD_eq_getElem?_getD]
      show (i ++ [z])[i.length + 1 - 1]?.getD 0 = z
      rw [Nat.add_sub_cancel, List.getElem?_append_right (Nat.le_refl _), Nat.sub_self]
      rfl
    rw [map_snoc, e2]
    exact atI_last _ _
  · have e : (k : Int) - 1 = ((k - 1 : Nat) : Int) := by omega
    have e2 : back ns.length k = k - 1 := by unfold back; rw [if_neg c]
    rw [e, e2]
    exact atD (by omega)
/-- [(order[k - 1], order[k]) for k in range(..)] -/
theorem rd_cyc {o k n : Nat} {l : Addr} {ns : List Nat} (nD : H D = none) (hn : n = ns.length) (ho : ∀ x, ((wipe σ [k]).set k (some x))[o]? = some (some (.ref l)))
    (hk : ∀ x, ((wipe σ [k]).set k (some x))[k]? = some (some x)) (hw : ∀ x, wipe ((wipe σ [k]).set k (some x)) [k] = wipe σ [k]) (hl : NL H l ns) (few : ns.length ≤ 1000)
    (q : ∀ ms H', Same H H' → PL H' D ms → ms.map (·.2) = cyc ns → Qd H') :
    LcG (Itr 0 n) (gName k) tYes (tTup (tCons (tOp (rIxL K) (tVar o) (tOp (rI0 fun i j => V.int (i - j)) (tVar k) (tC (.int 1)))) (tCons (tOp (rIxL K) (tVar o) (tVar k)) tNil))) [k] σ H D Qd := by
  subst hn
  refine lc_range (lo := 0) (n := ns.length) (fun i H1 => ∃ ms, Same H H1 ∧ PL H1 D ms ∧ ms.map (·.2) = (cyc ns).take i) ?_ ?_ ?_
  · exact ⟨[], same_new nD, ⟨upd_same, fun t ht => by cases ht⟩, by simp⟩
  · rintro i H1 hi ⟨ms, s, hD, hm⟩
    have hl1 : SqL K H1 l (ns.map nV) := SqL.of (s _ _ hl)
    refine ⟨hw _, ?_⟩
    have e0 : (0 : Int) + (i : Int) = (i : Int) := Int.zero_add _; rw [e0]
    refine ⟨_, ho _, _, hk _, _, _, rfl, rfl, l, _, _, _, rfl, rfl, hl1, atBack hi, ?_⟩
    refine ⟨_, ho _, _, hk _, l, _, _, _, rfl, rfl, hl1, atD hi, ?_⟩
    refine ⟨by show 2 ≤ sizeLine; decide, fun t nt => ?_⟩
    have nDt : D ≠ t := ne_of_none hD.at_ nt
    have hcl : (cyc ns).length = ns.length := by unfold cyc; simp
    have hlen : ms.length = i := by
      have := congrArg List.length hm
      rw [List.length_map, List.length_take, hcl] at this
      omega
    refine ⟨_, by rw [upd_ne nDt]; exact hD.at_, by rw [List.length_map]; exact small1000 (by omega), ms ++ [(t, ns.getD (back ns.length i) 0, ns.getD i 0)], ?_, ⟨?_, ?_⟩, ?_⟩
    · intro b u e
      have e1 := s b u e
      rw [upd_ne (ne_of_none e nD), upd_ne (ne_of_none e1 nt)]
      exact e1
    · rw [upd_same, map_snoc]
    · intro u hu
      rcases List.mem_append.mp hu with h | h
      · have e1 := hD.tup u h
        rw [upd_ne (tup_ne_lst e1 hD.at_), upd_ne (ne_of_none e1 nt)]
        exact e1
      · rw [List.mem_singleton.mp h]
        show (upd (upd H1 t _) D _) t = _
        rw [upd_ne nDt.symm, upd_same]
    · rw [map_snoc, hm]
      have hget : (cyc ns)[i]? = some (ns.getD (back ns.length i) 0, ns.getD i 0) := by
        unfold cyc
        rw [List.getElem?_map, List.getElem?_range hi]
        rfl
      rw [take_snoc hget]
  · rintro H1 ⟨ms, s, hD, hm⟩
    rw [List.take_of_length_le (by unfold cyc; simp)] at hm
    exact q ms H1 s hD hm
end
end NW
-- NwBfs
set_option linter.all false
namespace NW
/-! ## Rows: where the ties of a house lead, going round -/
def rowS (n : Nat) (T : Ties) (h : Nat) : List Nat := (List.range n).filter fun s => decide ((h, (h + s) % n) ∈ T)
def rowOf (n : Nat) (T : Ties) (h : Nat) : List Nat := (rowS n T h).map fun s => (h + s) % n
def rowsOf (n : Nat) (T : Ties) : List (List Nat) := (List.range n).map (rowOf n T)
def stepsOf (n : Nat) (T : Ties) (h : Nat) : List Nat := (T.filter (fromH h)).map fun p => (p.2 + n - p.1) % n

theorem wrap {n x : Nat} (h : x < n + n) : x % n = if x < n then x else x - n := by
  split
  · next c => exact Nat.mod_eq_of_lt c
  · next c =>
    rw [Nat.mod_eq_sub_mod (by omega), Nat.mod_eq_of_lt (by omega)]
theorem wrap_lt {n : Nat} (x : Nat) (h : 0 < n) : x % n < n := Nat.mod_lt _ h
theorem round_inj {n h a b : Nat} (hh : h < n) (ha : a < n) (hb : b < n) (e : (h + a) % n = (h + b) % n) : a = b := by
  rw [wrap (by omega), wrap (by omega)] at e
  split at e <;> split at e <;> omega
theorem back_round {n h u : Nat} (hh : h < n) (hu : u < n) : (h + (u + n - h) % n) % n = u := by
  have h1 : (u + n - h) % n < n := wrap_lt _ (by omega)
  rw [wrap (x := h + (u + n - h) % n) (by omega), wrap (x := u + n - h) (by omega)]
  split <;> split <;> omega
theorem round_back {n h s : Nat} (hh : h < n) (hs : s < n) : ((h + s) % n + n - h) % n = s := by
  have h1 : (h + s) % n < n := wrap_lt _ (by omega)
  rw [wrap (x := (h + s) % n + n - h) (by omega), wrap (x := h + s) (by omega)]
  split <;> split <;> omega

theorem nodup_map_on {α β : Type} {f : α → β} {l : List α} (nd : l.Nodup) (inj : ∀ a ∈ l, ∀ b ∈ l, f a = f b → a = b) : (l.map f).Nodup := by
  induction l with
  | nil => exact List.nodup_nil
  | cons x l ih =>
    obtain ⟨h1, h2⟩ := List.nodup_cons.mp nd
    rw [List.map_cons]
    refine List.nodup_cons.mpr ⟨fun hm => ?_, ih h2 fun a ha b hb => inj a (List.mem_cons_of_mem _ ha) b (List.mem_cons_of_mem _ hb)⟩
    obtain ⟨y, hy, e⟩ := List.mem_map.mp hm
    have := inj y (List.mem_cons_of_mem _ hy) x List.mem_cons_self e
    exact h1 (this ▸ hy)

theorem rowS_lt {n : Nat} {T : Ties} {h s : Nat} (hs : s ∈ rowS n T h) : s < n := List.mem_range.mp (List.mem_filter.mp hs).1
theorem rowS_nodup (n : Nat) (T : Ties) (h : Nat) : (rowS n T h).Nodup := List.Pairwise.filter _ List.nodup_range
theorem rowS_sorted (n : Nat) (T : Ties) (h : Nat) : (rowS n T h).Pairwise (· < ·) := List.Pairwise.filter _ List.pairwise_lt_range
theorem rowOf_nodup {n : Nat} {T : Ties} {h : Nat} (hh : h < n) : (rowOf n T h).Nodup :=
  nodup_map_on (rowS_nodup n T h) fun a ha b hb e => round_inj hh (rowS_lt ha) (rowS_lt hb) e
theorem rowOf_lt {n : Nat} {T : Ties} {h u : Nat} (hn : 0 < n) (hu : u ∈ rowOf n T h) : u < n := by
  obtain ⟨s, _, e⟩ := List.mem_map.mp hu
  rw [← e]; exact wrap_lt _ hn
theorem mem_rowOf {n : Nat} {T : Ties} (g : Good n T) {h u : Nat} : u ∈ rowOf n T h ↔ (h, u) ∈ T := by
  constructor
  · intro hu
    obtain ⟨s, hs, e⟩ := List.mem_map.mp hu
    rw [← e]
    exact of_decide_eq_true (List.mem_filter.mp hs).2
  · intro ht
    obtain ⟨a, b, _⟩ := g.rng _ ht
    have a' : h < n := a
    have b' : u < n := b
    refine List.mem_map.mpr ⟨(u + n - h) % n, List.mem_filter.mpr ⟨List.mem_range.mpr (wrap_lt _ (by omega)), decide_eq_true ?_⟩, back_round a' b'⟩
    rw [back_round a' b']; exact ht
theorem steps_nodup {n : Nat} {T : Ties} (g : Good n T) {h : Nat} (hh : h < n) : (stepsOf n T h).Nodup := by
  refine nodup_map_on (List.Pairwise.filter _ g.nd) fun a ha b hb e => ?_
  obtain ⟨ha1, ha2⟩ := List.mem_filter.mp ha; obtain ⟨hb1, hb2⟩ := List.mem_filter.mp hb
  have e1 : a.1 = h := beq_iff_eq.mp ha2
  have e2 : b.1 = h := beq_iff_eq.mp hb2
  have l1 := (g.rng _ ha1).2.1
  have l2 := (g.rng _ hb1).2.1
  rw [e1, e2] at e
  have e3 : a.2 = b.2 := by rw [← back_round hh l1, ← back_round hh l2, e]
  exact Prod.ext (by rw [e1, e2]) e3
theorem steps_perm {n : Nat} {T : Ties} (g : Good n T) {h : Nat} (hh : h < n) : (stepsOf n T h).Perm (rowS n T h) := by
  refine (List.perm_ext_iff_of_nodup (steps_nodup g hh) (rowS_nodup n T h)).mpr fun s => ?_
  constructor
  · intro hs
    obtain ⟨p, hp, e⟩ := List.mem_map.mp hs
    obtain ⟨hp1, hp2⟩ := List.mem_filter.mp hp
    have e1 : p.1 = h := beq_iff_eq.mp hp2
    have l1 := (g.rng _ hp1).2.1
    rw [← e, e1]
    refine List.mem_filter.mpr ⟨List.mem_range.mpr (wrap_lt _ (by omega)), decide_eq_true ?_⟩
    rw [back_round hh l1, ← e1]; exact hp1
  · intro hs
    have hl := rowS_lt hs
    have ht := of_decide_eq_true (List.mem_filter.mp hs).2
    exact List.mem_map.mpr ⟨(h, (h + s) % n), List.mem_filter.mpr ⟨ht, beq_iff_eq.mpr rfl⟩, round_back hh hl⟩
theorem steps_lt {n : Nat} {T : Ties} {h : Nat} (hn : 0 < n) : ∀ s ∈ stepsOf n T h, s < n := fun s hs => by
  obtain ⟨p, _, e⟩ := List.mem_map.mp hs
  rw [← e]; exact wrap_lt _ hn
/-- sorted steps are the steps going round -/
theorem sorted_steps {n : Nat} {T : Ties} (g : Good n T) {h : Nat} (hh : h < n) {ns : List Int} (hp : ns.Perm ((stepsOf n T h).map fun (s : Nat) => (s : Int))) (hs : ns.Pairwise (· ≤ ·)) :
    ns = (rowS n T h).map fun (s : Nat) => (s : Int) := by
  refine List.Perm.eq_of_pairwise (le := (· ≤ ·)) (fun a b _ _ h1 h2 => Int.le_antisymm h1 h2) hs ?_ (hp.trans ((steps_perm g hh).map _))
  exact List.Pairwise.map _ (fun a b (c : a < b) => by show (a : Int) ≤ (b : Int); omega) (rowS_sorted n T h)
theorem step_int {n a b : Nat} (ha : a < n) (hb : b < n) : ((b : Int) - (a : Int)) % (n : Int) = (((b + n - a) % n : Nat) : Int) := by
  have e : (b : Int) - (a : Int) = ((b + n - a : Nat) : Int) + (-1) * (n : Int) := by omega
  rw [e, Int.add_mul_emod_self_right, Int.natCast_emod]
theorem round_int (n h s : Nat) : ((h : Int) + (s : Int)) % (n : Int) = (((h + s) % n : Nat) : Int) := by
  rw [Int.natCast_emod, Int.natCast_add]

/-! ## How far it is: layer by layer -/
abbrev Fnd := List (Option Nat)
def rowAt (rs : List (List Nat)) (h : Nat) : List Nat := rs.getD h []
def isNew (f : Fnd) (v : Nat) : Bool := decide (f[v]? = some none)
def stepRow (f : Fnd) (acc row : List Nat) : List Nat := acc ++ row.filter fun v => isNew f v && !acc.contains v
def stepAll (rs : List (List Nat)) (f : Fnd) (layer : List Nat) : List Nat := layer.foldl (fun acc h => stepRow f acc (rowAt rs h)) []
def setAll (f : Fnd) (d : Nat) (ls : List Nat) : Fnd := ls.foldl (fun f v => f.set v (some d)) f
def nones (f : Fnd) : Nat := f.countP fun x => x.isNone
def meas (f : Fnd) (l : List Nat) : Nat := nones f + (if l = [] then 0 else 1)
def bfs (rs : List (List Nat)) : Nat → Fnd → List Nat → Nat → Fnd
  | 0, f, _, _ => f
  | k + 1, f, l, d => if l = [] then f else bfs rs k (setAll f (d + 1) (stepAll rs f l)) (stepAll rs f l) (d + 1)

theorem setAll_len (d : Nat) : ∀ (ls : List Nat) (f : Fnd), (setAll f d ls).length = f.length
  | [], _ => rfl
  | v :: ls, f => by
    show (setAll (f.set v (some d)) d ls).length = _
    rw [setAll_len d ls, List.length_set]
theorem setAll_snoc (f : Fnd) (d : Nat) (ls : List Nat) (v : Nat) : setAll f d (ls ++ [v]) = (setAll f d ls).set v (some d) := by
  unfold setAll; rw [List.foldl_append]; rfl
theorem setAll_at (d : Nat) : ∀ (ls : List Nat) (f : Fnd) (v : Nat), (setAll f d ls)[v]? = if v ∈ ls ∧ v < f.length then some (some d) else f[v]?
  | [], f, v => by simp [setAll]
  | u :: ls, f, v => by
    show (setAll (f.set u (some d)) d ls)[v]? = _
    rw [setAll_at d ls, List.length_set, List.getElem?_set]
    by_cases h1 : v ∈ ls
    · by_cases h2 : v < f.length
      · simp [h1, h2]
      · have : f[v]? = none := List.getElem?_eq_none (by omega)
        simp only [h1, h2, and_false, if_false, this]
        by_cases h3 : u = v
        · subst h3; simp [h2]
        · simp [h3]
    · by_cases h3 : u = v
      · subst h3
        by_cases h2 : u < f.length
        · simp [h1, h2]
        · have : f[u]? = none := List.getElem?_eq_none (by omega)
          simp [h1, h2, this]
      · have h4 : ¬ v = u := fun e => h3 e.symm
        simp [h1, h3, h4]
theorem mem_stepRow {f : Fnd} {acc row : List Nat} {v : Nat} : v ∈ stepRow f acc row ↔ v ∈ acc ∨ (v ∈ row ∧ isNew f v = true) := by
  unfold stepRow
  rw [List.mem_append, List.mem_filter]
  constructor
  · rintro (h | ⟨h1, h2⟩)
    · exact .inl h
    · rw [Bool.and_eq_true] at h2
      exact .inr ⟨h1, h2.1⟩
  · rintro (h | ⟨h1, h2⟩)
    · exact .inl h
    · by_cases c : v ∈ acc
      · exact .inl c
      · exact .inr ⟨h1, by rw [h2]; simp [c]⟩
theorem mem_fold (rs : List (List Nat)) (f : Fnd) : ∀ (layer acc : List Nat) (v : Nat), v ∈ layer.foldl (fun acc h => stepRow f acc (rowAt rs h)) acc ↔ v ∈ acc ∨ (isNew f v = true ∧ ∃ h ∈ layer, v ∈ rowAt rs h)
  | [], acc, v => by simp
  | h :: layer, acc, v => by
    rw [List.foldl_cons, mem_fold rs f layer, mem_stepRow]
    constructor
    · rintro ((a | ⟨a, b⟩) | ⟨a, x, hx, b⟩)
      · exact .inl a
      · exact .inr ⟨b, h, List.mem_cons_self, a⟩
      · exact .inr ⟨a, x, List.mem_cons_of_mem _ hx, b⟩
    · rintro (a | ⟨a, x, hx, b⟩)
      · exact .inl (.inl a)
      · rcases List.mem_cons.mp hx with e | e
        · subst e; exact .inl (.inr ⟨b, a⟩)
        · exact .inr ⟨a, x, e, b⟩
theorem mem_stepAll {rs : List (List Nat)} {f : Fnd} {layer : List Nat} {v : Nat} : v ∈ stepAll rs f layer ↔ isNew f v = true ∧ ∃ h ∈ layer, v ∈ rowAt rs h := by
  unfold stepAll
  rw [mem_fold]; simp
theorem stepAll_snoc (rs : List (List Nat)) (f : Fnd) (layer : List Nat) (h : Nat) : stepAll rs f (layer ++ [h]) = stepRow f (stepAll rs f layer) (rowAt rs h) := by
  unfold stepAll; rw [List.foldl_append]; rfl
theorem new_lt {f : Fnd} {v : Nat} (h : isNew f v = true) : v < f.length := (List.getElem?_eq_some_iff.mp (of_decide_eq_true h)).1

theorem nones_set_le (d : Nat) : ∀ (f : Fnd) (v : Nat), nones (f.set v (some d)) ≤ nones f
  | [], _ => Nat.le_refl _
  | x :: f, 0 => by
    unfold nones
    rw [List.set_cons_zero, List.countP_cons, List.countP_cons]
    simp
  | x :: f, v + 1 => by
    have ih := nones_set_le d f v
    unfold nones at ih ⊢
    rw [List.set_cons_succ, List.countP_cons, List.countP_cons]
    omega
theorem nones_set_lt (d : Nat) : ∀ (f : Fnd) (v : Nat), f[v]? = some none → nones (f.set v (some d)) < nones f
  | [], _, h => by simp at h
  | x :: f, 0, h => by
    have e : x = none := by simpa using h
    subst e
    unfold nones
    rw [List.set_cons_zero, List.countP_cons, List.countP_cons]
    simp
  | x :: f, v + 1, h => by
    have ih := nones_set_lt d f v (by simpa using h)
    unfold nones at ih ⊢
    rw [List.set_cons_succ, List.countP_cons, List.countP_cons]
    omega
theorem nones_all_le (d : Nat) : ∀ (ls : List Nat) (f : Fnd), nones (setAll f d ls) ≤ nones f
  | [], _ => Nat.le_refl _
  | v :: ls, f => Nat.le_trans (nones_all_le d ls (f.set v (some d))) (nones_set_le d f v)
theorem nones_all_lt (d : Nat) {ls : List Nat} {f : Fnd} (h : ∀ v ∈ ls, isNew f v = true) (ne : ls ≠ []) : nones (setAll f d ls) < nones f := by
  cases ls with
  | nil => exact absurd rfl ne
  | cons v ls => exact Nat.lt_of_le_of_lt (nones_all_le d ls _) (nones_set_lt d f v (of_decide_eq_true (h v List.mem_cons_self)))
theorem meas_next {rs : List (List Nat)} {f : Fnd} {l : List Nat} {d : Nat} (ne : l ≠ []) : meas (setAll f (d + 1) (stepAll rs f l)) (stepAll rs f l) < meas f l := by
  unfold meas
  rw [if_neg ne]
  by_cases c : stepAll rs f l = []
  · rw [if_pos c, c]; show nones f + 0 < _; omega
  · rw [if_neg c]
    have := nones_all_lt (d + 1) (f := f) (ls := stepAll rs f l) (fun v hv => (mem_stepAll.mp hv).1) c
    omega

/-- what holds between two layers -/
structure BI (rs : List (List Nat)) (n : Nat) (s : Nat) (f : Fnd) (l : List Nat) (d : Nat) : Prop where
  len : f.length = n
  src : ∃ e, f[s]? = some (some e)
  lay : ∀ v ∈ l, f[v]? = some (some d)
  cl : ∀ v e, f[v]? = some (some e) → v ∈ l ∨ ∀ u ∈ rowAt rs v, u < n → ∃ e, f[u]? = some (some e)

theorem BI.next {rs : List (List Nat)} {n s : Nat} {f : Fnd} {l : List Nat} {d : Nat} (b : BI rs n s f l d) : BI rs n s (setAll f (d + 1) (stepAll rs f l)) (stepAll rs f l) (d + 1) where
  len := by rw [setAll_len]; exact b.len
  src := by
    obtain ⟨e, h⟩ := b.src
    rw [setAll_at]
    split
    · exact ⟨_, rfl⟩
    · exact ⟨e, h⟩
  lay := fun v hv => by
    rw [setAll_at, if_pos ⟨hv, new_lt (mem_stepAll.mp hv).1⟩]
  cl := fun v e hv => by
    by_cases c : v ∈ stepAll rs f l
    · exact .inl c
    · refine .inr fun u hu hn => ?_
      rw [setAll_at, if_neg (fun h => c h.1)] at hv
      rw [setAll_at]
      by_cases cu : u ∈ stepAll rs f l
      · rw [if_pos ⟨cu, by rw [b.len]; exact hn⟩]; exact ⟨_, rfl⟩
      · rw [if_neg (fun h => cu h.1)]
        rcases b.cl v e hv with h | h
        · cases h2 : f[u]? with
          | none => rw [List.getElem?_eq_none_iff, b.len] at h2; omega
          | some x =>
            cases x with
            | some e => exact ⟨e, rfl⟩
            | none => exact absurd (mem_stepAll.mpr ⟨decide_eq_true h2, v, h, hu⟩) cu
        · exact h u hu hn
theorem bfs_end {rs : List (List Nat)} {n s : Nat} : ∀ (k : Nat) (f : Fnd) (l : List Nat) (d : Nat), BI rs n s f l d → meas f l ≤ k → ∃ d', BI rs n s (bfs rs k f l d) [] d'
  | 0, f, l, d, b, h => by
    have : l = [] := by
      cases l with
      | nil => rfl
      | cons x l => simp [meas] at h
    subst this
    exact ⟨d, b⟩
  | k + 1, f, l, d, b, h => by
    unfold bfs
    split
    · next c => subst c; exact ⟨d, b⟩
    · next c => exact bfs_end k _ _ _ b.next (by have := meas_next (rs := rs) (f := f) (d := d) c; omega)
theorem bfs_nil (rs : List (List Nat)) (k : Nat) (f : Fnd) (d : Nat) : bfs rs k f [] d = f := by
  cases k <;> simp [bfs]
theorem bfs_cons (rs : List (List Nat)) (k : Nat) (f : Fnd) {l : List Nat} (d : Nat) (ne : l ≠ []) : bfs rs (k + 1) f l d = bfs rs k (setAll f (d + 1) (stepAll rs f l)) (stepAll rs f l) (d + 1) := by
  show (if l = [] then f else _) = _
  rw [if_neg ne]

def init (n s : Nat) : Fnd := (List.replicate n none).set s (some 0)
def fin (rs : List (List Nat)) (n s : Nat) : Fnd := bfs rs (n + 1) (init n s) [s] 0
def dist (rs : List (List Nat)) (n s : Nat) : List Nat := (fin rs n s).map fun x => x.getD 0
theorem init_BI {rs : List (List Nat)} {n s : Nat} (h : s < n) : BI rs n s (init n s) [s] 0 where
  len := by unfold init; rw [List.length_set, List.length_replicate]
  src := ⟨0, by unfold init; rw [List.getElem?_set_self (by rw [List.length_replicate]; exact h)]⟩
  lay := fun v hv => by
    rw [List.mem_singleton.mp hv]
    unfold init; rw [List.getElem?_set_self (by rw [List.length_replicate]; exact h)]
  cl := fun v e hv => by
    by_cases c : s = v
    · exact .inl (by rw [c]; exact List.mem_singleton.mpr rfl)
    · unfold init at hv
      rw [List.getElem?_set_ne c, List.getElem?_replicate] at hv
      split at hv <;> simp at hv
theorem init_meas {n s : Nat} (h : s < n) : meas (init n s) [s] ≤ n + 1 := by
  unfold meas
  rw [if_neg (by simp)]
  have : nones (init n s) ≤ n := by
    unfold nones init
    exact Nat.le_trans (List.countP_le_length) (by rw [List.length_set, List.length_replicate]; exact Nat.le_refl _)
  omega
theorem rowAt_of {n : Nat} (T : Ties) {h : Nat} (hh : h < n) : rowAt (rowsOf n T) h = rowOf n T h := by
  unfold rowAt rowsOf
  rw [List.getD_eq_getElem?_getD, List.getElem?_map, List.getElem?_range hh]; rfl
theorem fin_some {n : Nat} {T : Ties} (g : Good n T) {s : Nat} (hs : s < n) : fin (rowsOf n T) n s = (dist (rowsOf n T) n s).map some := by
  obtain ⟨d, b⟩ := bfs_end (rs := rowsOf n T) (n + 1) (init n s) [s] 0 (init_BI hs) (init_meas hs)
  have all : ∀ v, Reach T s v → ∃ e, (fin (rowsOf n T) n s)[v]? = some (some e) := fun v r => by
    induction r with
    | here => exact b.src
    | @step x y r ht ih =>
      obtain ⟨e, he⟩ := ih
      rcases b.cl x e he with h | h
      · cases h
      · obtain ⟨hx, hy, _⟩ := g.rng _ ht
        exact h y (by rw [rowAt_of T hx]; exact (mem_rowOf g).mpr ht) hy
  unfold dist
  rw [List.map_map]
  apply List.ext_getElem?
  intro v
  rw [List.getElem?_map]
  cases h : (fin (rowsOf n T) n s)[v]? with
  | none => rfl
  | some x =>
    have hv : v < n := by rw [← b.len]; exact (List.getElem?_eq_some_iff.mp h).1
    obtain ⟨e, he⟩ := all v (g.conn s v hs hv)
    rw [h] at he
    cases he
    rfl
theorem dist_len {n : Nat} {T : Ties} {s : Nat} (hs : s < n) : (dist (rowsOf n T) n s).length = n := by
  obtain ⟨d, b⟩ := bfs_end (rs := rowsOf n T) (n + 1) (init n s) [s] 0 (init_BI hs) (init_meas hs)
  unfold dist
  rw [List.length_map]
  exact b.len
/-! ### the greatest of some numbers -/
def mx (ns : List Nat) : Nat := ns.foldl max 0
theorem fold_max : ∀ (ns : List Nat) (a : Nat), a ≤ ns.foldl max a ∧ (∀ x ∈ ns, x ≤ ns.foldl max a) ∧ (ns.foldl max a = a ∨ ns.foldl max a ∈ ns)
  | [], a => ⟨Nat.le_refl _, fun x h => (by cases h), .inl rfl⟩
  | y :: ns, a => by
    obtain ⟨h1, h2, h3⟩ := fold_max ns (max a y)
    rw [List.foldl_cons]
    refine ⟨by omega, fun x hx => ?_, ?_⟩
    · rcases List.mem_cons.mp hx with e | e
      · subst e; omega
      · exact h2 x e
    · rcases h3 with e | e
      · rw [e]
        by_cases c : a ≤ y
        · exact .inr (by rw [Nat.max_eq_right c]; exact List.mem_cons_self)
        · exact .inl (Nat.max_eq_left (by omega))
      · exact .inr (List.mem_cons_of_mem _ e)
theorem mx_is {ns : List Nat} {m : Int} (h1 : m ∈ ns.map fun (x : Nat) => (x : Int)) (h2 : ∀ y ∈ ns.map fun (x : Nat) => (x : Int), y ≤ m) : m = (mx ns : Int) := by
  obtain ⟨a, b, c⟩ := fold_max ns 0
  obtain ⟨x, hx, e⟩ := List.mem_map.mp h1
  have e1 := b x hx
  have e2 : (mx ns : Int) ≤ m := by
    rcases c with c | c
    · show ((ns.foldl max 0 : Nat) : Int) ≤ m
      rw [c]; omega
    · exact h2 _ (List.mem_map.mpr ⟨_, c, rfl⟩)
  have e3 : m ≤ (mx ns : Int) := by rw [← e]; show (x : Int) ≤ ((ns.foldl max 0 : Nat) : Int); omega
  omega
end NW
-- NwLeads
set_option Elab.async false
set_option linter.all false
set_option maxRecDepth 100000
set_option maxHeartbeats 4200000
namespace NW
open PySem PySem.Spec L2 PyProof.Rows
/-! ## _law_leads -/
theorem LL.ne {H : Hp} {l : Addr} {rs : List (Addr × List Nat)} (h : LL H l rs) {r : Addr × List Nat} (hr : r ∈ rs) : r.1 ≠ l := by
  refine ne_of (h.row r hr) h.at_ fun e => ?_
  have e2 := HO.lst.inj e
  cases rs with
  | nil => cases hr
  | cons q qs =>
    cases h2 : r.2 with
    | nil => rw [h2] at e2; cases e2
    | cons x xs => rw [h2] at e2; injection e2 with e3 _; cases e3
theorem LL.push {H : Hp} {l D : Addr} {rs : List (Addr × List Nat)} {row : List Nat} (h : LL H l rs) (hD : NL H D row) (ne : D ≠ l) :
    LL (upd H l (.lst ((rs.map fun r => V.ref r.1) ++ [.ref D]))) l (rs ++ [(D, row)]) := by
  refine ⟨by rw [upd_same, map_snoc], fun r hr => ?_⟩
  rcases List.mem_append.mp hr with c | c
  · rw [NL, upd_ne (h.ne c)]; exact h.row r c
  · rw [List.mem_singleton.mp c, NL, upd_ne ne]; exact hD
/-- what stood before stands, whatever is done to a place that was free then -/
theorem same_put {H H1 : Hp} {p : Addr} {o : HO} (s : Same H H1) (h : H p = none) : Same H (upd H1 p o) := fun b x e => by
  rw [upd_ne (ne_of_none e h)]; exact s b x e
theorem range_filter_snoc (p : Nat → Bool) (j : Nat) : (List.range (j + 1)).filter p = (List.range j).filter p ++ (if p j then [j] else []) := by
  rw [List.range_succ, List.filter_append]
  cases e : p j <;> simp [e]
theorem rows_len (n : Nat) (T : Ties) : (rowsOf n T).length = n := by unfold rowsOf; rw [List.length_map, List.length_range]
theorem rows_get {n : Nat} (T : Ties) {i : Nat} (h : i < n) : (rowsOf n T)[i]? = some (rowOf n T i) := by
  unfold rowsOf; rw [List.getElem?_map, List.getElem?_range h]; rfl
section
variable {P : Program} {w : World} {base : Heap} {K : PySem.W.Frag} {mg : Str → Option Value}
def spLeads : Sp := fun vs H Q _ => ∃ (l : Addr) (n : Nat) (ts : List (Addr × Nat × Nat)), vs = [nV n, .ref l] ∧ PL H l ts ∧ 1 ≤ n ∧ n ≤ 32 ∧
  ∀ (p : Addr) (rs : List (Addr × List Nat)) H', Same H H' → H p = none → LL H' p rs → rs.map (·.2) = rowsOf n (ts.map (·.2)) → Q (.ref p) H'
abbrev nLeads : List Str := ["_law_many", "_law_ties", "_law_found", "_law_house", "_law_step"]
theorem scLeads : FnScope nLeads ["_law_many", "_law_ties"] (defScope (top 36)) := ⟨rfl, rfl, rfl, by decide +kernel, rfl, by decide +kernel, by decide +kernel⟩
theorem ok_leads {f : Addr} {fd : FuncData} (T : Tx K mg) (F : Fun K "_law_leads" "_law_leads" (top 36) f fd) : FnOk P w K mg base CX0 1 f fd ["_law_many", "_law_ties"] spLeads := by
  refine F.ok scLeads (fun vs H Q E h => ?_) (fun cdv A outer s H vs Q E hr h => ?_)
  · obtain ⟨l, n, ts, rfl, _⟩ := h
    rfl
  · obtain ⟨l, n, ts, rfl, hl, n1, n32, q⟩ := h
    have h65 : (A.deeper (envOfC "_law_leads" (defScope (top 36)) s.heap.objs.size f cdv)).units + 65 < cLine := by have := hr.un; omega
    refine ⟨_, pss_cons (ps_set (i := 2) scLeads.nd rfl (.inl rfl) (pe_lst pa_nil))
      (pss_cons (ps_for PassesOwn.never rfl (pi_range1 (by rfl) T.fRange (pa_cons (pv 0) pa_nil)) (pg_name (i := 3) scLeads.nd rfl (.inr rfl))
        (pss_one (ps_expr (appK K (pv 2) (pe_lc (own := [("_law_step", 4)]) (g := gName 4) rfl scLeads.nd (pi_range1 (by rfl) T.fRange (pa_cons (pv 0) pa_nil))
          (blkOk_by (N := nLeads) (sc := defScope (top 36)) (by decide +kernel)) (fun _ _ _ _ _ => pg_name (i := 4) scLeads.nd rfl (.inl rfl))
          (fun _ _ _ _ _ => pts_one (pt_cmpR (oinD K h65) (pe_tup (pa_cons (pv 3) (pa_cons (pe_op op_mod (pe_op op_add (pv 3) (pv 4)) (pv 0)) pa_nil))) (pv 1) (by rfl)))
          (fun _ _ _ _ _ => pe_op op_mod (pe_op op_add (pv 3) (pv 4)) (pv 0)))))))
      (pss_one (ps_ret (pv 2)))), ?_⟩
    refine ⟨Nat.zero_le _, fun fo nfo => ?_⟩
    have s0 := same_new (o := .lst []) nfo
    refine ⟨_, rfl, (n : Int), rfl, by omega, by omega, ?_⟩
    refine for_range (lo := 0) (n := n) (fun i σ H1 => ∃ rs x3, σ = [some (nV n), some (.ref l), some (.ref fo), x3, none] ∧ Same H H1 ∧ LL H1 fo rs ∧ rs.map (·.2) = (rowsOf n (ts.map (·.2))).take i) ?_ ?_ ?_
    · exact ⟨[], none, rfl, s0, ⟨upd_same, fun r hr => by cases hr⟩, by simp⟩
    · rintro i σ H1 hi ⟨rs, x3, rfl, s1, hfo, hrs⟩
      have e0 : (0 : Int) + (i : Int) = (i : Int) := Int.zero_add _; rw [e0]
      have hl1 := hl.same s1
      refine ⟨_, rfl, .inl ⟨rfl, _, SqL.of hfo.at_⟩, _, rfl, (n : Int), rfl, by omega, by omega, fun D nD => ?_⟩
      refine lc_range (lo := 0) (n := n) (fun j H2 => Same H1 H2 ∧ NL H2 D (((List.range j).filter fun s => decide ((i, (i + s) % n) ∈ ts.map (·.2))).map fun s => (i + s) % n)) ?_ ?_ ?_
      · exact ⟨same_new nD, upd_same⟩
      · rintro j H2 hj ⟨s2, hD⟩
        have e1 : (0 : Int) + (j : Int) = (j : Int) := Int.zero_add _
        rw [e1]
        have nz : (0 : Int) < (n : Int) := by omega
        refine ⟨rfl, _, rfl, _, rfl, _, rfl, _, _, rfl, rfl, _, rfl, _, _, rfl, rfl, nz, by show 2 ≤ sizeLine; decide, fun t nt => ?_⟩
        have ev : V.int (((i : Int) + (j : Int)) % (n : Int)) = nV ((i + j) % n) := congrArg V.int (round_int n i j)
        have st : Same H2 (upd H2 t (.tup [nV i, .int (((i : Int) + (j : Int)) % (n : Int))])) := same_new nt
        have et : (upd H2 t (.tup [nV i, .int (((i : Int) + (j : Int)) % (n : Int))])) t = some (.tup [nV i, nV ((i + j) % n)]) := by rw [upd_same, ev]
        refine ⟨_, rfl, pD (i, (i + j) % n), (ts.map (·.2)).map pD, dp_pair (p := (i, (i + j) % n)) et, dp_pl ((hl1.same s2).same st), pD_shaped _, psD_shaped _, _, rfl, ?_⟩
        rw [psD_any]
        have hfs := range_filter_snoc (fun s => decide ((i, (i + s) % n) ∈ ts.map (·.2))) j
        by_cases c : (i, (i + j) % n) ∈ ts.map (·.2)
        · rw [decide_eq_true c]
          refine iteT ⟨_, rfl, _, rfl, _, _, rfl, rfl, _, rfl, _, _, rfl, rfl, nz, _, st _ _ hD, ?_, ?_, ?_⟩
          · rw [List.length_map, List.length_map]
            have a1 := List.length_filter_le (fun s => decide ((i, (i + s) % n) ∈ ts.map (·.2))) (List.range j)
            rw [List.length_range] at a1
            exact small1000 (by omega)
          · exact same_put (s2.trans st) nD
          · show (upd _ D (.lst (_ ++ [V.int (((i : Int) + (j : Int)) % (n : Int))]))) D = _
            rw [upd_same, ev, hfs, if_pos (decide_eq_true c), map_snoc, map_snoc]
        · rw [decide_eq_false c]
          refine iteF ⟨s2.trans st, ?_⟩
          rw [hfs, if_neg (by rw [decide_eq_false c]; exact Bool.false_ne_true), List.append_nil]
          exact st _ _ hD
      · rintro H2 ⟨s2, hD⟩
        have hfo2 := hfo.same s2
        have nDf : D ≠ fo := (ne_of_none hfo.at_ nD).symm
        refine ⟨fo, _, .ref D, rfl, rfl, hfo2.at_, ?_, ?_⟩
        · rw [List.length_map]
          have := congrArg List.length hrs
          rw [List.length_map, List.length_take, rows_len] at this
          exact small1000 (by omega)
        · refine ⟨rs ++ [(D, rowOf n (ts.map (·.2)) i)], _, rfl, same_put (s1.trans s2) nfo, hfo2.push hD nDf, ?_⟩
          rw [map_snoc, hrs, take_snoc (rows_get _ hi)]
    · rintro σ H1 ⟨rs, x3, rfl, s1, hfo, hrs⟩
      rw [List.take_of_length_le (by rw [rows_len]; exact Nat.le_refl _)] at hrs
      exact ⟨_, rfl, q fo rs H1 s1 nfo hfo hrs⟩
theorem can_leads (T : Tx K mg) : Can P w K mg base CX0 1 "_law_leads" ["_law_many", "_law_ties"] spLeads :=
  T.can 15 rfl rfl (fun _ _ _ _ _ _ us hl => match us, hl with | [_, _], _ => rfl) fun _ _ F => ok_leads T F
end
end NW
-- NwOuts
set_option Elab.async false
set_option linter.all false
set_option maxRecDepth 100000
set_option maxHeartbeats 4200000
namespace NW
open PySem PySem.Spec L2 PyProof.Rows
/-! ## outs_of -/
theorem steps_snoc {n : Nat} {T : Ties} {i : Nat} {p : Nat × Nat} (h : T[i]? = some p) (k : Nat) :
    stepsOf n (T.take (i + 1)) k = stepsOf n (T.take i) k ++ (if p.1 = k then [(p.2 + n - p.1) % n] else []) := by
  unfold stepsOf
  rw [filter_snoc (fromH k) h, List.map_append]
  by_cases c : p.1 = k
  · rw [if_pos (show fromH k p = true from beq_iff_eq.mpr c), if_pos c]; rfl
  · rw [if_neg (show ¬ fromH k p = true from fun e => c (beq_iff_eq.mp e)), if_neg c]; rfl
theorem steps_few (n : Nat) (T : Ties) (i k : Nat) : (stepsOf n (T.take i) k).length ≤ T.length := by
  unfold stepsOf
  rw [List.length_map]
  exact filter_take_len _ _ _
theorem map_nV_int (ns : List Nat) : ns.map nV = (ns.map fun (x : Nat) => (x : Int)).map V.int := by rw [List.map_map]; rfl
section
variable {P : Program} {w : World} {base : Heap} {K : PySem.W.Frag} {mg : Str → Option Value}
def spOuts : Sp := fun vs H Q _ => ∃ (l : Addr) (n : Nat) (ts : List (Addr × Nat × Nat)), vs = [nV n, .ref l] ∧ PL H l ts ∧ Good n (ts.map (·.2)) ∧ 2 ≤ n ∧ n ≤ 32 ∧
  ∀ (p : Addr) (rs : List (Addr × List Nat)) H', Same H H' → H p = none → LL H' p rs → rs.map (·.2) = rowsOf n (ts.map (·.2)) → (∀ r ∈ rs, H r.1 = none) → Q (.ref p) H'
abbrev nOuts : List Str := ["many", "ties", "found", "one", "other", "house", "step"]
theorem scOuts : FnScope nOuts ["many", "ties"] (defScope (top 24)) := ⟨rfl, rfl, rfl, by decide +kernel, rfl, by decide +kernel, by decide +kernel⟩
theorem ok_outs {f : Addr} {fd : FuncData} (T : Tx K mg) (F : Fun K "outs_of" "outs_of" (top 24) f fd) : FnOk P w K mg base CX0 1 f fd ["many", "ties"] spOuts := by
  refine F.ok scOuts (fun vs H Q E h => ?_) (fun cdv A outer s H vs Q E hr h => ?_)
  · obtain ⟨l, n, ts, rfl, _⟩ := h
    rfl
  · obtain ⟨l, n, ts, rfl, hl, g, n2, n32, q⟩ := h
    refine ⟨_, pss_cons (ps_set (i := 2) scOuts.nd rfl (.inr rfl) (pe_lc (own := [("house", 5)]) (g := gName 5) (tt := tYes) rfl scOuts.nd (pi_range1 (by rfl) T.fRange (pa_cons (pv 0) pa_nil))
        (blkOk_by (N := nOuts) (sc := defScope (top 24)) (by decide +kernel)) (fun _ _ _ _ _ => pg_name (i := 5) scOuts.nd rfl (.inl rfl)) (fun _ _ _ _ _ => pts_nil) (fun _ _ _ _ _ => pe_lst pa_nil)))
      (pss_cons (ps_for PassesOwn.never rfl (pi_list (pv 1)) (pg_tup rfl (pgs_cons (pg_name (i := 3) scOuts.nd rfl (.inl rfl)) (pgs_cons (pg_name (i := 4) scOuts.nd rfl (.inl rfl)) pgs_nil)))
        (pss_one (ps_expr (appK K (pe_ix ix_list (pv 2) (pv 3) (fun _ _ => rfl)) (pe_op op_mod (pe_op op_sub (pv 4) (pv 3)) (pv 0))))))
      (pss_one (ps_ret (pe_lc (own := [("house", 5)]) (g := gName 5) (tt := tYes) rfl scOuts.nd (pi_range1 (by rfl) T.fRange (pa_cons (pv 0) pa_nil))
        (blkOk_by (N := nOuts) (sc := defScope (top 24)) (by decide +kernel)) (fun _ _ _ _ _ => pg_name (i := 5) scOuts.nd rfl (.inr rfl)) (fun _ _ _ _ _ => pts_nil)
        (fun _ _ _ _ _ => pe_lc (own := [("step", 6)]) (g := gName 6) (tt := tYes) rfl scOuts.nd (piL K (pe_callB (csort K) (by rfl) T.fSorted (by decide +kernel) (pa_cons (pe_ix (ixL K) (pv 2) (pv 5) (fun _ _ => rfl)) pa_nil)))
          (blkOk_by (N := nOuts) (by kernel_rfl)) (fun _ _ _ _ _ => pg_name (i := 6) scOuts.nd rfl (.inl rfl)) (fun _ _ _ _ _ => pts_nil)
          (fun _ _ _ _ _ => pe_op op_mod (pe_op op_add (pv 5) (pv 6)) (pv 0))))))), ?_⟩
    have nz : (0 : Int) < (n : Int) := by omega
    have few : ts.length ≤ 1000 := by have := g.len; rw [List.length_map] at this; omega
    -- found
    refine ⟨_, rfl, (n : Int), rfl, by omega, by omega, fun D nD => ?_⟩
    refine lc_range (lo := 0) (n := n) (fun j H1 => ∃ as : List Addr, as.length = j ∧ as.Nodup ∧ H1 D = some (.lst (as.map V.ref)) ∧ (∀ a ∈ as, H1 a = some (.lst []) ∧ H a = none ∧ a ≠ D) ∧ Same H H1) ?_ ?_ ?_
    · exact ⟨[], rfl, List.nodup_nil, upd_same, fun a ha => (by cases ha), same_new nD⟩
    · rintro j H1 hj ⟨as, hlen, nd, hD, has, s1⟩
      refine ⟨rfl, Nat.zero_le _, fun p np => ?_⟩
      have npD : D ≠ p := ne_of_none hD np
      refine ⟨_, by rw [upd_ne npD]; exact hD, by rw [List.length_map]; exact small1000 (by omega), as ++ [p], by rw [List.length_append, hlen]; rfl, ?_, by rw [upd_same, map_snoc], ?_, ?_⟩
      · refine List.nodup_append.mpr ⟨nd, List.nodup_cons.mpr ⟨List.not_mem_nil, List.nodup_nil⟩, fun a ha b hb e => ?_⟩
        rw [List.mem_singleton.mp hb] at e
        have := (has a ha).1
        rw [e, np] at this
        cases this
      · intro a ha
        rcases List.mem_append.mp ha with h | h
        · obtain ⟨h1, h2, h3⟩ := has a h
          refine ⟨?_, h2, h3⟩
          rw [upd_ne h3, upd_ne (ne_of_none h1 np)]
          exact h1
        · rw [List.mem_singleton.mp h]
          refine ⟨?_, s1.free np, npD.symm⟩
          rw [upd_ne npD.symm, upd_same]
      · exact same_put (s1.trans (same_new np)) nD
    · rintro H1 ⟨as, hlen, nd, hD, has, s1⟩
      -- each tie's step
      have hl1 := hl.same s1
      have nDH := nD
      refine ⟨_, rfl, l, rfl, ⟨_, SqL.of hl1.at_⟩, for_list (K := K) (a := l) (xs := ts.map fun t => V.ref t.1) (fun i σ H2 => ∃ x3 x4, σ = [some (nV n), some (.ref l), some (.ref D), x3, x4, none, none] ∧ Same H H2 ∧
        H2 D = some (.lst (as.map V.ref)) ∧ ∀ k a, as[k]? = some a → NL H2 a (stepsOf n ((ts.map (·.2)).take i) k)) ?_ ?_ ?_ ?_⟩
      · refine ⟨none, none, rfl, s1, hD, fun k a ha => ?_⟩
        rw [List.take_zero]
        exact (has a (List.mem_of_getElem? ha)).1
      · rintro i σ H2 _ ⟨_, _, _, s2, _⟩
        exact s2.seq (SqL.of hl.at_)
      · rintro i x σ H2 hx ⟨x3, x4, rfl, s2, hD2, hrow⟩
        obtain ⟨t, ht, rfl⟩ := map_at hx
        obtain ⟨_, htup⟩ := (hl.same s2).get ht
        have htT : (ts.map (·.2))[i]? = some t.2 := by rw [List.getElem?_map, ht]; rfl
        obtain ⟨r1, r2, _⟩ := g.rng t.2 (List.mem_of_getElem? htT)
        have hka : t.2.1 < as.length := by omega
        have ha := List.getElem?_eq_getElem hka
        have haD : (as.map V.ref)[t.2.1]? = some (.ref as[t.2.1]) := by rw [List.getElem?_map, ha]; rfl
        have hr0 := hrow _ _ ha
        have ev : V.int (((t.2.2 : Int) - (t.2.1 : Int)) % (n : Int)) = nV ((t.2.2 + n - t.2.1) % n) := congrArg V.int (step_int r1 r2)
        obtain ⟨_, hfree, hneD⟩ := has _ (List.getElem_mem hka)
        refine ⟨t.1, _, rfl, SqT.of htup, rfl, _, _, rfl, _, _, rfl, rfl, ?_⟩
        refine ⟨_, rfl, _, rfl, D, _, _, _, rfl, rfl, SqL.of hD2, atI_nat haD, .inl ⟨rfl, _, SqL.of hr0⟩, _, rfl, _, rfl, _, _, rfl, rfl, _, rfl, _, _, rfl, rfl, nz, _, _, _, rfl, rfl, hr0, ?_, ?_⟩
        · rw [List.length_map]
          have := steps_few n (ts.map (·.2)) i t.2.1
          rw [List.length_map] at this
          exact small1000 (by omega)
        · refine ⟨_, _, rfl, same_put s2 hfree, by rw [upd_ne hneD.symm]; exact hD2, fun k a hk => ?_⟩
          rw [steps_snoc htT]
          by_cases c : t.2.1 = k
          · subst c
            have e : a = as[t.2.1] := by rw [ha] at hk; exact (Option.some.inj hk).symm
            subst e
            rw [if_pos rfl]
            show (upd _ _ (.lst (_ ++ [V.int (((t.2.2 : Int) - (t.2.1 : Int)) % (n : Int))]))) _ = _
            rw [upd_same, ev, map_snoc]
          · rw [if_neg c, List.append_nil]
            have hne : a ≠ as[t.2.1] := fun e => by
              obtain ⟨hk', ek⟩ := List.getElem?_eq_some_iff.mp hk
              have h1 := List.pairwise_iff_getElem.mp nd
              rcases Nat.lt_or_ge k t.2.1 with h | h
              · exact h1 k t.2.1 hk' hka h (ek.trans e)
              · exact h1 t.2.1 k hka hk' (by omega) (e.symm.trans ek.symm)
            rw [NL, upd_ne hne]
            exact hrow k a hk
      · rintro σ H2 ⟨x3, x4, rfl, s2, hD2, hrow⟩
        rw [List.length_map] at hrow
        have eT : (ts.map (·.2)).take ts.length = ts.map (·.2) := List.take_of_length_le (by rw [List.length_map]; exact Nat.le_refl _)
        rw [eT] at hrow
        -- the rows
        refine ⟨_, rfl, (n : Int), rfl, by omega, by omega, fun D2 nD2 => ?_⟩
        have nD2H : H D2 = none := s2.free nD2
        refine lc_range (lo := 0) (n := n) (fun i H3 => ∃ rs, Same H2 H3 ∧ LL H3 D2 rs ∧ rs.map (·.2) = (rowsOf n (ts.map (·.2))).take i ∧ ∀ r ∈ rs, H r.1 = none) ?_ ?_ ?_
        · exact ⟨[], same_new nD2, ⟨upd_same, fun r hr => by cases hr⟩, by simp, fun r hr => by cases hr⟩
        · rintro i H3 hi ⟨rs, s3, hLL, hrs, hnew⟩
          have e0 : (0 : Int) + (i : Int) = (i : Int) := Int.zero_add _; rw [e0]
          have hka : i < as.length := by omega
          have ha := List.getElem?_eq_getElem hka
          have haD : (as.map V.ref)[i]? = some (.ref as[i]) := by rw [List.getElem?_map, ha]; rfl
          have hr0 := s3 _ _ (hrow _ _ ha)
          refine ⟨rfl, _, rfl, _, rfl, D, _, _, _, rfl, rfl, SqL.of (s3 _ _ hD2), atI_nat haD, as[i], (stepsOf n (ts.map (·.2)) i).map fun (x : Nat) => (x : Int), rfl, ?_, fun ns' p hperm hsort np => ?_⟩
          · rw [← map_nV_int]; exact SqL.of hr0
          have hss := sorted_steps g hi hperm hsort
          subst hss
          rw [← map_nV_int]
          have sp := same_new (o := .lst ((rowS n (ts.map (·.2)) i).map nV)) np
          refine ⟨p, rfl, ⟨_, SqL.of upd_same⟩, fun D3 nD3 => ?_⟩
          refine lc_list (K := K) (a := p) (xs := (rowS n (ts.map (·.2)) i).map nV) (fun j H4 => Same (upd H3 p (.lst ((rowS n (ts.map (·.2)) i).map nV))) H4 ∧ NL H4 D3 (((rowS n (ts.map (·.2)) i).take j).map fun s => (i + s) % n)) ?_ ?_ ?_ ?_
          · exact ⟨same_new nD3, upd_same⟩
          · rintro j H4 _ ⟨s4, _⟩
            exact s4.seq (SqL.of upd_same)
          · rintro j x H4 hx ⟨s4, hD3⟩
            obtain ⟨u, hu, rfl⟩ := map_at hx
            have ev : V.int (((i : Int) + (u : Int)) % (n : Int)) = nV ((i + u) % n) := congrArg V.int (round_int n i u)
            refine ⟨rfl, _, rfl, _, rfl, _, _, rfl, rfl, _, rfl, _, _, rfl, rfl, nz, _, hD3, ?_, same_put s4 nD3, ?_⟩
            · rw [List.length_map, List.length_map, List.length_take]
              have h5 := L2.nat_nodup_len (rowS n (ts.map (·.2)) i) (List.range n) (rowS_nodup _ _ _) fun u hu => List.mem_range.mpr (rowS_lt hu)
              rw [List.length_range] at h5
              exact small1000 (by omega)
            · show (upd _ D3 (.lst (_ ++ [V.int (((i : Int) + (u : Int)) % (n : Int))]))) D3 = _
              rw [upd_same, ev, take_snoc hu, map_snoc, map_snoc]
          · rintro H4 ⟨s4, hD3⟩
            rw [List.length_map, List.take_length] at hD3
            have s34 : Same H3 H4 := sp.trans s4
            have hLL4 := hLL.same s34
            have nDD : D3 ≠ D2 := (ne_of_none (sp _ _ hLL.at_) nD3).symm
            refine ⟨_, hLL4.at_, ?_, rs ++ [(D3, rowOf n (ts.map (·.2)) i)], same_put (s3.trans s34) nD2, hLL4.push hD3 nDD, ?_, ?_⟩
            · rw [List.length_map]
              have := congrArg List.length hrs
              rw [List.length_map, List.length_take, rows_len] at this
              exact small1000 (by omega)
            · rw [map_snoc, hrs, take_snoc (rows_get _ hi)]
            · intro r hr
              rcases List.mem_append.mp hr with h | h
              · exact hnew r h
              · rw [List.mem_singleton.mp h]
                exact ((s2.trans s3).trans sp).free nD3
        · rintro H3 ⟨rs, s3, hLL, hrs, hnew⟩
          rw [List.take_of_length_le (by rw [rows_len]; exact Nat.le_refl _)] at hrs
          exact q D2 rs H3 (s2.trans s3) nD2H hLL hrs hnew
theorem can_outs (T : Tx K mg) : Can P w K mg base CX0 1 "outs_of" ["many", "ties"] spOuts :=
  T.can 5 rfl rfl (fun _ _ _ _ _ _ us hl => match us, hl with | [_, _], _ => rfl) fun _ _ F => ok_outs T F
end
end NW
-- NwEven
set_option Elab.async false
set_option linter.all false
set_option maxRecDepth 100000
set_option maxHeartbeats 4200000
namespace NW
open PySem PySem.Spec L2 PyProof.Rows
/-! ## are_even -/
/-- how many of the ties pass a test at each house -/
def cnts (n : Nat) (T : Ties) (q : Nat → Nat × Nat → Bool) : List Nat := (List.range n).map fun h => T.countP (q h)
theorem cnts_len (n : Nat) (T : Ties) (q : Nat → Nat × Nat → Bool) : (cnts n T q).length = n := by unfold cnts; rw [List.length_map, List.length_range]
theorem cnts_get {n : Nat} (T : Ties) (q : Nat → Nat × Nat → Bool) {h : Nat} (hh : h < n) : (cnts n T q)[h]? = some (T.countP (q h)) := by
  unfold cnts; rw [List.getElem?_map, List.getElem?_range hh]; rfl
theorem cnts_set {n : Nat} {T : Ties} {q : Nat → Nat × Nat → Bool} {i : Nat} {p : Nat × Nat} (hp : T[i]? = some p) {a : Nat} (ha : a < n) (hq : ∀ h, q h p = (a == h)) :
    (cnts n (T.take i) q).set a ((T.take i).countP (q a) + 1) = cnts n (T.take (i + 1)) q := by
  apply List.ext_getElem?
  intro h
  rw [List.getElem?_set, cnts_len]
  by_cases c : a = h
  · subst c
    rw [if_pos rfl, if_pos ha, cnts_get _ _ ha, take_snoc hp, List.countP_append, List.countP_singleton, hq]
    simp
  · rw [if_neg c]
    by_cases hh : h < n
    · rw [cnts_get _ _ hh, cnts_get _ _ hh, take_snoc hp, List.countP_append, List.countP_singleton, hq]
      have : (a == h) = false := beq_eq_false_iff_ne.mpr c
      rw [this]; simp
    · rw [List.getElem?_eq_none (by rw [cnts_len]; omega), List.getElem?_eq_none (by rw [cnts_len]; omega)]
theorem flat_rep (n : Nat) (v : V) : (List.replicate n [v]).flatten = List.replicate n v := by
  induction n with
  | zero => rfl
  | succ n ih => rw [List.replicate_succ, List.flatten_cons, ih]; rfl
theorem cnts_zero (n : Nat) (q : Nat → Nat × Nat → Bool) : (cnts n [] q).map nV = List.replicate n (nV 0) := by
  unfold cnts
  rw [List.map_map]
  apply List.ext_getElem
  · simp
  · intro i h1 h2
    simp
section
variable {P : Program} {w : World} {base : Heap} {K : PySem.W.Frag} {mg : Str → Option Value}
def spEven : Sp := fun vs H Q _ => ∃ (l : Addr) (n : Nat) (ts : List (Addr × Nat × Nat)), vs = [nV n, .ref l] ∧ PL H l ts ∧ Good n (ts.map (·.2)) ∧ 2 ≤ n ∧ n ≤ 32 ∧ ∀ H', Same H H' → Q (.bl true) H'
abbrev nEven : List Str := ["many", "ties", "outs", "ins", "one", "other"]
theorem scEven : FnScope nEven ["many", "ties"] (defScope (top 25)) := ⟨rfl, rfl, rfl, by decide +kernel, rfl, by decide +kernel, by decide +kernel⟩
theorem ok_even {f : Addr} {fd : FuncData} (T : Tx K mg) (F : Fun K "are_even" "are_even" (top 25) f fd) : FnOk P w K mg base CX0 1 f fd ["many", "ties"] spEven := by
  refine F.ok scEven (fun vs H Q E h => ?_) (fun cdv A outer s H vs Q E hr h => ?_)
  · obtain ⟨l, n, ts, rfl, _⟩ := h
    rfl
  · obtain ⟨l, n, ts, rfl, hl, g, n2, n32, q⟩ := h
    have h64 := hr.units
    obtain ⟨t8, e8⟩ := T.out8
    refine ⟨_, pss_cons (ps_set (i := 2) scEven.nd rfl (.inl rfl) (pe_op op_rep (pe_lst (pa_cons pe_int pa_nil)) (pv 0)))
      (pss_cons (ps_set (i := 3) scEven.nd rfl (.inl rfl) (pe_op op_rep (pe_lst (pa_cons pe_int pa_nil)) (pv 0)))
      (pss_cons (ps_for PassesOwn.never rfl (pi_list (pv 1)) (pg_tup rfl (pgs_cons (pg_name (i := 4) scEven.nd rfl (.inl rfl)) (pgs_cons (pg_name (i := 5) scEven.nd rfl (.inl rfl)) pgs_nil)))
        (pss_cons (ps_asg (pe_op op_add (pe_ix ix_list (pv 2) (pv 4) (fun _ _ => rfl)) pe_int) (pg_sub (pv 2) (pv 4) set_list))
        (pss_one (ps_asg (pe_op op_add (pe_ix ix_list (pv 3) (pv 5) (fun _ _ => rfl)) pe_int) (pg_sub (pv 3) (pv 5) set_list)))))
      (pss_one (ps_ret (pe_and (pe_cmpR (op_eqD h64) (pv 2) (pv 3) (nomark _)) (pe_one (pe_cmpR op_le (pe_callB (cr_max rfl) (by rfl) T.fMax (by decide +kernel) (pa_cons (pv 2) pa_nil)) (pe_glob (v := .int 8) (by rfl) e8 ⟨_, rfl⟩) (nomark _)))))))), ?_⟩
    -- outs, ins
    refine ⟨by show 1 ≤ sizeLine; decide, fun a na => ?_⟩
    refine ⟨_, rfl, a, (n : Int), _, rfl, rfl, upd_same, by omega, by omega, ?_, fun o no => ?_⟩
    · exact small_le (by show 1 * (n : Int).toNat ≤ 1000; omega)
    refine ⟨by show 1 ≤ sizeLine; decide, fun b nb => ?_⟩
    refine ⟨_, rfl, b, (n : Int), _, rfl, rfl, upd_same, by omega, by omega, ?_, fun o2 no2 => ?_⟩
    · exact small_le (by show 1 * (n : Int).toNat ≤ 1000; omega)
    have en : (List.replicate (n : Int).toNat [V.int 0]).flatten = (cnts n [] fromH).map nV := by rw [flat_rep, cnts_zero]; rfl
    have en2 : (List.replicate (n : Int).toNat [V.int 0]).flatten = (cnts n [] intoH).map nV := by rw [flat_rep, cnts_zero]; rfl
    have sa : Same H (upd H a (.lst [V.int 0])) := same_new na
    have so := sa.trans (same_new (o := .lst (List.replicate (n : Int).toNat [V.int 0]).flatten) no)
    have sb := so.trans (same_new (o := .lst [V.int 0]) nb)
    have so2 := sb.trans (same_new (o := .lst (List.replicate (n : Int).toNat [V.int 0]).flatten) no2)
    have noH : H o = none := sa.free no
    have no2H : H o2 = none := sb.free no2
    have ne2 : o ≠ o2 := fun e => by
      rw [e] at nb no2
      rw [upd_ne (fun z => by rw [z, upd_same] at no2; cases no2)] at no2
      rw [upd_same] at no2
      cases no2
    have ho : NL (upd (upd (upd (upd H a (.lst [V.int 0])) o (.lst (List.replicate (n : Int).toNat [V.int 0]).flatten)) b (.lst [V.int 0])) o2 (.lst (List.replicate (n : Int).toNat [V.int 0]).flatten)) o (cnts n [] fromH) := by
      rw [NL, upd_ne ne2, upd_ne (ne_of_none upd_same nb), upd_same, en]
    have ho2 : NL (upd (upd (upd (upd H a (.lst [V.int 0])) o (.lst (List.replicate (n : Int).toNat [V.int 0]).flatten)) b (.lst [V.int 0])) o2 (.lst (List.replicate (n : Int).toNat [V.int 0]).flatten)) o2 (cnts n [] intoH) := by
      rw [NL, upd_same, en2]
    -- the ties
    refine ⟨_, rfl, l, rfl, ⟨_, SqL.of (so2 _ _ hl.at_)⟩, for_list (K := K) (a := l) (xs := ts.map fun t => V.ref t.1) (fun i σ H2 => ∃ x4 x5, σ = [some (nV n), some (.ref l), some (.ref o), some (.ref o2), x4, x5] ∧ Same H H2 ∧
      NL H2 o (cnts n ((ts.map (·.2)).take i) fromH) ∧ NL H2 o2 (cnts n ((ts.map (·.2)).take i) intoH)) ?_ ?_ ?_ ?_⟩
    · exact ⟨none, none, rfl, so2, by rw [List.take_zero]; exact ho, by rw [List.take_zero]; exact ho2⟩
    · rintro i σ H2 _ ⟨_, _, _, s2, _⟩
      exact s2.seq (SqL.of hl.at_)
    · rintro i x σ H2 hx ⟨x4, x5, rfl, s2, h1, h2⟩
      obtain ⟨t, ht, rfl⟩ := map_at hx
      obtain ⟨_, htup⟩ := (hl.same s2).get ht
      have htT : (ts.map (·.2))[i]? = some t.2 := by rw [List.getElem?_map, ht]; rfl
      obtain ⟨r1, r2, _⟩ := g.rng t.2 (List.mem_of_getElem? htT)
      have g1 : ((cnts n ((ts.map (·.2)).take i) fromH).map nV)[t.2.1]? = some (nV (((ts.map (·.2)).take i).countP (fromH t.2.1))) := by rw [List.getElem?_map, cnts_get _ _ r1]; rfl
      have g2 : ((cnts n ((ts.map (·.2)).take i) intoH).map nV)[t.2.2]? = some (nV (((ts.map (·.2)).take i).countP (intoH t.2.2))) := by rw [List.getElem?_map, cnts_get _ _ r2]; rfl
      have ix : ∀ (q : Nat → Nat × Nat → Bool) (k : Nat), k < n → ixN ((cnts n ((ts.map (·.2)).take i) q).map nV).length (k : Int) = some k := fun q k hk => by
        rw [List.length_map, cnts_len]
        unfold ixN
        rw [if_pos (by omega), if_pos (by omega)]; rfl
      refine ⟨t.1, _, rfl, SqT.of htup, rfl, _, _, rfl, _, _, rfl, rfl, ?_⟩
      refine ⟨_, rfl, _, rfl, o, _, _, _, rfl, rfl, SqL.of h1, atI_nat g1, _, _, rfl, rfl, _, rfl, _, rfl, o, _, _, t.2.1, rfl, rfl, h1, ix _ _ r1, ?_⟩
      have h2' : NL (upd H2 o (.lst (((cnts n ((ts.map (·.2)).take i) fromH).map nV).set t.2.1 (nV (((ts.map (·.2)).take i).countP (fromH t.2.1) + 1))))) o2 (cnts n ((ts.map (·.2)).take i) intoH) := by
        rw [NL, upd_ne ne2.symm]; exact h2
      refine ⟨_, rfl, _, rfl, o2, _, _, _, rfl, rfl, SqL.of h2', atI_nat g2, _, _, rfl, rfl, _, rfl, _, rfl, o2, _, _, t.2.2, rfl, rfl, h2', ix _ _ r2, ?_⟩
      refine ⟨_, _, rfl, same_put (same_put s2 noH) no2H, ?_, ?_⟩
      · rw [NL, upd_ne ne2, upd_same, ← cnts_set htT r1 (fun h => rfl), List.map_set]; rfl
      · rw [NL, upd_same, ← cnts_set htT r2 (fun h => rfl), List.map_set]; rfl
    · rintro σ H2 ⟨x4, x5, rfl, s2, h1, h2⟩
      have eT : (ts.map (·.2)).take (ts.map fun t => V.ref t.1).length = ts.map (·.2) := List.take_of_length_le (by rw [List.length_map, List.length_map]; exact Nat.le_refl _)
      rw [eT] at h1 h2
      have eq : cnts n (ts.map (·.2)) fromH = cnts n (ts.map (·.2)) intoH := by
        unfold cnts
        apply List.map_congr_left
        intro h _
        exact g.bal h
      refine ⟨_, rfl, _, rfl, iD _, iD _, dp_nl h1, dp_nl h2, iD_shaped _, iD_shaped _, true, by rw [iD_eqv, decide_eq_true eq], iteT ?_⟩
      refine ⟨_, rfl, o, (cnts n (ts.map (·.2)) fromH).map fun (x : Nat) => (x : Int), rfl, by rw [← map_nV_int]; exact SqL.of h1, by rw [List.length_map, cnts_len]; omega, fun m hm _ => ?_⟩
      refine ⟨_, _, rfl, rfl, ?_⟩
      have hm8 : m ≤ 8 := by
        obtain ⟨x, hx, rfl⟩ := List.mem_map.mp hm; obtain ⟨h, _, rfl⟩ := List.mem_map.mp hx
        have := g.cap h
        omega
      show Q (.bl (decide (m ≤ 8))) H2
      rw [decide_eq_true hm8]
      exact q H2 s2
theorem can_even (T : Tx K mg) : Can P w K mg base CX0 1 "are_even" ["many", "ties"] spEven :=
  T.can 6 rfl rfl (fun _ _ _ _ _ _ us hl => match us, hl with | [_, _], _ => rfl) fun _ _ F => ok_even T F
end
end NW
-- NwProbe
set_option Elab.async false
set_option linter.all false
set_option maxRecDepth 100000
set_option maxHeartbeats 4200000
namespace NW
open PySem PySem.Spec L2 PyProof.Rows
/-! ## Sets of up to 306 unlike tuples: the table alone, without a word on what is found again -/
def MO (m : Nat) : Prop := m = 7 ∨ m = 31 ∨ m = 127 ∨ m = 511
/-- the places that i -> 5 i + 1 comes to -/
def orb (m : Nat) : Nat → Nat → List Nat
  | 0, _ => []
  | n + 1, x => x :: orb m n ((x * 5 + 1) % (m + 1))
theorem lcgI_next (m x : Nat) : ∀ k, lcgI m ((x * 5 + 1) % (m + 1)) k = lcgI m x (k + 1)
  | 0 => rfl
  | k + 1 => by
    show (lcgI m ((x * 5 + 1) % (m + 1)) k * 5 + 1) % (m + 1) = _
    rw [lcgI_next m x k]
    rfl
theorem orb_mem {m j : Nat} : ∀ {n x : Nat}, j ∈ orb m n x → ∃ k, k < n ∧ lcgI m x k = j
  | n + 1, x, h => by
    rcases List.mem_cons.mp h with e | on
    · exact ⟨0, Nat.succ_pos _, e.symm⟩
    · obtain ⟨k, hk, e⟩ := orb_mem on
      exact ⟨k + 1, Nat.succ_lt_succ hk, by rw [← lcgI_next]; exact e⟩
def Round (m : Nat) : Prop := (∀ j, j ≤ m → ∃ b, b ≤ m ∧ lcgI m 0 b = j) ∧ lcgI m 0 (m + 1) = 0
def roundB (m : Nat) : Bool := (List.range (m + 1)).all fun j => (orb m (m + 1) 0).contains j
theorem round_of {m : Nat} (h : roundB m = true) (e : lcgI m 0 (m + 1) = 0) : Round m := by
  refine ⟨fun j hj => ?_, e⟩
  have h1 := List.all_eq_true.mp h j (List.mem_range.mpr (Nat.lt_succ_of_le hj)); obtain ⟨k, hk, e⟩ := orb_mem (List.contains_iff_mem.mp h1)
  exact ⟨k, Nat.le_of_lt_succ hk, e⟩
theorem round_mo {m : Nat} (h : MO m) : Round m := by
  rcases h with e | e | e | e <;> subst e
  · exact round_of (by decide +kernel) (by decide +kernel)
  · exact round_of (by decide +kernel) (by decide +kernel)
  · exact round_of (by decide +kernel) (by decide +kernel)
  · exact round_of (by decide +kernel) (by decide +kernel)
theorem lcgI_add (m i : Nat) : ∀ a k, lcgI m (lcgI m i a) k = lcgI m i (a + k)
  | a, 0 => rfl
  | a, k + 1 => by
    show (lcgI m (lcgI m i a) k * 5 + 1) % (m + 1) = (lcgI m i (a + k) * 5 + 1) % (m + 1)
    rw [lcgI_add m i a k]
theorem meets_all {m i j : Nat} (h : Round m) (hi : i ≤ m) (hj : j ≤ m) : ∃ k, k ≤ m ∧ lcgI m i k = j := by
  obtain ⟨a, ha, ea⟩ := h.1 i hi
  obtain ⟨b, hb, eb⟩ := h.1 j hj
  by_cases c : a ≤ b
  · refine ⟨b - a, (by omega), ?_⟩
    rw [← ea, lcgI_add, ← eb]
    congr 1
    omega
  · refine ⟨m + 1 - a + b, by omega, ?_⟩
    rw [← ea, lcgI_add, ← eb, show a + (m + 1 - a + b) = m + 1 + b from by omega, ← lcgI_add, h.2]
theorem starts_all {m : Nat} (hm : MO m) (h : Int) {j : Nat} (hj : j ≤ m) : ∃ n, n ≤ m + 12 ∧ runI m (SetTable.bits h) n = j := by
  obtain ⟨k, hk, e⟩ := meets_all (round_mo hm) (runI_le m (SetTable.bits h) 12) hj
  refine ⟨12 + k, by omega, ?_⟩
  rw [runI_tail (bits_lt h), e]
theorem met_soon {m : Nat} (hm : MO m) (h : Int) {j : Nat} (hj : j ≤ m) : ∃ k, k < 10 * SetTable.turns m ∧ way m h k = j := by
  obtain ⟨n, hn, e⟩ := starts_all hm h hj
  obtain ⟨k, hk, e2⟩ := run_nth m (SetTable.bits h) n; have hlt : k < 10 * SetTable.turns m := by
    unfold SetTable.turns
    omega
  refine ⟨k, hlt, ?_⟩
  unfold way
  rw [e2, ← e]
  rfl
theorem way_in (m : Nat) (h : Int) (k : Nat) : way m h k ≤ m := by
  have i0 : SetTable.bits h % (m + 1) ≤ m := Nat.le_of_lt_succ (Nat.mod_lt _ (Nat.succ_pos _))
  obtain ⟨r1, r2, _⟩ := runEnd_bd i0
  have start : (runAt m (SetTable.bits h % (m + 1)) (SetTable.bits h)).j + (runAt m (SetTable.bits h % (m + 1)) (SetTable.bits h)).more ≤ m := by
    exact Nat.le_trans (Nat.le_of_eq (Nat.add_sub_cancel' r2)) r1
  exact Nat.le_trans (Nat.le_add_right _ _) (nth_in k _ start)
/-- a table of n rows -/
structure TabD (t : SetTable) (n : Nat) : Prop where
  ris : Ris t.place.toList
  dm : t.dummies = #[]
  sz : t.place.size = n
  mok : MO t.mask
theorem TabD.hole {t : SetTable} {n : Nat} (T : TabD t n) (hn : n ≤ t.mask) (h : Int) : ∃ K, K < 10 * SetTable.turns t.mask ∧ way t.mask h K ∉ t.place.toList ∧ ∀ k, k < K → way t.mask h k ∈ t.place.toList := by
  obtain ⟨j, hj, no⟩ := st_missing t.place.toList (t.mask + 1) (by rw [Array.length_toList, T.sz]; exact Nat.lt_succ_of_le hn)
  obtain ⟨k, hk, e⟩ := met_soon T.mok h (Nat.le_of_lt_succ hj)
  obtain ⟨K, h1, h2, h3⟩ := st_least (p := fun k => way t.mask h k ∉ t.place.toList) k (by rw [e]; exact no)
  exact ⟨K, Nat.lt_of_le_of_lt h1 hk, h2, fun q hq => Classical.not_not.mp (h3 q hq)⟩
theorem TabD.put {t : SetTable} {n : Nat} (T : TabD t n) {j : Nat} (hj : j ∉ t.place.toList) :
    (t.put j).2 = SetTable.below t.place j ∧ SetTable.below t.place j ≤ n ∧ TabD (t.put j).1 (n + 1) ∧ (t.put j).1.mask = t.mask ∧ (t.put j).1.led = t.led ∧ (t.put j).1.plain = t.plain ∧ (t.put j).1.fill = n + 1 := by
  have c1 := (below_cut T.ris j).1
  have len : SetTable.below t.place j ≤ t.place.toList.length := by rw [Array.length_toList]; exact c1
  have size : (t.put j).1.place.size = n + 1 := by
    rw [← Array.length_toList, put_place t j, len_ins _ len, Array.length_toList, T.sz]
  have new : t.place[SetTable.below t.place j]? ≠ some j := fun e => hj (List.mem_of_getElem? (by rw [Array.getElem?_toList]; exact e))
  have fill : (t.put j).1.fill = n + 1 := by
    show (t.put j).1.place.size + (t.put j).1.dummies.size = n + 1
    rw [size, put_dm T.dm j]
    rfl
  exact ⟨rfl, by rw [← T.sz]; exact c1, ⟨ris_insert T.ris new, put_dm T.dm j, size, T.mok⟩, rfl, rfl, rfl, fill⟩
/-! ### laid anew -/
/-- n rows sit in the slots -/
structure Sit (m n : Nat) (owner : Array (Option Nat)) : Prop where
  sz : owner.size = m + 1
  all : ∀ k, k < n → ∃ j, j ≤ m ∧ oAt owner j = some k
  few : ∃ ps : List Nat, ps.length = n ∧ ∀ j, j ≤ m → oAt owner j ≠ none → j ∈ ps
theorem Sit.zero (m : Nat) : Sit m 0 (Array.replicate (m + 1) none) :=
  ⟨Array.size_replicate, fun _ hk => absurd hk (Nat.not_lt_zero _), [], rfl, fun j hj e => absurd (oAt_init hj) e⟩
theorem freed {m : Nat} (hm : MO m) (owner : Array (Option Nat)) (h : Int) {j : Nat} (hj : j ≤ m) (e0 : oAt owner j = none) :
    ∃ K, SetTable.layClean.free m owner (SetTable.turns m) (SetTable.bits h % (m + 1)) (SetTable.bits h) = some (way m h K) ∧ oAt owner (way m h K) = none := by
  obtain ⟨n, hn, e⟩ := starts_all hm h hj
  generalize hN : off m (SetTable.bits h % (m + 1)) (SetTable.bits h) n = N
  have hw : way m h N = j := by
    unfold way
    rw [← hN, nth_off, itL_run, ← e]
    rfl
  obtain ⟨K, k1, k2, k3⟩ := st_least (p := fun k => oAt owner (way m h k) = none) N (by rw [hw]; exact e0)
  refine ⟨K, free_spec m owner (SetTable.turns m) n _ _ K (by unfold SetTable.turns; omega) (by rw [hN]; exact k1) (fun k hk => ?_) ?_, k2⟩
  · have no : oAt owner (way m h k) ≠ none := k3 k hk
    show (oAt owner (way m h k)).isNone = false
    generalize way m h k = z at no ⊢
    cases q : oAt owner z with
    | none => exact absurd q no
    | some _ => rfl
  · show (oAt owner (way m h K)).isNone = true
    rw [k2]
    rfl
theorem Sit.more {m n : Nat} {owner : Array (Option Nat)} (hm : MO m) (S : Sit m n owner) (hn : n ≤ m) (h : Int) :
    ∃ j, SetTable.layClean.free m owner (SetTable.turns m) (SetTable.bits h % (m + 1)) (SetTable.bits h) = some j ∧ Sit m (n + 1) (owner.setIfInBounds j (some n)) := by
  obtain ⟨ps, hps, hin⟩ := S.few
  obtain ⟨j0, h0, no0⟩ := st_missing ps (m + 1) (by omega)
  have e0 : oAt owner j0 = none := Classical.byContradiction fun c => no0 (hin j0 (Nat.le_of_lt_succ h0) c)
  obtain ⟨K, e1, e2⟩ := freed hm owner h (Nat.le_of_lt_succ h0) e0
  have hj := way_in m h K
  generalize way m h K = j at e1 e2 hj
  have self := oAt_set_self (owner := owner) (some n) (by rw [S.sz]; exact Nat.lt_succ_of_le hj)
  refine ⟨j, e1, by rw [Array.size_setIfInBounds]; exact S.sz, fun k hk => ?_, j :: ps, by rw [List.length_cons, hps], fun i hi e => ?_⟩
  · by_cases c : k = n
    · rw [c]
      exact ⟨j, hj, self⟩
    · obtain ⟨i, hi, e⟩ := S.all k (by omega)
      refine ⟨i, hi, ?_⟩
      rw [oAt_set_ne _ (fun z => by rw [z, e2] at e; cases e)]; exact e
  · by_cases c : i = j
    · rw [c]; exact List.mem_cons_self
    · rw [oAt_set_ne _ c] at e
      exact List.mem_cons_of_mem _ (hin i hi e)
theorem sit_fold {m : Nat} (hm : MO m) : ∀ (hs : List Int) (n : Nat) (owner : Array (Option Nat)), Sit m n owner → n + hs.length ≤ m →
    ∃ owner', hs.foldl (stepF m) (some (owner, n)) = some (owner', n + hs.length) ∧ Sit m (n + hs.length) owner'
  | [], n, owner, S, _ => ⟨owner, rfl, S⟩
  | h :: hs, n, owner, S, hl => by
    have hl' : n + (hs.length + 1) ≤ m := hl
    obtain ⟨j, e, S'⟩ := S.more hm (by omega) h
    obtain ⟨owner', f, S2⟩ := sit_fold hm hs (n + 1) _ S' (by omega)
    have en : n + 1 + hs.length = n + (h :: hs).length := by rw [List.length_cons]; omega
    rw [en] at f S2
    exact ⟨owner', by rw [List.foldl_cons, stepF_some e]; exact f, S2⟩
theorem laid_ok {m : Nat} (hm : MO m) {hs : Array Int} (hn : hs.size ≤ m) : ∃ owner, SetTable.layClean m hs = some owner ∧ Sit m hs.size owner := by
  obtain ⟨owner, f, S⟩ := sit_fold hm hs.toList 0 _ (Sit.zero m) (by rw [Array.length_toList, Nat.zero_add]; exact hn)
  rw [Array.length_toList, Nat.zero_add] at f S
  exact ⟨owner, by rw [layClean_eq, f]; rfl, S⟩
theorem anew_ok (t : SetTable) {hs : Array Int} {wanted M : Nat} (hw : SetTable.sizeAbove wanted - 1 = M) (hM : MO M) (hn : hs.size ≤ M) :
    ∃ t' order, t.relaid hs wanted = some (t', order) ∧ order.toList.Perm (List.range hs.size) ∧ TabD t' hs.size ∧ t'.mask = M ∧ t'.led = t.led ∧ t'.plain = t.plain := by
  obtain ⟨owner, e, S⟩ := laid_ok hM hn
  obtain ⟨r1, r2⟩ := ris_live (fun j => owner.getD j none) (List.range (M + 1)) (by unfold Ris; exact List.pairwise_lt_range)
  have nd : ((liveOf M owner).map (·.1)).Nodup := List.Pairwise.imp (fun h => Nat.ne_of_lt h) r1; have at_ : ∀ k, k < hs.size → k ∈ (liveOf M owner).map (·.2) := fun k hk => by
    obtain ⟨j, b1, b2⟩ := S.all k hk
    exact List.mem_map.mpr ⟨(j, k), (mem_live S.sz).2 ⟨b1, b2⟩, rfl⟩
  have len : (liveOf M owner).length = hs.size := by
    obtain ⟨ps, p1, p2⟩ := S.few
    have up := nat_nodup_len ((liveOf M owner).map (·.1)) ps nd fun x hx => by
      obtain ⟨⟨y, k⟩, hq, rfl⟩ := List.mem_map.mp hx
      obtain ⟨b1, b2⟩ := (mem_live S.sz).1 hq
      exact p2 y b1 fun z => by rw [b2] at z; cases z
    have down := nat_nodup_len (List.range hs.size) ((liveOf M owner).map (·.2)) List.nodup_range fun k hk => at_ k (List.mem_range.mp hk)
    rw [List.length_map, p1] at up
    rw [List.length_map, List.length_range] at down
    omega
  refine ⟨tabOf t M owner, ((liveOf M owner).map (·.2)).toArray, by rw [relaid_eq, hw, e]; rfl, perm_range hs.size _ (by rw [List.length_map]; exact len) at_, ⟨r1, rfl, ?_, hM⟩, rfl, rfl, rfl⟩
  show ((liveOf M owner).map (·.1)).toArray.size = _
  rw [List.size_toArray, List.length_map, len]
theorem grown5 : SetTable.sizeAbove (SetTable.grown 5) = 32 := by decide +kernel
theorem grown19 : SetTable.sizeAbove (SetTable.grown 19) = 128 := by decide +kernel
theorem grown77 : SetTable.sizeAbove (SetTable.grown 77) = 512 := by decide +kernel
end NW
-- NwAdd
set_option Elab.async false
set_option linter.all false
set_option maxRecDepth 100000
set_option maxHeartbeats 4200000
namespace NW
open PySem PySem.Spec L2 PyProof.Rows
/-! ## A set of unlike tuples takes one more -/
abbrev Row : Type := Addr × List Int
/-- the set at a holds the rows L -/
structure SetD (P : Program) (w : World) (h : Heap) (a : Addr) (L : List Row) (es : Array (Int × Value)) (ep : Nat) (t : SetTable) : Prop where
  ob : ∃ obj, h.get? a = some obj ∧ obj.ExactSet ∧ obj.data = .set es ep t
  rows : es.toList = L2.rowsOf P w L
  tab : TabD t L.length
  tup : ∀ row ∈ L, IsT P w h row.2 row.1
  plain : t.plain = true
  led : (w.params.followText "set-order" = true) ∨ (t.led = true)
  room : 5 * L.length < 3 * t.mask
section
variable {P : Program} {w : World} {A : Around} {E : Value → Shared → Prop} {s : Shared} {a : Addr} {L : List Row} {es : Array (Int × Value)} {ep : Nat} {t : SetTable}
theorem rowsD_len {es : Array (Int × Value)} {L : List Row} (h : es.toList = L2.rowsOf P w L) : es.size = L.length := by
  rw [← Array.length_toList, h]
  exact List.length_map _
theorem SetD.count (R : SetD P w s.heap a L es ep t) : es.size = L.length := rowsD_len R.rows
theorem fits_of {t : SetTable} {n : Nat} (T : TabD t n) (h : n ≤ t.mask) : t.fits n = true := by
  unfold SetTable.fits SetTable.fill; rw [T.dm, T.sz]
  simpa using h
theorem SetD.fit (R : SetD P w s.heap a L es ep t) : t.fits es.size = true := by
  rw [R.count]
  have := R.room
  exact fits_of R.tab (by omega)
theorem SetD.row (R : SetD P w s.heap a L es ep t) {i : Nat} {p : Row} (h : L[i]? = some p) : es[i]? = some (thash P w p.2, Value.ref p.1) := by
  rw [← Array.getElem?_toList, R.rows, L2.rowsOf, List.getElem?_map, h]
  rfl
theorem SetD.stays (R : SetD P w s.heap a L es ep t) : ¬ t.gaveWay = true := by
  have odd : t.mask % 2 = 1 := by rcases R.tab.mok with e | e | e | e <;> rw [e]
  unfold SetTable.gaveWay
  rw [odd]
  decide
abbrev pr0 (m : Nat) (h : Int) : SetTable.Probe := runAt m (SetTable.bits h % (m + 1)) (SetTable.bits h)
theorem nth_quiet (m : Nat) : ∀ (n : Nat) (p : SetTable.Probe), p.dummy = none → (nth m p n).dummy = none
  | 0, _, h => h
  | n + 1, p, h => nth_quiet m n (adv m p) (by unfold adv; split <;> exact h)
/-- a key that none has is not found: the way's first empty slot comes -/
theorem search_new (R : SetD P w s.heap a L es ep t) {x : Addr} {k : List Int} (hx : IsT P w s.heap k x) (hu : A.units < cLine) (new : k ∉ L.map (·.2)) {K : Nat} (hlim : K < 10 * SetTable.turns t.mask)
    (hK : way t.mask (thash P w k) K ∉ t.place.toList) (hKb : ∀ c, c < K → way t.mask (thash P w k) c ∈ t.place.toList) {Q : SetFound → Shared → Prop} (q : Q (.free (way t.mask (thash P w k) K) false) s) :
    ∀ (f c : Nat) (at_ : Option SetTable.Probe), at_.getD (t.probeStart (thash P w k)) = nth t.mask (pr0 t.mask (thash P w k)) c → c ≤ K → K - c < f → wpAny (model P w) A (setSearchFrom a (.ref x) (thash P w k) true f at_) Q E s
  | 0, _, _, _, _, z => absurd z (Nat.not_lt_zero _)
  | f + 1, c, at_, hat, hc, hf => by
    obtain ⟨o, got, hex, hd⟩ := R.ob
    have quiet := nth_quiet t.mask c (pr0 t.mask (thash P w k)) rfl
    have step : ∀ d, nth t.mask (nth t.mask (pr0 t.mask (thash P w k)) c) d = nth t.mask (pr0 t.mask (thash P w k)) (c + d) := fun d => (nth_add t.mask c _ d).symm
    have spec := go_spec t R.tab.ris R.tab.dm (fun i => (es[i]?.map (·.1)).getD 0) (thash P w k) (10 * SetTable.turns t.mask) (K - c) _ quiet (by omega)
      (fun d hd => by rw [step]; exact hKb (c + d) (by omega)) (by rw [step, show c + (K - c) = K from by omega]; exact hK)
    rw [setSearchFrom_succ]
    refine wpAny_bind (wpAny_setState_of got hd R.fit ?_)
    dsimp only
    refine wp_if_neg R.stays ?_
    rcases spec with ⟨d, i, hd1, hi, _, _, pr⟩ | ⟨_, pr⟩
    · -- one of the same hash is met
      rw [step] at hi pr
      have pr' : t.probe (fun i => (es[i]?.map (·.1)).getD 0) (thash P w k) (at_.getD (t.probeStart (thash P w k))) = some (.candidate (way t.mask (thash P w k) (c + d)) i (nth t.mask (pr0 t.mask (thash P w k)) (c + (d + 1)))) := by
        rw [hat, ← step (d + 1)]
        exact pr
      rw [pr']
      dsimp only
      have il : i < L.length := by
        have h1 := (List.getElem?_eq_some_iff.mp hi).1
        rw [Array.length_toList, R.tab.sz] at h1
        exact h1
      obtain ⟨p, hp⟩ : ∃ p, L[i]? = some p := ⟨_, List.getElem?_eq_getElem il⟩
      have pm := List.mem_of_getElem? hp
      have unlike : ¬ p.2 = k := fun e => new (List.mem_map.mpr ⟨p, pm, e⟩)
      have slot : t.slot (way t.mask (thash P w k) (c + d)) = .live i := slot_live R.tab.ris hi
      have on : wpAny (model P w) A (searchRest a (.ref x) (thash P w k) true f es t (way t.mask (thash P w k) (c + d)) i (nth t.mask (pr0 t.mask (thash P w k)) (c + (d + 1)))) Q E s := by
        unfold searchRest
        rw [R.row hp]
        dsimp only
        refine wpAny_bind (wpAny_holding (wpAny_eqBool_tuple hu (R.tup p pm) hx (wpAny_bind (wpAny_setState_of got hd R.fit ?_))))
        dsimp only
        refine wp_if_neg (by simp [unlike]) ?_
        rw [sameMem]
        dsimp only
        simp only [if_true, slot, R.row hp]
        refine wpAny_bind (wpAny_isSame_ref_self (wpAny_bind (wpAny_pure ?_))); simp only [if_true]
        exact wp_if_neg (by simp [unlike]) (search_new R hx hu new hlim hK hKb q f (c + (d + 1)) _ rfl (by omega) (by omega))
      cases hl : t.led with
      | true => exact wp_if_neg (by simp) on
      | false =>
        refine wp_if_pos (by simp) (wpAny_bind (seen_tup hx (fun y hy => ?_) (wp_if_neg (by decide) on)))
        obtain ⟨e, he, ee⟩ := List.mem_map.mp hy
        have in1 : e ∈ es ∧ e.1 = thash P w k := (by simpa using he); have he2 : e ∈ es.toList := (by simpa using in1.1)
        rw [R.rows] at he2
        obtain ⟨r, hr, er⟩ := List.mem_map.mp he2
        exact ⟨r.2, r.1, by rw [← ee, ← er], R.tup r hr⟩
    · -- the empty slot
      have pr' : t.probe (fun i => (es[i]?.map (·.1)).getD 0) (thash P w k) (at_.getD (t.probeStart (thash P w k))) = some (.empty (way t.mask (thash P w k) K) none) := by
        rw [step, show c + (K - c) = K from by omega] at pr
        rw [hat]
        exact pr
      rw [pr']
      exact wpAny_pure q
/-- as adding asks for it -/
theorem search_one (R : SetD P w s.heap a L es ep t) {x : Addr} {k : List Int} (hx : IsT P w s.heap k x) (hu : A.units < cLine) (new : k ∉ L.map (·.2)) {Q : SetFound → Shared → Prop}
    (q : ∀ j, j ∉ t.place.toList → Q (.free j false) s) : wpAny (model P w) A (setSearch a (.ref x) (thash P w k) true) Q E s := by
  have room := R.room
  obtain ⟨K, hlim, hK, hKb⟩ := R.tab.hole (by omega) (thash P w k)
  have low : K < 100000 := by
    unfold SetTable.turns at hlim
    rcases R.tab.mok with e | e | e | e <;> omega
  unfold setSearch
  exact search_new R hx hu new hlim hK hKb (q _ hK) 100000 0 none rfl (Nat.zero_le _) (by omega)
/-- all rows laid into a larger table -/
theorem relay_new {o : Obj} (got : s.heap.get? a = some o) (hex : o.ExactSet) (hd : o.data = .set es ep t) (hrows : es.toList = L2.rowsOf P w L) (T : TabD t L.length) (le : L.length ≤ t.mask) (tup : ∀ p ∈ L, IsT P w s.heap p.2 p.1)
    (pl : t.plain = true) (ld : w.params.followText "set-order" = true ∨ t.led = true) (few : L.length ≤ 256) {wanted M : Nat} (hw : SetTable.sizeAbove wanted - 1 = M) (hM : MO M) (hw2 : SetTable.sizeAbove wanted ≤ 512) (hn : L.length * 5 < M * 3)
    {Q : Unit → Shared → Prop} (q : ∀ h' L' es' ep' t', Heap.SameBut a s.heap h' → SetD P w h' a L' es' ep' t' → L'.Perm L → Q () { s with heap := h' }) : wpAny (model P w) A (setRelay a wanted) Q E s := by
  have cnt := rowsD_len hrows
  have fit : t.fits es.size = true := by rw [cnt]; exact fits_of T le
  obtain ⟨t', order, e, hp, T', em, el, epl⟩ := anew_ok t (hs := es.map (·.1)) (wanted := wanted) hw hM (by rw [Array.size_map, cnt]; omega)
  rw [Array.size_map, cnt] at hp T'
  obtain ⟨L1, r1, pm, _⟩ := order_rows L es order hrows hp
  have cnt1 : (order.filterMap (es[·]?)).size = L.length := (rowsD_len r1).trans pm.length_eq
  rw [setRelay_eq]
  refine wpAny_bind (wpAny_setState_of got hd fit ?_)
  dsimp only
  refine wp_if_neg (by rw [sizeLine_eq]; omega) ?_; rw [e]
  dsimp only
  refine wpAny_bind (wp_if_neg (by rw [cnt1, cnt]; simp) (wpAny_pure ?_))
  dsimp only
  refine wpAny_storeSet_of got hd ?_ (by rw [cnt1, sizeLine_eq]; omega)
  have but : Heap.SameBut a s.heap (s.heap.update a (Obj.putSet (order.filterMap (es[·]?)) t')) := Heap.SameBut.update ..
  refine q _ L1 (order.filterMap (es[·]?)) (ep + 1) t' but ⟨⟨_, store_at got hd, ⟨hex.1, hex.2.1, hex.2.2⟩, rfl⟩, r1, by rw [pm.length_eq]; exact T', fun p m => isT_same (tup p (pm.mem_iff.mp m)) got hd but, by rw [epl]; exact pl, by rw [el]; exact ld, ?_⟩ pm
  rw [pm.length_eq, em]
  omega
/-- ADDING -/
theorem add_new (R : SetD P w s.heap a L es ep t) {x : Addr} {k : List Int} (hx : IsT P w s.heap k x) (hu : A.units < cLine) (new : k ∉ L.map (·.2)) (few : L.length + 1 ≤ 256) {Q : Bool → Shared → Prop}
    (q : ∀ h' L' es' ep' t', Heap.SameBut a s.heap h' → SetD P w h' a L' es' ep' t' → L'.Perm ((x, k) :: L) → Q true { s with heap := h' }) : wpAny (model P w) A (setAddHashed a (.ref x) (thash P w k)) Q E s := by
  obtain ⟨o, got, hex, hd⟩ := R.ob
  have cnt := R.count
  have room := R.room
  unfold setAddHashed
  refine wpAny_holding ?_
  rw [show (100000 : Nat) = 99999 + 1 from rfl, setAddHashedIn_succ]; refine wpAny_bind (wpAny_setState_of got hd R.fit ?_)
  dsimp only
  refine wp_if_neg (by simp [byScan, Value.scannable]) (wpAny_bind (search_one R hx hu new fun j hj => ?_))
  dsimp only
  refine wpAny_bind (wpAny_setState_of got hd R.fit ?_)
  dsimp only
  obtain ⟨q1, q2, T1, q4, q5, q6, q7⟩ := R.tab.put hj
  have pl1 : (t.put j).1.plain = true := q6.trans R.plain
  have ld1 : w.params.followText "set-order" = true ∨ (t.put j).1.led = true := by rw [q5]; exact R.led
  generalize t.put j = both at q1 T1 q4 q7 pl1 ld1 ⊢
  obtain ⟨t1, p⟩ := both
  dsimp only at q1 T1 q4 q7 pl1 ld1 ⊢
  subst q1
  have rows1 : (SetTable.insertAt es (SetTable.below t.place j) (thash P w k, Value.ref x)).toList = L2.rowsOf P w (L.take (SetTable.below t.place j) ++ (x, k) :: L.drop (SetTable.below t.place j)) := by
    rw [SetTable.toList_insertAt, R.rows, rows_put]
  generalize SetTable.below t.place j = p at q2 rows1 ⊢
  have pm := put_perm L p (x, k); have len1 : (L.take p ++ (x, k) :: L.drop p).length = L.length + 1 := pm.length_eq
  generalize L.take p ++ (x, k) :: L.drop p = L1 at rows1 pm len1
  have cnt1 := rowsD_len rows1
  rw [← len1] at T1 q7
  generalize SetTable.insertAt es p (thash P w k, Value.ref x) = es1 at rows1 cnt1 ⊢
  refine wp_if_pos pl1 (wpAny_bind (hashBy_tup hx ?_))
  simp only [if_true]
  refine wpAny_bind (wpAny_storeSet_of got hd ?_ (by rw [cnt1, len1, sizeLine_eq]; omega))
  have but : Heap.SameBut a s.heap (s.heap.update a (Obj.putSet es1 t1)) := Heap.SameBut.update ..
  have got1 := store_at (es' := es1) (t' := t1) got hd
  generalize s.heap.update a (Obj.putSet es1 t1) = h1 at but got1 ⊢
  have tup1 : ∀ r ∈ L1, IsT P w h1 r.2 r.1 := fun r hr => by
    rcases List.mem_cons.mp (pm.mem_iff.mp hr) with e | hr
    · rw [e]; exact isT_same hx got hd but
    · exact isT_same (R.tup r hr) got hd but
  cases hf : t1.tooFull with
  | true =>
    unfold SetTable.tooFull at hf
    rw [decide_eq_true_eq, q7, q4] at hf
    have at3 : (t.mask = 7 ∧ L.length = 4) ∨ (t.mask = 31 ∧ L.length = 18) ∨ (t.mask = 127 ∧ L.length = 76) := by
      rcases R.tab.mok with e | e | e | e <;> rw [e] at hf room <;> rw [e] <;> omega
    have go : ∀ M, SetTable.sizeAbove (SetTable.grown (L.length + 1)) - 1 = M → MO M → SetTable.sizeAbove (SetTable.grown (L.length + 1)) ≤ 512 → (L.length + 1) * 5 < M * 3 →
        wpAny (model P w) A (setRelay a (SetTable.grown (es.size + 1))) (fun _ s' => wpAny (model P w) A (pure true) Q E s') E { s with heap := h1 } := fun M e1 e2 e3 e4 => by
      rw [cnt]
      refine relay_new (s := { s with heap := h1 }) got1 ⟨hex.1, hex.2.1, hex.2.2⟩ rfl rows1 T1 (by rw [q4]; omega) tup1 pl1 ld1 (by omega) e1 e2 e3 (by rw [len1]; exact e4) fun h2 L2 es2 ep2 t2 but2 R2 pm2 => ?_
      exact wpAny_pure (q h2 L2 es2 ep2 t2 (but.trans but2) R2 (pm2.trans pm))
    refine wp_if_pos (by simp) (wpAny_bind ?_)
    rcases at3 with ⟨_, e2⟩ | ⟨_, e2⟩ | ⟨_, e2⟩
    · exact go 31 (by rw [e2, grown5]) (.inr (.inl rfl)) (by rw [e2, grown5]; decide) (by omega)
    · exact go 127 (by rw [e2, grown19]) (.inr (.inr (.inl rfl))) (by rw [e2, grown19]; decide) (by omega)
    · exact go 511 (by rw [e2, grown77]) (.inr (.inr (.inr rfl))) (by rw [e2, grown77]; decide) (by omega)
  | false =>
    unfold SetTable.tooFull at hf
    rw [decide_eq_false_iff_not, q7] at hf
    refine wp_if_neg (by simp) (wpAny_pure (q h1 L1 es1 (ep + 1) t1 but ⟨⟨_, got1, ⟨hex.1, hex.2.1, hex.2.2⟩, rfl⟩, rows1, T1, tup1, pl1, ld1, by omega⟩ pm))
end
end NW
-- NwSetOf
set_option Elab.async false
set_option linter.all false
set_option maxRecDepth 100000
set_option maxHeartbeats 4200000
namespace NW
open PySem PySem.Spec L2 PyProof.Rows
/-! ## set(xs), xs up to 256 unlike tuples of ints -/
theorem not_before {ks : List Row} (nd : (ks.map (·.2)).Nodup) {i : Nat} {p : Row} (h : ks[i]? = some p) : p.2 ∉ (ks.take i).map (·.2) := by
  have sub : ((ks.take (i + 1)).map (·.2)).Nodup := nd.sublist ((List.take_sublist (i + 1) ks).map (·.2))
  rw [L2.take_next h, List.map_append] at sub
  have d := (List.nodup_append.mp sub).2.2
  exact fun m => d _ m _ (List.mem_singleton.mpr rfl) rfl
section
variable {P : Program} {w : World} {s : Shared} {A : Around} {E : Value → Shared → Prop}
theorem SetD.kept {h h' : Heap} {a : Addr} {L : List Row} {es : Array (Int × Value)} {ep : Nat} {t : SetTable} (R : SetD P w h a L es ep t) (ha : ∀ o, h.get? a = some o → h'.get? a = some o) (ht : ∀ p ∈ L, IsT P w h' p.2 p.1) : SetD P w h' a L es ep t := by
  obtain ⟨o, got, r⟩ := R.ob
  exact ⟨⟨o, ha o got, r⟩, R.rows, R.tab, ht, R.plain, R.led, R.room⟩
/-- an empty set's object -/
abbrev freshO (w : World) : Obj := { cls := .type "set", dict := none, data := .set #[] 0 (.fresh 0 0 (!w.params.followText "set-order")) }
theorem fresh_set {h : Heap} {a : Addr} (got : h.get? a = some (freshO w)) : SetD P w h a [] #[] 0 (.fresh 0 0 (!w.params.followText "set-order")) := by
  refine ⟨⟨_, got, ⟨rfl, rfl, rfl⟩, rfl⟩, rfl, ⟨List.Pairwise.nil, rfl, rfl, .inl rfl⟩, fun p hp => (by cases hp), rfl, ?_, by show 5 * 0 < 3 * 7; decide⟩
  show w.params.followText "set-order" = true ∨ (!w.params.followText "set-order") = true
  cases w.params.followText "set-order" with
  | false => exact .inr rfl
  | true => exact .inl rfl
theorem update_new {I : Addr} {fp wr : List Addr} {G : Array GenState → Array GenState → Prop} {n : Nat} {Pv : Nat → Value → Prop} {St : Nat → Shared → Prop} {R : Result → Shared → Prop} (W : WalksS P w A.in1 I fp wr G n Pv St)
    (S : Addr) (apart : S ∉ fp) (ks : List Row) (hn : n = ks.length) (few : ks.length ≤ 256) (nd : (ks.map (·.2)).Nodup) (hval : ∀ i v, Pv i v → ∃ p, ks[i]? = some p ∧ v = .ref p.1) (h0 : Heap) (hk : ∀ p ∈ ks, IsT P w h0 p.2 p.1)
    (newS : h0.get? S = none) (neww : ∀ b ∈ wr, h0.get? b = none) (hu : A.in1.units < cLine) :
    ∀ (k i : Nat) (s : Shared), n - i = k → i ≤ n → St i s → (∀ b o, h0.get? b = some o → s.heap.get? b = some o) → (∃ L es ep t, SetD P w s.heap S L es ep t ∧ L.Perm (ks.take i)) →
      (∀ s' L es ep t, Moved (S :: wr) G s s' → SetD P w s'.heap S L es ep t → L.Perm ks → (∀ b o, h0.get? b = some o → s'.heap.get? b = some o) → R (.ok (.ret .none)) s') → codeAny (model P w) A (.builtin "set.update.loop" ⟨[.ref S, .ref I], []⟩) R s := by
  have Sw : S ∉ wr := fun m => apart (W.sub _ m)
  have widen : ∀ b ∈ wr, b ∈ S :: wr := fun b m => List.mem_cons_of_mem _ m
  have still : ∀ {s s' : Shared}, Moved wr G s s' → (∀ b o, h0.get? b = some o → s.heap.get? b = some o) → ∀ b o, h0.get? b = some o → s'.heap.get? b = some o :=
    fun mv kp b o e => mv.heap b o (fun m => by rw [neww b m] at e; cases e) (kp b o e)
  intro k
  induction k with
  | zero =>
    rintro i s hki hi st kp ⟨L, es, ep, t, hS, pm⟩ hR
    obtain rfl : i = n := by omega
    refine codeAny_builtin F.entry_set_update_loop ?_; rw [Around.under_plainId F.plain_set_update_loop _]
    show wpAny _ A.in1 (pyNext (.ref I) >>= _) _ _ s; refine wpAny_bind (W.done s _ _ st fun s' mv => wpAny_pure (hR s' L es ep t (mv.mono widen) (hS.kept (fun o e => mv.heap S o Sw e) fun p m => isT_keep (hk p (List.mem_of_mem_take (pm.mem_iff.mp m))) (still mv kp)) ?_ (still mv kp)))
    rwa [List.take_of_length_le (by omega)] at pm
  | succ k ih =>
    rintro i s hki hi st kp ⟨L, es, ep, t, hS, pm⟩ hR
    have lt : i < n := by omega
    refine codeAny_builtin F.entry_set_update_loop ?_; rw [Around.under_plainId F.plain_set_update_loop _]
    show wpAny _ A.in1 (pyNext (.ref I) >>= _) _ _ s; refine wpAny_bind (W.item i s _ _ lt st fun v s1 hP st1 mv => ?_)
    obtain ⟨p, hp, rfl⟩ := hval i v hP; have kp1 := still mv kp
    have S1 : SetD P w s1.heap S L es ep t := hS.kept (fun o e => mv.heap S o Sw e) fun q m => isT_keep (hk q (List.mem_of_mem_take (pm.mem_iff.mp m))) kp1
    have hx : IsT P w s1.heap p.2 p.1 := isT_keep (hk p (List.mem_of_getElem? hp)) kp1
    have new : p.2 ∉ L.map (·.2) := fun m => not_before nd hp ((pm.map (·.2)).mem_iff.mp m)
    have len : L.length = i := by
      rw [pm.length_eq, List.length_take]
      omega
    show wpAny _ A.in1 (holding [Value.ref p.1] (setAdd S (.ref p.1)) >>= _) _ _ s1
    unfold setAdd
    refine wpAny_bind (wpAny_holding (wpAny_holding (wpAny_bind (wpAny_pyHash_tuple hu hx ?_))))
    refine add_new (s := { s1 with toks := s1.toks + (p.2.length + 1) }) S1 hx hu new (by omega) fun h2 M2 es2 ep2 t2 but S2 pm2 => ?_
    have kp2 : ∀ b o, h0.get? b = some o → h2.get? b = some o := fun b o e => (but.2 b (fun z => by rw [z, newS] at e; cases e)).trans (kp1 b o e)
    have pm3 : M2.Perm (ks.take (i + 1)) := by
      rw [L2.take_next hp]
      exact pm2.trans ((pm.cons p).trans (List.perm_append_singleton p _).symm)
    refine wpAny_pure ⟨plainId_quiet F.plain_set_update_loop _, ih (i + 1) _ (by omega) lt (W.frame _ s1 _ _ st1 (Nat.le_add_right _ _) fun b m o e => ?_) kp2 ⟨M2, es2, ep2, t2, S2, pm3⟩ fun s3 L3 es3 ep3 t3 mv3 S3 g3 kp3 => ?_⟩
    · exact (but.2 b fun z => apart (z ▸ m)).trans e
    · exact hR s3 L3 es3 ep3 t3 (Moved.trans W.gtrans ((mv.mono widen).then_heap (Nat.le_add_right _ _) fun b o nb e => (but.2 b fun z => nb (z ▸ List.mem_cons_self)).trans e) mv3) S3 g3 kp3
/-- set(xs) -/
theorem call_set_new {l : Addr} {items : Array Value} (ks : List Row) {Q : Value → Shared → Prop} (calm : A.handled = none) (hl : s.heap.IsList l items) (hit : items.toList = ks.map fun p => Value.ref p.1) (hk : ∀ p ∈ ks, IsT P w s.heap p.2 p.1)
    (few : ks.length ≤ 256) (nd : (ks.map (·.2)).Nodup) (hu : A.units + 3 < cLine)
    (q : ∀ (h' : Heap) (tk : Nat) L es ep t, SetD P w h' s.heap.objs.size L es ep t → L.Perm ks → (∀ b o, s.heap.get? b = some o → h'.get? b = some o) → Q (.ref s.heap.objs.size) { s with heap := h', toks := tk }) : wpAny (model P w) A (call (.type "set") [.ref l]) Q E s := by
  have cnt : items.size = ks.length := by
    rw [← Array.length_toList, hit]
    exact List.length_map _
  obtain ⟨c, tl, hmro⟩ := F.called_set.mro; have hmade := F.called_set.made
  have hsub := F.called_set.sub
  refine wpAny_call (codeAny_of_tree ?_); show wpAny _ _ (callAny (.type "set") _) _ _ _
  refine wpAny_pure ⟨Code.quiet_builtin _ (by decide +kernel), codeAny_builtin F.entry_type_call ?_⟩; rw [Around.under_plain (weight_type_call_type "set" [.ref l] []) rfl]
  have h1 := F.called_set.notType; have h2 := F.called_set.canCreate
  have hct := F.typeCall_set_1 (.ref l); repeat (any_goals (first | assumption | wp_step))
  refine codeAny_mono (code_set_led1 (.ref l) (E := E) (Q₁ := fun obj s₁ => obj = .ref s.heap.objs.size ∧ s₁ = { s with heap := s.heap.push (freshO w) }) ⟨rfl, rfl⟩) fun r s₁ hr => ?_
  cases r with
  | error e => exact hr
  | ok fl =>
    cases fl with
    | ret obj =>
      obtain ⟨rfl, rfl⟩ := hr
      have hS : (s.heap.push (freshO w)).get? s.heap.objs.size = some (freshO w) := Heap.get?_push_size _ rfl
      have hT : Shared.TypeIs { s with heap := s.heap.push (freshO w) } (.ref s.heap.objs.size) "set" := ⟨_, hS, rfl⟩
      have hli := F.called_set.init.lookup; have hbi := F.called_set.init.bind (.ref s.heap.objs.size)
      (repeat (any_goals (first | assumption | wp_step))); refine codeAny_mono (codeAny_call_builtin (R := wants (fun r s₂ => r = .none ∧ ∃ h' tk L es ep t, s₂ = { s with heap := h', toks := tk } ∧ SetD P w h' s.heap.objs.size L es ep t ∧ L.Perm ks ∧ (∀ b o, s.heap.get? b = some o → h'.get? b = some o)) E) F.called_set.init.plain F.entry_set_init (check_set_init_1 hT ?_)) fun r₂ s₂ hr₂ => ?_
      · obtain ⟨⟨ocls, odict, odata, oslots⟩, hol, hcl, nl, hdl⟩ := hl
        simp only at hcl hdl
        subst hcl hdl
        have hol' : (s.heap.push (freshO w)).get? l = some { cls := .type "list", dict := odict, data := .seq items nl, slots := oslots } := Heap.get?_push_of_some _ hol
        have hsls := F.sub_list_set
        have hslf := F.sub_list_frozenset; have hne : (Value.type "list" == Value.type "dict") = false := by decide
        have hl1 : (s.heap.push (freshO w)).IsList l items := ⟨_, hol', rfl, nl, rfl⟩; unfold Builtin.«set.__init__» noKeywords Builtin.Frozenset.updateFrom
        generalize hPI : pyIter = PI
        wp_walk
        subst hPI
        refine wpAny_pyIter_list hl1 ?_; refine wpAny_bind (wpAny_runValue ?_)
        have lS : l < s.heap.objs.size := Heap.lt_size hol
        have calm3 : A.in1.in1.in1.handled = none := by simp [calm]
        have szS : (s.heap.push (freshO w)).objs.size = s.heap.objs.size + 1 := Heap.size_push ..
        have lI : l ≠ (s.heap.push (freshO w)).objs.size := by rw [szS]; exact Nat.ne_of_lt (Nat.lt_succ_of_lt lS)
        have apart : s.heap.objs.size ∉ [(s.heap.push (freshO w)).objs.size, l] := by
          rw [szS]
          intro m
          rcases List.mem_cons.mp m with e | m
          · exact Nat.ne_of_lt (Nat.lt_succ_self _) e
          · exact Nat.ne_of_gt lS (List.mem_singleton.mp m)
        have items_at : ∀ (j : Nat) (v : Value), items[j]? = some v → ∃ p, ks[j]? = some p ∧ v = .ref p.1 := fun j v hv => by
          rw [← Array.getElem?_toList, hit, List.getElem?_map] at hv
          obtain ⟨p, hp, e⟩ := Option.map_eq_some_iff.mp hv
          exact ⟨p, hp, e.symm⟩
        have free : ∀ b, s.heap.objs.size ≤ b → s.heap.get? b = none := fun b hb => by
          cases e : s.heap.get? b with
          | none => rfl
          | some o => exact absurd (Nat.lt_of_lt_of_le (Heap.lt_size e) hb) (Nat.lt_irrefl _)
        refine update_new ((Walks.list calm3 _ l lI items).toS) s.heap.objs.size apart ks cnt few nd items_at s.heap hk (free _ (Nat.le_refl _)) (fun b hb => free b (by rw [List.mem_singleton.mp hb, szS]; exact Nat.le_succ _)) hu (items.size - 0) 0 _ (by omega) (Nat.zero_le _)
          ⟨⟨_, Heap.get?_push_size _ rfl, rfl, rfl⟩, (hl1.push _)⟩ (fun b o e => Heap.get?_push_of_some _ (Heap.get?_push_of_some _ e)) ?start ?fin
        case start => exact ⟨[], #[], 0, _, fresh_set (Heap.get?_push_of_some _ hS), List.Perm.refl _⟩
        case fin =>
          intro s' L es ep t hm hS' pm hkp
          obtain ⟨h', g2, d', tk', os'⟩ := s'; obtain rfl : g2 = s.gens := hm.gens
          obtain rfl : d' = s.drawn := hm.drawn
          obtain rfl : os' = s.os := hm.os
          exact wpAny_pure (wpAny_pure ⟨rfl, h', tk', L, es, ep, t, rfl, hS', pm, hkp⟩)
      · cases r₂ with
        | error e => exact hr₂
        | ok fl₂ =>
          cases fl₂ with
          | ret r =>
            obtain ⟨rfl, h', tk, L, es, ep, t, rfl, hS', pm, hk'⟩ := hr₂
            (repeat (any_goals (first | assumption | wp_step))); exact q _ _ _ _ _ _ hS' pm hk'
          | _ => exact hr₂.elim
    | _ => exact hr.elim
end
section
variable {X : Cx}
/-- len(set(xs)), xs a list of up to 256 unlike tuples of ints -/
def tLenSetD (K : PySem.W.Frag) (ta : TE) : TE := fun σ H Q => ta σ H fun x H1 => ∃ (l : Addr) (ks : List Row), x = V.ref l ∧ SqL K H1 l (ks.map fun p => V.ref p.1) ∧ (∀ p ∈ ks, SqT K H1 p.1 (p.2.map V.int)) ∧ ks.length ≤ 256 ∧ (ks.map (·.2)).Nodup ∧ Q (.int ks.length) H1
theorem pe_lenSetD {a : Expr} {ta : TE} {p p2 q pos : Pos} (calm : X.calm = true) (room : X.A.units + 64 < cLine) (hg : Gl X "len") (hm : X.mg "len" = none) (hg2 : Gl X "set") (hm2 : X.mg "set" = none) (ha : PE X a ta)
    (na : starEach [a] X.env = (false, eval a X.env) :: starEach [] X.env := by rfl) : PE X (.Call (.Name "len" p) [.Call (.Name "set" p2) [a] [] q] [] pos) (tLenSetD X.K ta) := by
  refine ⟨fun pins s σ H Q I h => Call_ (ld_blt I hg hm PySem.boot_len (PyProof.Rows.callWith_builtin1 (PyProof.Rows.args_cons ?_ rfl) rfl rfl))⟩
  refine Call_ (ld_blt I hg2 hm2 PyProof.Rows.boot_set (PyProof.Rows.callWith_type1 (PyProof.Rows.args_cons (thn (ha.run pins s σ H _ I h) fun v s1 ⟨x, H1, J, r1, q1⟩ => PyProof.Rows.args_nil ?_) na) na rfl))
  obtain ⟨l, ks, rfl, hq, hk, few, nd, q1⟩ := q1
  cases r1
  obtain ⟨its, rv, pl, hz⟩ := J.list hq
  refine call_set_new (P := X.prog) (w := X.w) ks (J.ok.hd calm) pl.isList (by simpa using refs_of_vals rv) (fun p hp => J.isT (hk p hp)) few nd (by omega) fun h' tk L es ep t R pm kp => ?_
  have cnt : es.size = ks.length := (rowsD_len R.rows).trans pm.length_eq
  have J2 : Inv X pins σ H1 { s1 with heap := h', toks := tk } := J.kept fun b o e => kp b o e
  have fit : t.fits es.size = true := by
    rw [rowsD_len R.rows]
    have := R.room
    exact fits_of R.tab (by omega)
  obtain ⟨o, got, hex, hd⟩ := R.ob
  refine PyProof.Rows.args_nil (call_len_set got hex hd fit (by rw [cnt]; omega) ⟨.int ks.length, H1, J2.tok _, ⟨_, by rw [cnt]⟩, q1⟩)
end
end NW
-- NwUnlike
set_option Elab.async false
set_option linter.all false
set_option maxRecDepth 100000
set_option maxHeartbeats 4200000
namespace NW
open PySem PySem.Spec L2 PyProof.Rows
/-! ## are_unlike -/
def rowOfTie (t : Addr × Nat × Nat) : Row := (t.1, [(t.2.1 : Int), (t.2.2 : Int)])
theorem ties_unlike {ts : List (Addr × Nat × Nat)} (h : (ts.map (·.2)).Nodup) : ((ts.map rowOfTie).map (·.2)).Nodup := by
  have e : (ts.map rowOfTie).map (·.2) = (ts.map (·.2)).map fun p => [(p.1 : Int), (p.2 : Int)] := by
    rw [List.map_map]
    rw [List.map_map]
    rfl
  rw [e]
  refine List.pairwise_map.mpr (List.Pairwise.imp (fun {p q} ne eq => ne ?_) h)
  have e1 := (List.cons.inj eq).1
  have e2 := (List.cons.inj (List.cons.inj eq).2).1
  exact Prod.ext (by omega) (by omega)
section
variable {P : Program} {w : World} {base : Heap} {K : PySem.W.Frag} {mg : Str → Option Value}
def spUnlike : Sp := fun vs H Q _ => ∃ (l : Addr) (ts : List (Addr × Nat × Nat)), vs = [.ref l] ∧ PL H l ts ∧ (ts.map (·.2)).Nodup ∧ ts.length ≤ 256 ∧ ∀ H', Same H H' → Q (.bl true) H'
theorem scUnlike : FnScope ["ties"] ["ties"] (defScope (top 23)) := ⟨rfl, rfl, rfl, by decide +kernel, rfl, by decide +kernel, by decide +kernel⟩
theorem ok_unlike {f : Addr} {fd : FuncData} (T : Tx K mg) (F : Fun K "are_unlike" "are_unlike" (top 23) f fd) : FnOk P w K mg base CX0 1 f fd ["ties"] spUnlike := by
  refine F.ok scUnlike (fun vs H Q E h => ?_) (fun cdv A outer s H vs Q E hr h => ?_)
  · obtain ⟨l, ts, rfl, _⟩ := h
    rfl
  · obtain ⟨l, ts, rfl, hl, nd, few, q⟩ := h
    have room : (A.deeper (envOfC "are_unlike" (defScope (top 23)) s.heap.objs.size f cdv)).units + 64 < cLine := by have := hr.un; omega
    refine ⟨_, pss_one (ps_ret (pe_cmpR op_eq (pe_lenSetD rfl room (by rfl) T.fLen (by rfl) T.fSet (pv 0))
      (pe_callB call_len_seq (by rfl) T.fLen PySem.boot_len (pa_cons (pv 0) pa_nil)) (nomark _))), ?_⟩
    refine ⟨_, rfl, l, ts.map rowOfTie, rfl, by rw [List.map_map]; exact SqL.of hl.at_, fun p hp => ?_, by rw [List.length_map]; exact few, ties_unlike nd, ?_⟩
    · obtain ⟨t, ht, rfl⟩ := List.mem_map.mp hp
      exact SqT.of (hl.tup t ht)
    refine ⟨_, rfl, l, _, rfl, .inl (SqL.of hl.at_), rfl, ?_⟩
    rw [decide_eq_true (by rw [List.length_map, List.length_map])]
    exact q _ (Same.refl _)
theorem can_unlike (T : Tx K mg) : Can P w K mg base CX0 1 "are_unlike" ["ties"] spUnlike :=
  T.can 4 rfl rfl (fun _ _ _ _ _ _ us hl => match us, hl with | [_], _ => rfl) fun _ _ F => ok_unlike T F
end
end NW
-- NwFars
set_option Elab.async false
set_option linter.all false
set_option maxRecDepth 100000
set_option maxHeartbeats 4200000
namespace NW
open PySem PySem.Spec L2 PyProof.Rows
/-! ## _law_fars -/
theorem inV_nat (v : Nat) (acc : List Nat) : inV (nV v) (acc.map nV) = acc.contains v := by
  unfold inV
  induction acc with
  | nil => rfl
  | cons u acc ih =>
    rw [List.map_cons, List.any_cons, ih, List.contains_cons]
    congr 1
    show ((u : Int) == (v : Int)) = (v == u)
    by_cases h : u = v
    · subst h; simp
    · have h1 : ((u : Int) == (v : Int)) = false := beq_eq_false_iff_ne.mpr (by omega)
      have h2 : (v == u) = false := beq_eq_false_iff_ne.mpr (fun e => h e.symm)
      rw [h1, h2]
theorem flat_nat (acc : List Nat) : (acc.map nV).all flatV = true := by
  induction acc with
  | nil => rfl
  | cons u acc ih => rw [List.map_cons, List.all_cons, ih]; rfl
/-- what the dict says is what is found -/
def DictIs (kvs : List (Key × V)) (f : Fnd) : Prop := ∀ v : Nat, valV kvs (Sum.inl (v : Int) : Key) = (f[v]?.join).map nV
theorem dict_new {kvs : List (Key × V)} {f : Fnd} (h : DictIs kvs f) {v : Nat} (hv : v < f.length) : (!(valV kvs (Sum.inl (v : Int) : Key)).isSome) = isNew f v := by
  rw [h v]
  unfold isNew
  cases e : f[v]? with
  | none => rw [List.getElem?_eq_none_iff] at e; omega
  | some x => cases x <;> simp
theorem dict_put {kvs : List (Key × V)} {f : Fnd} (h : DictIs kvs f) {v d : Nat} (hv : v < f.length) : DictIs (putK kvs (Sum.inl (v : Int)) (nV d)) (f.set v (some d)) := fun u => by
  rw [valV_put, h u, List.getElem?_set]
  by_cases c : u = v
  · subst c
    simp [hv]
  · have c1 : ¬ ((Sum.inl (u : Int) : Key) = Sum.inl (v : Int)) := fun e => c (by have := Sum.inl.inj e; omega)
    have c2 : ¬ v = u := fun e => c e.symm
    rw [if_neg c1, if_neg c2]
theorem stepRow_nodup {f : Fnd} {acc row : List Nat} (h1 : acc.Nodup) (h2 : row.Nodup) : (stepRow f acc row).Nodup := by
  unfold stepRow
  refine List.nodup_append.mpr ⟨h1, List.Pairwise.filter _ h2, fun a ha b hb e => ?_⟩
  subst e
  have := (List.mem_filter.mp hb).2
  simp [ha] at this
theorem stepAll_nodup {rs : List (List Nat)} {f : Fnd} (h : ∀ v, (rowAt rs v).Nodup) (l : List Nat) : (stepAll rs f l).Nodup := by
  have key : ∀ (l acc : List Nat), acc.Nodup → (l.foldl (fun acc h => stepRow f acc (rowAt rs h)) acc).Nodup := by
    intro l
    induction l with
    | nil => intro acc h; exact h
    | cons x l ih => intro acc ha; exact ih _ (stepRow_nodup ha (h x))
  exact key l [] List.nodup_nil
theorem rowAt_nodup (n : Nat) (T : Ties) (v : Nat) : (rowAt (rowsOf n T) v).Nodup := by
  by_cases h : v < n
  · rw [rowAt_of T h]; exact rowOf_nodup h
  · unfold rowAt
    rw [List.getD_eq_getElem?_getD, List.getElem?_eq_none (by rw [rows_len]; omega)]
    exact List.nodup_nil
theorem stepAll_lt {rs : List (List Nat)} {f : Fnd} {l : List Nat} {v : Nat} (h : v ∈ stepAll rs f l) : v < f.length := new_lt (mem_stepAll.mp h).1
/-- the row of a house as it stands -/
theorem LL.rowAt {H : Hp} {l : Addr} {rs : List (Addr × List Nat)} (h : LL H l rs) {n : Nat} {T : Ties} (e : rs.map (·.2) = rowsOf n T) {v : Nat} (hv : v < n) :
    ∃ a : Addr, (rs.map fun r => V.ref r.1)[v]? = some (.ref a) ∧ NL H a (rowOf n T v) := by
  have h1 : (rs.map (·.2))[v]? = some (rowOf n T v) := by rw [e]; exact rows_get T hv
  rw [List.getElem?_map] at h1
  cases h2 : rs[v]? with
  | none => rw [h2] at h1; cases h1
  | some r =>
    rw [h2] at h1
    have e3 : r.2 = rowOf n T v := Option.some.inj h1
    exact ⟨r.1, by rw [List.getElem?_map, h2]; rfl, by rw [← e3]; exact h.row r (List.mem_of_getElem? h2)⟩
section
variable {P : Program} {w : World} {base : Heap} {K : PySem.W.Frag} {mg : Str → Option Value}
def spLawFars : Sp := fun vs H Q _ => ∃ (p : Addr) (n s : Nat) (rs : List (Addr × List Nat)) (T : Ties), vs = [.ref p, nV s] ∧ LL H p rs ∧ rs.map (·.2) = rowsOf n T ∧ Good n T ∧ s < n ∧ n ≤ 32 ∧
  ∀ (a : Addr) H', Same H H' → H a = none → NL H' a (dist (rowsOf n T) n s) → Q (.ref a) H'
abbrev nLawFars : List Str := ["_law_leads_here", "_law_house", "_law_far", "_law_layer", "_law_further", "_law_one", "_law_other"]
theorem scLawFars : FnScope nLawFars ["_law_leads_here", "_law_house"] (defScope (top 37)) := ⟨rfl, rfl, rfl, by decide +kernel, rfl, by decide +kernel, by decide +kernel⟩
theorem ok_lawFars {f : Addr} {fd : FuncData} (T : Tx K mg) (F : Fun K "_law_fars" "_law_fars" (top 37) f fd) : FnOk P w K mg base CX0 1 f fd ["_law_leads_here", "_law_house"] spLawFars := by
  refine F.ok scLawFars (fun vs H Q E h => ?_) (fun cdv A outer s H vs Q E hr h => ?_)
  · obtain ⟨p, n, s, rs, G, rfl, _⟩ := h
    rfl
  · obtain ⟨p, n, s, rs, G, rfl, hp, hrs, g, hs, n32, q⟩ := h
    have h64 := hr.units
    have hu := hu_of hr
    refine ⟨_, pss_cons (ps_set (i := 2) scLawFars.nd rfl (.inr rfl) (pe_disp (pps_cons (pv 1) pe_int pps_nil) (by rfl) (by rfl) (fun z => by cases z) (by decide)))
      (pss_cons (ps_set (i := 3) scLawFars.nd rfl (.inl rfl) (pe_lst (pa_cons (pv 1) pa_nil)))
      (pss_cons (ps_while PassesOwn.never (pt_cmpR (op_neD h64) (pv 3) (pe_lst pa_nil) (nomark _))
        (pss_cons (ps_set (i := 4) scLawFars.nd rfl (.inr rfl) (pe_lst pa_nil))
        (pss_cons (ps_for PassesOwn.never rfl (pi_list (pv 3)) (pg_name (i := 5) scLawFars.nd rfl (.inl rfl))
          (pss_one (ps_expr (bmK K PySem.F.plainAttrs_list PySem.F.slot_list_extend PySem.F.type_list_extend mt_extend (pv 4) (pa_cons
            (pe_lc (own := [("_law_other", 6)]) (g := gName 6) rfl scLawFars.nd (pi_list (pe_ix ix_list (pv 0) (pv 5) (fun _ _ => rfl))) (blkOk_by (N := nLawFars) (sc := defScope (top 37)) (by decide +kernel))
              (fun _ _ _ _ _ => pg_name (i := 6) scLawFars.nd rfl (.inl rfl))
              (fun _ _ _ _ _ => pts_one (PW.pt (pw_and (pt_cmp (pc_dnotin hu (pv 6) (pv 2))) (pw_and1 (pt_cmpR (onotin K) (pv 6) (pv 4) (by rfl))))))
              (fun _ _ _ _ _ => pv 6)) pa_nil)))))
        (pss_cons (ps_for PassesOwn.never rfl (pi_list (pv 4)) (pg_name (i := 6) scLawFars.nd rfl (.inl rfl))
          (pss_one (ps_dput hu (pv 2) (pv 6) (pe_op op_add (pe_dget hu (pv 2) (pe_ix ix_list (pv 3) pe_int (fun _ _ => rfl)) (fun _ _ => rfl)) pe_int) rfl)))
        (pss_one (ps_set (i := 3) scLawFars.nd rfl (.inl rfl) (pv 4)))))))
      (pss_one (ps_ret (pe_lc (own := [("_law_other", 6)]) (g := gName 6) (tt := tYes) rfl scLawFars.nd (pi_range1 (by rfl) T.fRange (pa_cons (pe_callB call_len_seq (by rfl) T.fLen PySem.boot_len (pa_cons (pv 0) pa_nil)) pa_nil))
        (blkOk_by (N := nLawFars) (sc := defScope (top 37)) (by decide +kernel)) (fun _ _ _ _ _ => pg_name (i := 6) scLawFars.nd rfl (.inl rfl)) (fun _ _ _ _ _ => pts_nil)
        (fun _ _ _ _ _ => pe_dget hu (pv 2) (pv 6) (fun _ _ => rfl))))))), ?_⟩
    -- far = {house: 0}
    refine fun fa nfa => ?_
    refine ⟨_, rfl, upd_same, [(Sum.inl (s : Int), nV 0)], rfl, by show 1 ≤ 15; decide, ?_⟩
    refine ⟨_, rfl, by show 1 ≤ sizeLine; decide, fun la nla => ?_⟩
    have R := rowsOf n G
    have s0 : Same H (upd (upd (upd H fa (.dK [])) fa (.dK (mergeK [] [(Sum.inl (s : Int), nV 0)]))) la (.lst [nV s])) :=
      fun b o e => same_new nla b o (same_put (same_put (Same.refl H) nfa) nfa b o e)
    have ela : fa ≠ la := ne_of_none upd_same nla
    -- while layer != []
    refine ⟨fun k σ H1 => ∃ (f : Fnd) (l : List Nat) (d : Nat) (lay : Addr) (kvs : List (Key × V)) (x4 x5 x6 : Option V), σ = [some (.ref p), some (nV s), some (.ref fa), some (.ref lay), x4, x5, x6] ∧ Same H H1 ∧
      H1 fa = some (.dK kvs) ∧ NL H1 lay l ∧ DictIs kvs f ∧ kvs.length + nones f ≤ n ∧ BI (rowsOf n G) n s f l d ∧ bfs (rowsOf n G) k f l d = fin (rowsOf n G) n s ∧ meas f l ≤ k,
      ⟨n + 1, init n s, [s], 0, la, _, none, none, none, rfl, s0, by rw [upd_ne ela, upd_same], upd_same, ?_, ?_, init_BI hs, rfl, init_meas hs⟩, ?_⟩
    · intro v
      show valV [((Sum.inl (s : Int) : Key), nV 0)] (Sum.inl (v : Int)) = _
      unfold init
      rw [List.getElem?_set, List.length_replicate]
      by_cases c : s = v
      · subst c
        rw [valV_pos rfl, if_pos rfl, if_pos hs]; rfl
      · rw [valV_neg (fun e => c (by have := Sum.inl.inj e; omega)), if_neg c, List.getElem?_replicate]
        by_cases c2 : v < n
        · rw [if_pos c2]; rfl
        · rw [if_neg c2]; rfl
    · show 1 + nones (init n s) ≤ n
      have h1 : nones (List.replicate n none : Fnd) = n := by unfold nones; rw [List.countP_replicate]; rfl
      have h2 := nones_set_lt 0 (List.replicate n none) s (by rw [List.getElem?_replicate, if_pos hs])
      unfold init
      omega
    · rintro k σ H1 ⟨f, l, d, lay, kvs, x4, x5, x6, rfl, s1, hfa, hlay, hdi, hkn, bi, hb, hm⟩
      have hll : ∀ v ∈ l, v < n := fun v hv => by rw [← bi.len]; exact (List.getElem?_eq_some_iff.mp (bi.lay v hv)).1
      refine ⟨_, rfl, Nat.zero_le _, fun z nz => ?_⟩
      have sz := same_new (o := .lst []) nz
      refine ⟨iD l, .list [], dp_nl (sz _ _ hlay), dp_nil upd_same, iD_shaped _, nilD_shaped, _, rfl, ?_⟩
      rw [iD, eqv_nil]
      have s1z : Same H (upd H1 z (.lst [])) := s1.trans sz
      have hfaz := sz _ _ hfa
      have hlayz : NL _ lay l := sz _ _ hlay
      generalize upd H1 z (.lst []) = Hz at s1z hfaz hlayz
      by_cases c : l = []
      · subst c
        refine iteF ?_
        rw [bfs_nil] at hb
        -- the end
        refine ⟨_, rfl, p, _, rfl, .inl (SqL.of (s1z _ _ hp.at_)), _, rfl, by omega, ?_, fun D nD => ?_⟩
        · rw [List.length_map]
          have := congrArg List.length hrs
          rw [List.length_map, rows_len] at this
          omega
        · have hlen : ((rs.map fun r => V.ref r.1).length : Int).toNat = n := by
            have := congrArg List.length hrs
            rw [List.length_map, rows_len] at this
            rw [List.length_map]; omega
          rw [hlen]
          have hdl := dist_len (T := G) hs
          refine lc_range (lo := 0) (n := n) (fun j H2 => Same Hz H2 ∧ NL H2 D ((dist (rowsOf n G) n s).take j)) ?_ ?_ ?_
          · exact ⟨same_new nD, upd_same⟩
          · rintro j H2 hj ⟨s2, hD⟩
            have e1 : (0 : Int) + (j : Int) = (j : Int) := Int.zero_add _
            rw [e1]
            have hjd : j < (dist (rowsOf n G) n s).length := by omega
            have hval : valV kvs (Sum.inl (j : Int) : Key) = some (nV (dist (rowsOf n G) n s)[j]) := by
              rw [hdi j, hb, fin_some g hs, List.getElem?_map, List.getElem?_eq_getElem hjd]; rfl
            refine ⟨rfl, _, rfl, _, rfl, fa, _, rfl, hval ▸ DGet.k (k := Sum.inl (j : Int)) (s2 _ _ hfaz), _, hD, ?_, same_put s2 nD, ?_⟩
            · rw [List.length_map]; rw [List.length_take]
              exact small1000 (by omega)
            · rw [NL, upd_same, take_snoc (List.getElem?_eq_getElem hjd), map_snoc]
          · rintro H2 ⟨s2, hD⟩
            rw [List.take_of_length_le (by omega)] at hD
            exact q D H2 (s1z.trans s2) (s1z.free nD) hD
      · have ei : (iDs l).isEmpty = false := by
          cases l with
          | nil => exact absurd rfl c
          | cons _ _ => rfl
        rw [ei]
        obtain ⟨k, rfl⟩ : ∃ k', k = k' + 1 := ⟨k - 1, by
          have : 1 ≤ meas f l := by unfold meas; rw [if_neg c]; omega
          omega⟩
        have hmn := meas_next (rs := rowsOf n G) (f := f) (d := d) c
        rw [bfs_cons _ _ _ _ c] at hb
        have hnew : ∀ v ∈ stepAll (rowsOf n G) f l, isNew f v = true := fun v hv => (mem_stepAll.mp hv).1
        have hnd := stepAll_nodup (f := f) (rowAt_nodup n G) l
        refine ⟨fun σ' H' => ∃ (f : Fnd) (l : List Nat) (d : Nat) (lay : Addr) (kvs : List (Key × V)) (x4 x5 x6 : Option V), σ' = [some (.ref p), some (nV s), some (.ref fa), some (.ref lay), x4, x5, x6] ∧ Same H H' ∧
          H' fa = some (.dK kvs) ∧ NL H' lay l ∧ DictIs kvs f ∧ kvs.length + nones f ≤ n ∧ BI (rowsOf n G) n s f l d ∧ bfs (rowsOf n G) k f l d = fin (rowsOf n G) n s ∧ meas f l ≤ k,
          fun σ' H' h => ⟨k, Nat.lt_succ_self k, h⟩, ?_⟩
        -- further = []
        refine ⟨Nat.zero_le _, fun fu nfu => ?_⟩
        have sf := same_new (o := .lst []) nfu
        have nfuH : H fu = none := s1z.free nfu
        refine ⟨_, rfl, lay, rfl, ⟨_, SqL.of (sf _ _ hlayz)⟩, for_list (K := K) (a := lay) (xs := l.map nV) (fun i σ H2 => ∃ x5 x6, σ = [some (.ref p), some (nV s), some (.ref fa), some (.ref lay), some (.ref fu), x5, x6] ∧ Same H H2 ∧
          H2 fa = some (.dK kvs) ∧ NL H2 lay l ∧ NL H2 fu (stepAll (rowsOf n G) f (l.take i))) ?_ ?_ ?_ ?_⟩
        · exact ⟨x5, x6, rfl, s1z.trans sf, sf _ _ hfaz, sf _ _ hlayz, upd_same⟩
        · rintro i σ H2 _ ⟨_, _, _, _, _, h, _⟩
          exact SqL.of h
        · rintro i x σ H2 hx ⟨x5, x6, rfl, s2, hfa2, hlay2, hfu2⟩
          obtain ⟨v, hv, rfl⟩ := map_at hx
          have hvn := hll v (List.mem_of_getElem? hv)
          obtain ⟨ra, hra, hrow⟩ := (hp.same s2).rowAt hrs hvn
          have hrl : (rowOf n G v).length ≤ n := by
            have := L2.nat_nodup_len (rowOf n G v) (List.range n) (rowOf_nodup hvn) fun u hu => List.mem_range.mpr (rowOf_lt (by omega) hu)
            rwa [List.length_range] at this
          refine ⟨_, rfl, .inl ⟨rfl, _, SqL.of hfu2⟩, _, rfl, _, rfl, p, _, _, _, rfl, rfl, SqL.of (s2 _ _ hp.at_), atI_nat hra, ra, rfl, ⟨_, SqL.of hrow⟩, fun D nD => ?_⟩
          refine lc_list (K := K) (a := ra) (xs := (rowOf n G v).map nV) (fun j H3 => Same H2 H3 ∧ NL H3 D (((rowOf n G v).take j).filter fun u => isNew f u && !(stepAll (rowsOf n G) f (l.take i)).contains u)) ?_ ?_ ?_ ?_
          · exact ⟨same_new nD, upd_same⟩
          · rintro j H3 _ ⟨s3, _⟩
            exact s3.seq (SqL.of hrow)
          · rintro j x H3 hx ⟨s3, hD⟩
            obtain ⟨u, hu, rfl⟩ := map_at hx
            have hun : u < n := rowOf_lt (by omega) (List.mem_of_getElem? hu)
            have hfs := filter_snoc (fun u => isNew f u && !(stepAll (rowsOf n G) f (l.take i)).contains u) hu
            refine ⟨rfl, _, rfl, _, rfl, fa, _, rfl, DGet.k (k := Sum.inl (u : Int)) (s3 _ _ hfa2), _, rfl, ?_⟩
            rw [dict_new hdi (by rw [bi.len]; exact hun)]
            have fine : ∀ b : Bool, (isNew f u && !(stepAll (rowsOf n G) f (l.take i)).contains u) = b → b = false →
                (Same H2 H3 ∧ NL H3 D (((rowOf n G v).take (j + 1)).filter fun u => isNew f u && !(stepAll (rowsOf n G) f (l.take i)).contains u)) := fun b e1 e2 => by
              refine ⟨s3, ?_⟩
              rw [hfs, e1, e2, if_neg Bool.false_ne_true, List.append_nil]
              exact hD
            cases hn : isNew f u with
            | false => exact fine _ rfl (by rw [hn]; rfl)
            | true =>
              refine ⟨_, rfl, _, rfl, fu, _, rfl, .inl (SqL.of (s3 _ _ hfu2)), rfl, flat_nat _, _, rfl, ?_⟩
              show if (!inV (nV u) ((stepAll (rowsOf n G) f (l.take i)).map nV)) = true then _ else _
              rw [inV_nat]
              cases hc : (stepAll (rowsOf n G) f (l.take i)).contains u with
              | true => exact fine _ rfl (by rw [hn, hc]; rfl)
              | false =>
                refine ⟨_, rfl, _, hD, ?_, same_put s3 nD, ?_⟩
                · rw [List.length_map]
                  have a1 := filter_take_len (fun u => isNew f u && !(stepAll (rowsOf n G) f (l.take i)).contains u) (rowOf n G v) j
                  exact small1000 (by omega)
                · rw [NL, upd_same, hfs, hn, hc]
                  show _ = some (HO.lst (((((rowOf n G v).take j).filter _) ++ [u]).map nV))
                  rw [map_snoc]
          · rintro H3 ⟨s3, hD⟩
            rw [List.length_map, List.take_length] at hD
            have hfu3 := s3 _ _ hfu2
            have hsl : (stepAll (rowsOf n G) f (l.take i)).length ≤ n := by
              have := L2.nat_nodup_len (stepAll (rowsOf n G) f (l.take i)) (List.range n) (stepAll_nodup (rowAt_nodup n G) _) fun u hu => List.mem_range.mpr (by rw [← bi.len]; exact stepAll_lt hu)
              rwa [List.length_range] at this
            refine ⟨fu, D, _, _, rfl, rfl, hfu3, hD, ?_, _, x6, rfl, same_put (s2.trans s3) nfuH, ?_, ?_, ?_⟩
            · rw [List.length_map, List.length_map]
              have a1 := List.length_filter_le (fun u => isNew f u && !(stepAll (rowsOf n G) f (l.take i)).contains u) (rowOf n G v)
              exact small_le (by omega)
            · rw [upd_ne (ne_of (s3 _ _ hfa2) hfu3 (by intro z; cases z))]
              exact s3 _ _ hfa2
            · have hne : lay ≠ fu := fun e => by
                have h1 := hlayz
                rw [NL, e, nfu] at h1
                cases h1
              rw [NL, upd_ne hne]
              exact s3 _ _ hlay2
            · rw [NL, upd_same, take_snoc hv, stepAll_snoc, rowAt_of G hvn]
              unfold stepRow
              rw [List.map_append]
        · rintro σ H2 ⟨x5, x6, rfl, s2, hfa2, hlay2, hfu2⟩
          rw [List.length_map, List.take_length] at hfu2
          generalize hst : stepAll (rowsOf n G) f l = st at *
          have hl0 : 0 < l.length := List.length_pos_iff.mpr c
          have nla2 : lay ≠ fu := fun e => by
            have h1 := hlayz
            rw [NL, e, nfu] at h1
            cases h1
          -- for other in further
          refine ⟨_, rfl, fu, rfl, ⟨_, SqL.of hfu2⟩, for_list (K := K) (a := fu) (xs := st.map nV) (fun j σ H3 => ∃ kvs' x6, σ = [some (.ref p), some (nV s), some (.ref fa), some (.ref lay), some (.ref fu), x5, x6] ∧ Same H H3 ∧
            H3 fa = some (.dK kvs') ∧ NL H3 lay l ∧ NL H3 fu st ∧ DictIs kvs' (setAll f (d + 1) (st.take j)) ∧ kvs'.length + nones (setAll f (d + 1) (st.take j)) ≤ n) ?_ ?_ ?_ ?_⟩
          · exact ⟨kvs, x6, rfl, s2, hfa2, hlay2, hfu2, by rw [List.take_zero]; exact hdi, by rw [List.take_zero]; exact hkn⟩
          · rintro j σ H3 _ ⟨_, _, _, _, _, _, h, _⟩
            exact SqL.of h
          · rintro j x σ H3 hx ⟨kvs', x6, rfl, s3, hfa3, hlay3, hfu3, hdi3, hkn3⟩
            obtain ⟨u, hu, rfl⟩ := map_at hx
            have hum := List.mem_of_getElem? hu
            have hul : u < f.length := new_lt (hnew u hum)
            have hl0m : l[0] ∈ l := List.getElem_mem _
            have hl0f := bi.lay _ hl0m
            have hnot : l[0] ∉ st := fun h => by
              have := of_decide_eq_true (hnew _ h)
              rw [hl0f] at this
              cases this
            have hv0 : valV kvs' (Sum.inl ((l[0] : Nat) : Int) : Key) = some (nV d) := by
              rw [hdi3, setAll_at, if_neg (fun h => hnot (List.mem_of_mem_take h.1)), hl0f]; rfl
            have hunot : u ∉ st.take j := fun h => by
              obtain ⟨i', hi', e'⟩ := List.getElem_of_mem h
              rw [List.length_take] at hi'
              rw [List.getElem_take] at e'
              obtain ⟨hj, ej⟩ := List.getElem?_eq_some_iff.mp hu
              have := nodup_at hnd _ hj (e'.trans ej.symm)
              omega
            have hset : (setAll f (d + 1) (st.take j))[u]? = some none := by
              rw [setAll_at, if_neg (fun h => hunot h.1)]
              exact of_decide_eq_true (hnew u hum)
            have hvu : valV kvs' (Sum.inl (u : Int) : Key) = none := by rw [hdi3, hset]; rfl
            have hlt := nones_set_lt (d + 1) _ u hset
            refine ⟨_, rfl, _, rfl, lay, _, _, _, rfl, rfl, SqL.of hlay3, atI_nat (nl_at hl0), fa, _, rfl, hv0 ▸ DGet.k (k := Sum.inl ((l[0] : Nat) : Int)) hfa3, _, _, rfl, rfl, _, rfl, _, rfl, fa, _, rfl, DPut.k (k := Sum.inl (u : Int)) hfa3 (small1000 (by omega)), ?_⟩
            refine ⟨_, _, rfl, same_put s3 nfa, upd_same, ?_, ?_, ?_, ?_⟩
            · rw [NL, upd_ne (ne_of hlay3 hfa3 (by intro z; cases z))]; exact hlay3
            · rw [NL, upd_ne (ne_of hfu3 hfa3 (by intro z; cases z))]; exact hfu3
            · rw [take_snoc hu, setAll_snoc]
              exact dict_put (d := d + 1) hdi3 (by rw [setAll_len]; exact hul)
            · rw [take_snoc hu, setAll_snoc, putK_new _ hvu, List.length_append]
              show kvs'.length + 1 + _ ≤ n
              omega
          · rintro σ H3 ⟨kvs', x6, rfl, s3, hfa3, hlay3, hfu3, hdi3, hkn3⟩
            rw [List.length_map, List.take_length] at hdi3 hkn3
            refine ⟨_, rfl, setAll f (d + 1) st, st, d + 1, fu, kvs', _, x5, x6, rfl, s3, hfa3, hfu3, hdi3, hkn3, ?_, hb, ?_⟩
            · rw [← hst]; exact bi.next
            · rw [← hst] at hmn ⊢; omega
theorem can_lawFars (T : Tx K mg) : Can P w K mg base CX0 1 "_law_fars" ["_law_leads_here", "_law_house"] spLawFars :=
  T.can 16 rfl rfl (fun _ _ _ _ _ _ us hl => match us, hl with | [_, _], _ => rfl) fun _ _ F => ok_lawFars T F
end
end NW
-- NwRowIs
set_option Elab.async false
set_option linter.all false
set_option maxRecDepth 100000
set_option maxHeartbeats 4200000
namespace NW
open PySem PySem.Spec L2 PyProof.Rows
/-! ## _law_whole, _law_row_is -/
theorem trues_all (n : Nat) : (List.replicate n true).all id = true := by
  induction n with
  | zero => rfl
  | succ n ih => rw [List.replicate_succ, List.all_cons, ih]; rfl
theorem trues_snoc (n : Nat) : (List.replicate n true).map V.bl ++ [V.bl true] = (List.replicate (n + 1) true).map V.bl := by
  rw [List.replicate_succ', List.map_append]; rfl
section
variable {P : Program} {w : World} {base : Heap} {K : PySem.W.Frag} {mg : Str → Option Value}
theorem scLWhole : FnScope ["_law_thing"] ["_law_thing"] (defScope (top 38)) := ⟨rfl, rfl, rfl, by decide +kernel, rfl, by decide +kernel, by decide +kernel⟩
def spInt : Sp := fun vs H Q _ => ∃ i : Int, vs = [.int i] ∧ Q (.bl true) H
theorem ok_lwhole {f : Addr} {fd : FuncData} (T : Tx K mg) (F : Fun K "_law_whole" "_law_whole" (top 38) f fd) : FnOk P w K mg base CX0 1 f fd ["_law_thing"] spInt := by
  refine F.ok scLWhole (fun vs H Q E h => ?_) (fun cdv A outer s H vs Q E hr h => ?_)
  · obtain ⟨i, rfl, _⟩ := h
    rfl
  · obtain ⟨i, rfl, q⟩ := h
    refine ⟨_, pss_one (ps_ret (pe_and (pe_callB call_isi (by rfl) T.fIsi (by decide +kernel) (pa_cons (pv 0) (pa_cons (pe_bltn (v := .ty "int") (by rfl) T.fInt (by decide +kernel) rfl) pa_nil)))
      (pe_one (pe_not (pe_callB call_isi (by rfl) T.fIsi (by decide +kernel) (pa_cons (pv 0) (pa_cons (pe_bltn (v := .ty "bool") (by rfl) T.fBool (by decide +kernel) rfl) pa_nil))))))), ?_⟩
    refine ⟨_, rfl, _, _, _, _, true, rfl, .ty _, .base (.int i), kbT "int" "int" true rfl K, true, rfl, iteT ?_⟩
    exact ⟨_, rfl, _, _, _, _, false, rfl, .ty _, .base (.int i), kbT "int" "bool" false (by decide +kernel) K, _, rfl, q⟩
theorem can_lwhole (T : Tx K mg) : Can P w K mg base CX0 1 "_law_whole" ["_law_thing"] spInt :=
  T.can 17 rfl rfl (fun _ _ _ _ _ _ us hl => match us, hl with | [_], _ => rfl) fun _ _ F => ok_lwhole T F
def spRowIs : Sp := fun vs H Q _ => ∃ (a b : Addr) (ns : List Nat), vs = [.ref a, .ref b] ∧ NL H a ns ∧ NL H b ns ∧ ns.length ≤ 1000 ∧ ∀ H', Same H H' → Q (.bl true) H'
abbrev nRowIs : List Str := ["_law_found", "_law_due", "_law_one"]
theorem scRowIs : FnScope nRowIs ["_law_found", "_law_due"] (defScope (top 39)) := ⟨rfl, rfl, rfl, by decide +kernel, rfl, by decide +kernel, by decide +kernel⟩
theorem ok_rowIs {f : Addr} {fd : FuncData} (T : Tx K mg) (F : Fun K "_law_row_is" "_law_row_is" (top 39) f fd) : FnOk P w K mg base CX0 2 f fd ["_law_found", "_law_due"] spRowIs := by
  refine F.ok scRowIs (fun vs H Q E h => ?_) (fun cdv A outer s H vs Q E hr h => ?_)
  · obtain ⟨a, b, ns, rfl, _⟩ := h
    rfl
  · obtain ⟨a, b, ns, rfl, ha, hb, few, q⟩ := h
    have h64 := hr.units
    refine ⟨_, pss_one (ps_ret (pe_and (pe_callB call_isi (by rfl) T.fIsi (by decide +kernel) (pa_cons (pv 0) (pa_cons (pe_bltn (v := .ty "list") (by rfl) T.fList (by decide +kernel) rfl) pa_nil)))
      (pe_and (pe_cmpR (op_eqD h64) (pv 0) (pv 1) (nomark _))
      (pe_one (pe_callB (cr_all rfl) (by rfl) T.fAll (by decide +kernel) (pa_cons (pe_lc (own := [("_law_one", 2)]) (g := gName 2) (tt := tYes) rfl scRowIs.nd (pi_list (pv 0))
        (blkOk_by (N := nRowIs) (sc := defScope (top 39)) (by decide +kernel)) (fun _ _ _ _ _ => pg_name (i := 2) scRowIs.nd rfl (.inl rfl)) (fun _ _ _ _ _ => pts_nil)
        (fun _ _ _ _ _ => pe_can (can_lwhole T) hr (by rfl) pass0 (pa_cons (pv 2) pa_nil))) pa_nil)))))), ?_⟩
    refine ⟨_, rfl, _, _, _, _, true, rfl, .ty _, .base (.lst ha), kbT "list" "list" true rfl K, true, rfl, iteT ?_⟩
    refine ⟨_, rfl, _, rfl, iD ns, iD ns, dp_nl ha, dp_nl hb, iD_shaped _, iD_shaped _, true, by rw [iD_eqv, decide_eq_true rfl], iteT ?_⟩
    refine ⟨_, rfl, a, rfl, ⟨_, SqL.of ha⟩, fun D nD => ?_⟩
    refine lc_list (K := K) (a := a) (xs := ns.map nV) (fun j H2 => Same H H2 ∧ H2 D = some (.lst ((List.replicate j true).map V.bl))) ?_ ?_ ?_ ?_
    · exact ⟨same_new nD, upd_same⟩
    · rintro j H2 _ ⟨s2, _⟩
      exact s2.seq (SqL.of ha)
    · rintro j x H2 hx ⟨s2, hD⟩
      obtain ⟨u, hu, rfl⟩ := map_at hx
      have hj : j < ns.length := (List.getElem?_eq_some_iff.mp hu).1
      refine ⟨rfl, _, rfl, _, rfl, _, hD, ?_, same_put s2 nD, ?_⟩
      · rw [List.length_map, List.length_replicate]
        exact small1000 (by omega)
      · rw [upd_same, trues_snoc]
    · rintro H2 ⟨s2, hD⟩
      refine ⟨D, _, rfl, SqL.of hD, ?_⟩
      rw [trues_all]
      exact q H2 s2
theorem can_rowIs (T : Tx K mg) : Can P w K mg base CX0 2 "_law_row_is" ["_law_found", "_law_due"] spRowIs :=
  T.can 18 rfl rfl (fun _ _ _ _ _ _ us hl => match us, hl with | [_, _], _ => rfl) fun _ _ F => ok_rowIs T F
end
end NW
-- NwWant
set_option Elab.async false
set_option linter.all false
set_option maxRecDepth 100000
set_option maxHeartbeats 4200000
namespace NW
open PySem PySem.Spec L2 PyProof.Rows
/-! ## want_net -/
section
variable {P : Program} {w : World} {base : Heap} {K : PySem.W.Frag} {mg : Str → Option Value}
def spWant : Sp := fun vs H Q _ => ∃ (l : Addr) (n : Nat) (ts : List (Addr × Nat × Nat)), vs = [nV n, .ref l] ∧ PL H l ts ∧ Good n (ts.map (·.2)) ∧ 2 ≤ n ∧ n ≤ 32 ∧ ∀ H', Same H H' → Q .non H'
abbrev nWant : List Str := ["many", "ties", "tie"]
theorem scWant : FnScope nWant ["many", "ties"] (defScope (top 27)) := ⟨rfl, rfl, rfl, by decide +kernel, rfl, by decide +kernel, by decide +kernel⟩
theorem ok_want {f : Addr} {fd : FuncData} (T : Tx K mg) (F : Fun K "want_net" "want_net" (top 27) f fd) : FnOk P w K mg base CX0 4 f fd ["many", "ties"] spWant := by
  refine F.ok scWant (fun vs H Q E h => ?_) (fun cdv A outer s H vs Q E hr h => ?_)
  · obtain ⟨l, n, ts, rfl, _⟩ := h
    rfl
  · obtain ⟨l, n, ts, rfl, hl, g, n2, n32, q⟩ := h
    refine ⟨_, pss_cons (ps_if (PW.pt (pw_or (pt_not (pt_val (pe_can (can_many T) (hr.mono (by decide)) (by rfl) pass0 (pa_cons (pv 0) pa_nil))))
          (pw_or (pt_not (pt_val (pe_callB call_isi (by rfl) T.fIsi (by decide +kernel) (pa_cons (pv 1) (pa_cons (pe_bltn (v := .ty "list") (by rfl) T.fList (by decide +kernel) rfl) pa_nil)))))
          (pw_or1 (pt_not (pt_val (pe_callB (cr_all rfl) (by rfl) T.fAll (by decide +kernel) (pa_cons (pe_lc (own := [("tie", 2)]) (g := gName 2) (tt := tYes) rfl scWant.nd (pi_list (pv 1))
            (blkOk_by (N := nWant) (sc := defScope (top 27)) (by decide +kernel)) (fun _ _ _ _ _ => pg_name (i := 2) scWant.nd rfl (.inl rfl)) (fun _ _ _ _ _ => pts_nil)
            (fun _ _ _ _ _ => pe_can (can_pair T) hr (by rfl) pass0 (pa_cons (pv 0) (pa_cons (pv 2) pa_nil)))) pa_nil)))))))) (pss_one ps_never) pss_nil)
      (pss_one (ps_if (PW.pt (pw_or (pt_not (pt_val (pe_can (can_unlike T) (hr.mono (by decide)) (by rfl) pass0 (pa_cons (pv 1) pa_nil))))
        (pw_or1 (pt_not (pt_val (pe_can (can_even T) (hr.mono (by decide)) (by rfl) pass0 (pa_cons (pv 0) (pa_cons (pv 1) pa_nil)))))))) (pss_one ps_never) pss_nil)), ?_⟩
    have few : ts.length ≤ 256 := by have := g.len; rw [List.length_map] at this; omega
    refine ⟨_, rfl, n, rfl, by omega, by omega, true, rfl, iteF ?_⟩
    refine ⟨_, rfl, _, _, _, _, true, rfl, .ty _, .base (.lst hl.at_), kbT "list" "list" true rfl K, true, rfl, iteF ?_⟩
    refine ⟨_, rfl, l, rfl, ⟨_, SqL.of hl.at_⟩, fun D nD => ?_⟩
    refine lc_list (K := K) (a := l) (xs := ts.map fun t => V.ref t.1) (fun j H2 => Same H H2 ∧ H2 D = some (.lst ((List.replicate j true).map V.bl))) ?_ ?_ ?_ ?_
    · exact ⟨same_new nD, upd_same⟩
    · rintro j H2 _ ⟨s2, _⟩
      exact s2.seq (SqL.of hl.at_)
    · rintro j x H2 hx ⟨s2, hD⟩
      obtain ⟨t, ht, rfl⟩ := map_at hx
      have hj : j < ts.length := (List.getElem?_eq_some_iff.mp ht).1
      obtain ⟨_, htup⟩ := (hl.same s2).get ht
      have htT : (ts.map (·.2))[j]? = some t.2 := by rw [List.getElem?_map, ht]; rfl
      obtain ⟨r1, r2, r3⟩ := g.rng t.2 (List.mem_of_getElem? htT)
      refine ⟨rfl, _, rfl, _, rfl, (n : Int), _, _, t.1, rfl, htup, by omega, by omega, by omega, by omega, by omega, _, hD, ?_, same_put s2 nD, ?_⟩
      · rw [List.length_map, List.length_replicate]
        exact small1000 (by omega)
      · rw [upd_same, trues_snoc]
    · rintro H2 ⟨s2, hD⟩
      refine ⟨D, _, rfl, SqL.of hD, _, rfl, ?_⟩
      rw [trues_all]
      refine ⟨_, rfl, l, ts, rfl, hl.same s2, g.nd, few, fun H3 s3 => ⟨true, rfl, iteF ?_⟩⟩
      refine ⟨_, rfl, _, rfl, l, n, ts, rfl, (hl.same s2).same s3, g, n2, n32, fun H4 s4 => ⟨true, rfl, ?_⟩⟩
      exact q H4 ((s2.trans s3).trans s4)
theorem can_want (T : Tx K mg) : Can P w K mg base CX0 4 "want_net" ["many", "ties"] spWant :=
  T.can 8 rfl rfl (fun _ _ _ _ _ _ us hl => match us, hl with | [_, _], _ => rfl) fun _ _ F => ok_want T F
end
end NW
-- NwProgFars
set_option Elab.async false
set_option linter.all false
set_option maxRecDepth 100000
set_option maxHeartbeats 4200000
namespace NW
open PySem PySem.Spec L2 PyProof.Rows
/-! ## fars_from -/
def oV : Option Nat → V
  | none => .non
  | some d => nV d
theorem row_snoc {f : Fnd} {acc row : List Nat} {j u : Nat} (hu : row[j]? = some u) : stepRow f acc (row.take (j + 1)) = stepRow f acc (row.take j) ++ (if (isNew f u && !acc.contains u) = true then [u] else []) := by
  unfold stepRow
  rw [filter_snoc _ hu, List.append_assoc]
theorem dist_oV {rs : List (List Nat)} {n s : Nat} {f : Fnd} (h : f = (dist rs n s).map some) : f.map oV = (dist rs n s).map nV := by
  rw [h, List.map_map]; rfl
section
variable {P : Program} {w : World} {base : Heap} {K : PySem.W.Frag} {mg : Str → Option Value}
abbrev nPFars : List Str := ["outs", "house", "found", "layer", "further", "here", "other"]
theorem scPFars : FnScope nPFars ["outs", "house"] (defScope (top 26)) := ⟨rfl, rfl, rfl, by decide +kernel, rfl, by decide +kernel, by decide +kernel⟩
theorem ok_pFars {f : Addr} {fd : FuncData} (T : Tx K mg) (F : Fun K "fars_from" "fars_from" (top 26) f fd) : FnOk P w K mg base CX0 1 f fd ["outs", "house"] spLawFars := by
  refine F.ok scPFars (fun vs H Q E h => ?_) (fun cdv A outer s H vs Q E hr h => ?_)
  · obtain ⟨p, n, s, rs, G, rfl, _⟩ := h
    rfl
  · obtain ⟨p, n, s, rs, G, rfl, hp, hrs, g, hs, n32, q⟩ := h
    have h64 := hr.units
    refine ⟨_, pss_cons (ps_set (i := 2) scPFars.nd rfl (.inl rfl) (pe_op op_rep (pe_lst (pa_cons pe_non pa_nil)) (pe_callB call_len_seq (by rfl) T.fLen PySem.boot_len (pa_cons (pv 0) pa_nil))))
      (pss_cons (ps_asg pe_int (pg_sub (pv 2) (pv 1) set_list))
      (pss_cons (ps_set (i := 3) scPFars.nd rfl (.inl rfl) (pe_lst (pa_cons (pv 1) pa_nil)))
      (pss_cons (ps_while PassesOwn.never (pt_cmpR (op_neD h64) (pv 3) (pe_lst pa_nil) (nomark _))
        (pss_cons (ps_set (i := 4) scPFars.nd rfl (.inl rfl) (pe_lst pa_nil))
        (pss_cons (ps_for PassesOwn.never rfl (pi_list (pv 3)) (pg_name (i := 5) scPFars.nd rfl (.inl rfl))
          (pss_one (ps_for PassesOwn.never rfl (pi_list (pe_ix ix_list (pv 0) (pv 5) (fun _ _ => rfl))) (pg_name (i := 6) scPFars.nd rfl (.inl rfl))
            (pss_one (ps_if (pt_cmp (pc_isN (pe_ix ix_list (pv 2) (pv 6) (fun _ _ => rfl))))
              (pss_cons (ps_asg (pe_op op_add (pe_ix ix_list (pv 2) (pv 5) (fun _ _ => rfl)) pe_int) (pg_sub (pv 2) (pv 6) set_list))
              (pss_one (ps_expr (appK K (pv 4) (pv 6))))) pss_nil)))))
        (pss_one (ps_set (i := 3) scPFars.nd rfl (.inl rfl) (pv 4))))))
      (pss_one (ps_ret (pv 2)))))), ?_⟩
    -- found = [None] * len(outs); found[house] = 0
    have hlen : ((rs.map fun r => V.ref r.1).length : Int) = (n : Int) := by
      have := congrArg List.length hrs
      rw [List.length_map, rows_len] at this
      rw [List.length_map, this]
    refine ⟨by show 1 ≤ sizeLine; decide, fun a na => ?_⟩
    have sa : Same H (upd H a (.lst [.non])) := same_new na
    refine ⟨_, rfl, p, _, rfl, .inl (SqL.of (sa _ _ hp.at_)), ?_⟩
    rw [hlen]
    refine ⟨a, (n : Int), _, rfl, rfl, upd_same, by omega, by omega, small_le (by show 1 * (n : Int).toNat ≤ 1000; omega), fun fo nfo => ?_⟩
    have en : (List.replicate (n : Int).toNat [V.non]).flatten = (List.replicate n (none : Option Nat)).map oV := by
      rw [List.map_replicate, flat_rep]
      have : (n : Int).toNat = n := by omega
      rw [this]; rfl
    have so := sa.trans (same_new (o := .lst (List.replicate (n : Int).toNat [V.non]).flatten) nfo)
    have nfoH : H fo = none := sa.free nfo
    refine ⟨_, rfl, _, rfl, fo, _, _, s, rfl, rfl, upd_same, ?_, ?_⟩
    · rw [en, List.length_map, List.length_replicate]
      unfold ixN
      rw [if_pos (by omega), if_pos (by omega)]; rfl
    have hset : ((List.replicate (n : Int).toNat [V.non]).flatten).set s (V.int 0) = (init n s).map oV := by
      rw [en]; unfold init; rw [List.map_set]; rfl
    refine ⟨_, rfl, by show 1 ≤ sizeLine; decide, fun la nla => ?_⟩
    have s0 : Same H (upd (upd (upd (upd H a (.lst [.non])) fo (.lst (List.replicate (n : Int).toNat [V.non]).flatten)) fo (.lst (((List.replicate (n : Int).toNat [V.non]).flatten).set s (V.int 0)))) la (.lst [nV s])) :=
      fun b o e => same_new nla b o (same_put so nfoH b o e)
    have ela : fo ≠ la := ne_of_none upd_same nla
    -- while layer != []
    refine ⟨fun k σ H1 => ∃ (f : Fnd) (l : List Nat) (d : Nat) (lay : Addr) (x4 x5 x6 : Option V), σ = [some (.ref p), some (nV s), some (.ref fo), some (.ref lay), x4, x5, x6] ∧ Same H H1 ∧
      H1 fo = some (.lst (f.map oV)) ∧ NL H1 lay l ∧ lay ≠ fo ∧ BI (rowsOf n G) n s f l d ∧ bfs (rowsOf n G) k f l d = fin (rowsOf n G) n s ∧ meas f l ≤ k,
      ⟨n + 1, init n s, [s], 0, la, none, none, none, rfl, s0, by rw [upd_ne ela, upd_same, hset], upd_same, ela.symm, init_BI hs, rfl, init_meas hs⟩, ?_⟩
    rintro k σ H1 ⟨f, l, d, lay, x4, x5, x6, rfl, s1, hfo, hlay, hne, bi, hb, hm⟩
    have hll : ∀ v ∈ l, v < n := fun v hv => by rw [← bi.len]; exact (List.getElem?_eq_some_iff.mp (bi.lay v hv)).1
    refine ⟨_, rfl, Nat.zero_le _, fun z nz => ?_⟩
    have sz := same_new (o := .lst []) nz
    refine ⟨iD l, .list [], dp_nl (sz _ _ hlay), dp_nil upd_same, iD_shaped _, nilD_shaped, _, rfl, ?_⟩
    rw [iD, eqv_nil]
    have s1z : Same H (upd H1 z (.lst [])) := s1.trans sz
    have hfoz := sz _ _ hfo
    have hlayz : NL _ lay l := sz _ _ hlay
    generalize upd H1 z (.lst []) = Hz at s1z hfoz hlayz
    by_cases c : l = []
    · subst c
      refine iteF ?_
      rw [bfs_nil] at hb
      refine ⟨_, rfl, q fo Hz s1z nfoH ?_⟩
      rw [NL, ← dist_oV (hb.trans (fin_some g hs))]
      exact hfoz
    · have ei : (iDs l).isEmpty = false := by
        cases l with
        | nil => exact absurd rfl c
        | cons _ _ => rfl
      rw [ei]
      obtain ⟨k, rfl⟩ : ∃ k', k = k' + 1 := ⟨k - 1, by
        have : 1 ≤ meas f l := by unfold meas; rw [if_neg c]; omega
        omega⟩
      have hmn := meas_next (rs := rowsOf n G) (f := f) (d := d) c
      rw [bfs_cons _ _ _ _ c] at hb
      refine ⟨fun σ' H' => ∃ (f : Fnd) (l : List Nat) (d : Nat) (lay : Addr) (x4 x5 x6 : Option V), σ' = [some (.ref p), some (nV s), some (.ref fo), some (.ref lay), x4, x5, x6] ∧ Same H H' ∧
        H' fo = some (.lst (f.map oV)) ∧ NL H' lay l ∧ lay ≠ fo ∧ BI (rowsOf n G) n s f l d ∧ bfs (rowsOf n G) k f l d = fin (rowsOf n G) n s ∧ meas f l ≤ k,
        fun σ' H' h => ⟨k, Nat.lt_succ_self k, h⟩, ?_⟩
      -- further = []
      refine ⟨Nat.zero_le _, fun fu nfu => ?_⟩
      have sf := same_new (o := .lst []) nfu
      have nfuH : H fu = none := s1z.free nfu
      have nff : fu ≠ fo := (ne_of_none hfoz nfu).symm
      have nfl : lay ≠ fu := ne_of_none hlayz nfu
      -- for here in layer
      refine ⟨_, rfl, lay, rfl, ⟨_, SqL.of (sf _ _ hlayz)⟩, for_list (K := K) (a := lay) (xs := l.map nV) (fun i σ H2 => ∃ x5 x6, σ = [some (.ref p), some (nV s), some (.ref fo), some (.ref lay), some (.ref fu), x5, x6] ∧ Same H H2 ∧
        H2 fo = some (.lst ((setAll f (d + 1) (stepAll (rowsOf n G) f (l.take i))).map oV)) ∧ NL H2 lay l ∧ NL H2 fu (stepAll (rowsOf n G) f (l.take i))) ?_ ?_ ?_ ?_⟩
      · exact ⟨x5, x6, rfl, s1z.trans sf, sf _ _ hfoz, sf _ _ hlayz, upd_same⟩
      · rintro i σ H2 _ ⟨_, _, _, _, _, h, _⟩
        exact SqL.of h
      · rintro i x σ H2 hx ⟨x5, x6, rfl, s2, hfo2, hlay2, hfu2⟩
        obtain ⟨v, hv, rfl⟩ := map_at hx
        have hvm := List.mem_of_getElem? hv
        have hvn := hll v hvm
        have hvf := bi.lay v hvm
        obtain ⟨ra, hra, hrow⟩ := (hp.same s2).rowAt hrs hvn
        obtain ⟨ra2, hra2, hrowH⟩ := hp.rowAt hrs hvn
        have era : ra2 = ra := by
          have e := hra2.symm.trans hra
          injection e with e
          injection e
        rw [era] at hrowH
        generalize hacc : stepAll (rowsOf n G) f (l.take i) = acc at hfo2 hfu2
        have haccnew : ∀ u ∈ acc, isNew f u = true := fun u hu => by rw [← hacc] at hu; exact (mem_stepAll.mp hu).1
        have haccnd : acc.Nodup := by rw [← hacc]; exact stepAll_nodup (rowAt_nodup n G) _
        have hrnd := rowOf_nodup (T := G) hvn
        -- for other in outs[here]
        refine ⟨_, rfl, _, rfl, p, _, _, _, rfl, rfl, SqL.of (s2 _ _ hp.at_), atI_nat hra, ra, rfl, ⟨_, SqL.of hrow⟩, for_list (K := K) (a := ra) (xs := (rowOf n G v).map nV)
          (fun j σ H3 => ∃ x6, σ = [some (.ref p), some (nV s), some (.ref fo), some (.ref lay), some (.ref fu), some (nV v), x6] ∧ Same H H3 ∧
            H3 fo = some (.lst ((setAll f (d + 1) (stepRow f acc ((rowOf n G v).take j))).map oV)) ∧ NL H3 lay l ∧ NL H3 fu (stepRow f acc ((rowOf n G v).take j))) ?_ ?_ ?_ ?_⟩
        · refine ⟨x6, rfl, s2, ?_, hlay2, ?_⟩
          · rw [List.take_zero]
            have : stepRow f acc [] = acc := by unfold stepRow; rw [List.filter_nil, List.append_nil]
            rw [this]; exact hfo2
          · rw [List.take_zero]
            have : stepRow f acc [] = acc := by unfold stepRow; rw [List.filter_nil, List.append_nil]
            rw [this]; exact hfu2
        · rintro j σ H3 _ ⟨_, _, s3, _⟩
          exact s3.seq (SqL.of hrowH)
        · rintro j x σ H3 hx ⟨x6, rfl, s3, hfo3, hlay3, hfu3⟩
          obtain ⟨u, hu, rfl⟩ := map_at hx
          have hun : u < n := rowOf_lt (by omega) (List.mem_of_getElem? hu)
          have hsn := row_snoc (f := f) (acc := acc) hu
          have hcurnd : (stepRow f acc ((rowOf n G v).take j)).Nodup := stepRow_nodup haccnd (hrnd.sublist (List.take_sublist _ _))
          have hcurnew : ∀ y ∈ stepRow f acc ((rowOf n G v).take j), isNew f y = true := fun y hy => by
            rcases mem_stepRow.mp hy with h | h
            · exact haccnew y h
            · exact h.2
          have hcl : (stepRow f acc ((rowOf n G v).take j)).length ≤ n := by
            have := L2.nat_nodup_len _ (List.range n) hcurnd fun y hy => List.mem_range.mpr (by rw [← bi.len]; exact new_lt (hcurnew y hy))
            rwa [List.length_range] at this
          have hmem : u ∈ stepRow f acc ((rowOf n G v).take j) ↔ u ∈ acc := by
            rw [mem_stepRow]
            constructor
            · rintro (h | ⟨h, _⟩)
              · exact h
              · exfalso
                obtain ⟨i', hi', e'⟩ := List.getElem_of_mem h
                rw [List.length_take] at hi'
                rw [List.getElem_take] at e'
                obtain ⟨hj, ej⟩ := List.getElem?_eq_some_iff.mp hu
                have := nodup_at hrnd _ hj (e'.trans ej.symm)
                omega
            · exact .inl
          have hfl : f.length = n := bi.len
          generalize stepRow f acc ((rowOf n G v).take j) = cur at hfo3 hfu3 hsn hcurnd hcurnew hcl hmem
          have hat := setAll_at (d + 1) cur f u
          have hcell : ∃ y, (setAll f (d + 1) cur)[u]? = some y := ⟨_, List.getElem?_eq_getElem (by rw [setAll_len, hfl]; exact hun)⟩
          obtain ⟨y, hy⟩ := hcell
          have hyV : ((setAll f (d + 1) cur).map oV)[u]? = some (oV y) := by rw [List.getElem?_map, hy]; rfl
          refine ⟨_, rfl, _, rfl, fo, _, _, _, rfl, rfl, SqL.of hfo3, atI_nat hyV, _, rfl, ?_⟩
          cases hyc : y with
          | some e =>
            subst hyc
            refine iteF ⟨_, rfl, s3, ?_, hlay3, ?_⟩
            all_goals
              have hno : (isNew f u && !acc.contains u) = false := by
                cases hn : isNew f u with
                | false => rfl
                | true =>
                  cases hc : acc.contains u with
                  | true => rfl
                  | false =>
                    exfalso
                    have h1 : u ∉ acc := fun h => by simp [h] at hc
                    rw [hy, if_neg (fun h => h1 (hmem.mp h.1))] at hat
                    have h2 := of_decide_eq_true hn
                    rw [h2] at hat
                    cases hat
              rw [hsn, hno, if_neg Bool.false_ne_true, List.append_nil]
            · exact hfo3
            · exact hfu3
          | none =>
            subst hyc
            have hncur : u ∉ cur := fun h => by
              rw [hy, if_pos ⟨h, by rw [hfl]; exact hun⟩] at hat
              cases hat
            have hyes : (isNew f u && !acc.contains u) = true := by
              rw [hy, if_neg (fun h => hncur h.1)] at hat
              have h1 : isNew f u = true := decide_eq_true hat.symm
              have h2 : acc.contains u = false := by
                cases hc : acc.contains u with
                | false => rfl
                | true => exact absurd (hmem.mpr (by simpa using hc)) hncur
              rw [h1, h2]; rfl
            have hvcell : ((setAll f (d + 1) cur).map oV)[v]? = some (nV d) := by
              have hvnot : v ∉ cur := fun h => by
                have := of_decide_eq_true (hcurnew v h)
                rw [hvf] at this
                cases this
              rw [List.getElem?_map, setAll_at, if_neg (fun h => hvnot h.1), hvf]; rfl
            have hix : ixN ((setAll f (d + 1) cur).map oV).length (u : Int) = some u := by
              rw [List.length_map, setAll_len, hfl]
              unfold ixN
              rw [if_pos (by omega), if_pos (by omega)]; rfl
            refine iteT ⟨_, rfl, _, rfl, fo, _, _, _, rfl, rfl, SqL.of hfo3, atI_nat hvcell, _, _, rfl, rfl, _, rfl, _, rfl, fo, _, _, u, rfl, rfl, hfo3, hix, ?_⟩
            have hfu4 : (upd H3 fo (.lst (((setAll f (d + 1) cur).map oV).set u (V.int ((d : Int) + 1))))) fu = some (.lst (cur.map nV)) := by rw [upd_ne nff]; exact hfu3
            refine ⟨_, rfl, .inl ⟨rfl, _, SqL.of hfu4⟩, _, rfl, fu, _, _, rfl, rfl, hfu4, ?_, _, rfl, same_put (same_put s3 nfoH) nfuH, ?_, ?_, ?_⟩
            · rw [List.length_map]; exact small1000 (by omega)
            · rw [upd_ne nff.symm, upd_same, hsn, hyes, if_pos rfl, setAll_snoc, List.map_set]; rfl
            · rw [NL, upd_ne nfl, upd_ne hne]; exact hlay3
            · rw [NL, upd_same, hsn, hyes, if_pos rfl, map_snoc]
        · rintro σ H3 ⟨x6, rfl, s3, hfo3, hlay3, hfu3⟩
          rw [List.length_map, List.take_length] at hfo3 hfu3
          have e1 : stepRow f acc (rowOf n G v) = stepAll (rowsOf n G) f (l.take (i + 1)) := by
            rw [take_snoc hv, stepAll_snoc, rowAt_of G hvn, hacc]
          rw [e1] at hfo3 hfu3
          exact ⟨_, x6, rfl, s3, hfo3, hlay3, hfu3⟩
      · rintro σ H2 ⟨x5, x6, rfl, s2, hfo2, hlay2, hfu2⟩
        rw [List.length_map, List.take_length] at hfo2 hfu2
        exact ⟨_, rfl, setAll f (d + 1) (stepAll (rowsOf n G) f l), stepAll (rowsOf n G) f l, d + 1, fu, _, x5, x6, rfl, s2, hfo2, hfu2, nff, bi.next, hb, by omega⟩
theorem can_pFars (T : Tx K mg) : Can P w K mg base CX0 1 "fars_from" ["outs", "house"] spLawFars :=
  T.can 7 rfl rfl (fun _ _ _ _ _ _ us hl => match us, hl with | [_, _], _ => rfl) fun _ _ F => ok_pFars T F
end
end NW
-- NwInit
set_option Elab.async false
set_option linter.all false
set_option maxRecDepth 100000
set_option maxHeartbeats 4200000
namespace NW
open PySem PySem.Spec L2 PyProof.Rows
/-! ## Net.__init__ -/
theorem k12' : ¬ (("houses" : Str) = "arrows") := by decide +kernel
theorem k13' : ¬ (("houses" : Str) = "outs") := by decide +kernel
theorem k14' : ¬ (("houses" : Str) = "fars") := by decide +kernel
theorem k23' : ¬ (("arrows" : Str) = "outs") := by decide +kernel
theorem k24' : ¬ (("arrows" : Str) = "fars") := by decide +kernel
theorem k34' : ¬ (("outs" : Str) = "fars") := by decide +kernel
/-- a net's attributes -/
def nf (n : Nat) (ar ou fr : Addr) : List (Str × V) := putF "fars" (.ref fr) (putF "outs" (.ref ou) (putF "arrows" (.ref ar) (putF "houses" (nV n) [])))
theorem nf_houses (n : Nat) (ar ou fr : Addr) : (nf n ar ou fr).lookup ("houses" : Str) = some (nV n) := by
  unfold nf
  rw [lookup_putF, if_neg k14', lookup_putF, if_neg k13', lookup_putF, if_neg k12', lookup_putF, if_pos rfl]
theorem nf_outs (n : Nat) (ar ou fr : Addr) : (nf n ar ou fr).lookup ("outs" : Str) = some (.ref ou) := by
  unfold nf
  rw [lookup_putF, if_neg k34', lookup_putF, if_pos rfl]
theorem nf_fars (n : Nat) (ar ou fr : Addr) : (nf n ar ou fr).lookup ("fars" : Str) = some (.ref fr) := by
  unfold nf
  rw [lookup_putF, if_pos rfl]
theorem nf_no (n : Nat) (ar ou fr : Addr) {m : Str} (h1 : ¬ m = "houses") (h2 : ¬ m = "arrows") (h3 : ¬ m = "outs") (h4 : ¬ m = "fars") : (nf n ar ou fr).lookup m = none := by
  unfold nf
  rw [lookup_putF, if_neg h4, lookup_putF, if_neg h3, lookup_putF, if_neg h2, lookup_putF, if_neg h1]
  rfl
/-- all distances -/
def distsOf (n : Nat) (T : Ties) : List (List Nat) := (List.range n).map (dist (rowsOf n T) n)
theorem dists_len (n : Nat) (T : Ties) : (distsOf n T).length = n := by unfold distsOf; rw [List.length_map, List.length_range]
theorem dists_get {n : Nat} (T : Ties) {i : Nat} (h : i < n) : (distsOf n T)[i]? = some (dist (rowsOf n T) n i) := by
  unfold distsOf; rw [List.getElem?_map, List.getElem?_range h]; rfl
/-- a Net stands at p -/
structure NetAt (K : PySem.W.Frag) (H : Hp) (p : Addr) (n : Nat) (T : Ties) : Prop where
  ex : ∃ (dx ar ou fr : Addr) (ors frs : List (Addr × List Nat)), H p = some (.ins (CN K) dx (nf n ar ou fr)) ∧ LL H ou ors ∧ ors.map (·.2) = rowsOf n T ∧ LL H fr frs ∧ frs.map (·.2) = distsOf n T
theorem NetAt.same {K : PySem.W.Frag} {H H' : Hp} {p : Addr} {n : Nat} {T : Ties} (h : NetAt K H p n T) (s : Same H H') : NetAt K H' p n T := by
  obtain ⟨dx, ar, ou, fr, ors, frs, h1, h2, h3, h4, h5⟩ := h.ex
  exact ⟨dx, ar, ou, fr, ors, frs, s _ _ h1, h2.same s, h3, h4.same s, h5⟩
/-- as NetAt, and what it leans on was free at H0 -/
structure NetNew (K : PySem.W.Frag) (H0 H : Hp) (p : Addr) (n : Nat) (T : Ties) : Prop where
  ex : ∃ (dx ar ou fr : Addr) (ors frs : List (Addr × List Nat)), H p = some (.ins (CN K) dx (nf n ar ou fr)) ∧ LL H ou ors ∧ ors.map (·.2) = rowsOf n T ∧ LL H fr frs ∧ frs.map (·.2) = distsOf n T ∧
    H0 ou = none ∧ H0 fr = none ∧ (∀ r ∈ ors, H0 r.1 = none) ∧ ∀ r ∈ frs, H0 r.1 = none
theorem NetNew.net {K : PySem.W.Frag} {H0 H : Hp} {p : Addr} {n : Nat} {T : Ties} (h : NetNew K H0 H p n T) : NetAt K H p n T := by
  obtain ⟨dx, ar, ou, fr, ors, frs, h1, h2, h3, h4, h5, _⟩ := h.ex
  exact ⟨dx, ar, ou, fr, ors, frs, h1, h2, h3, h4, h5⟩
theorem NetNew.but {K : PySem.W.Frag} {H0 H H' : Hp} {p q : Addr} {n : Nat} {T : Ties} {o : HO} (h : NetNew K H0 H p n T) (s : But q H H') (hq : H0 q = some o) (hp : p ≠ q) : NetNew K H0 H' p n T := by
  obtain ⟨dx, ar, ou, fr, ors, frs, h1, h2, h3, h4, h5, h6, h7, h8, h9⟩ := h.ex
  have key : ∀ {b : Addr}, H0 b = none → b ≠ q := fun e => (ne_of_none hq e).symm
  exact ⟨dx, ar, ou, fr, ors, frs, s _ _ hp h1, ⟨s _ _ (key h6) h2.at_, fun r hr => s _ _ (key (h8 r hr)) (h2.row r hr)⟩, h3, ⟨s _ _ (key h7) h4.at_, fun r hr => s _ _ (key (h9 r hr)) (h4.row r hr)⟩, h5, h6, h7, h8, h9⟩
theorem NetNew.same {K : PySem.W.Frag} {H0 H H' : Hp} {p : Addr} {n : Nat} {T : Ties} (h : NetNew K H0 H p n T) (s : Same H H') : NetNew K H0 H' p n T := by
  obtain ⟨dx, ar, ou, fr, ors, frs, h1, h2, h3, h4, h5, h6⟩ := h.ex
  exact ⟨dx, ar, ou, fr, ors, frs, s _ _ h1, h2.same s, h3, h4.same s, h5, h6⟩
theorem inV_none (ns : List Nat) : inV .non (ns.map nV) = false := by
  unfold inV
  induction ns with
  | nil => rfl
  | cons u ns ih => rw [List.map_cons, List.any_cons, ih]; rfl
theorem falses_any (n : Nat) : (List.replicate n false).any id = false := by
  induction n with
  | zero => rfl
  | succ n ih => rw [List.replicate_succ, List.any_cons, ih]; rfl
theorem falses_snoc (n : Nat) : (List.replicate n false).map V.bl ++ [V.bl false] = (List.replicate (n + 1) false).map V.bl := by
  rw [List.replicate_succ', List.map_append]; rfl
theorem LL.but {H H' : Hp} {l p : Addr} {rs : List (Addr × List Nat)} (h : LL H l rs) (s : But p H H') (h1 : l ≠ p) (h2 : ∀ r ∈ rs, r.1 ≠ p) : LL H' l rs :=
  ⟨s _ _ h1 h.at_, fun r hr => s _ _ (h2 r hr) (h.row r hr)⟩
theorem PL.butIns {H H' : Hp} {l p C dx : Addr} {ts : List (Addr × Nat × Nat)} {fs : List (Str × V)} (h : PL H l ts) (s : But p H H') (hp : H p = some (.ins C dx fs)) : PL H' l ts :=
  ⟨s _ _ (ne_of h.at_ hp (by intro z; cases z)) h.at_, fun t ht => s _ _ (ne_of (h.tup t ht) hp (by intro z; cases z)) (h.tup t ht)⟩
theorem LL.butIns {H H' : Hp} {l p C dx : Addr} {rs : List (Addr × List Nat)} {fs : List (Str × V)} (h : LL H l rs) (s : But p H H') (hp : H p = some (.ins C dx fs)) : LL H' l rs :=
  ⟨s _ _ (ne_of h.at_ hp (by intro z; cases z)) h.at_, fun t ht => s _ _ (ne_of (h.row t ht) hp (by intro z; cases z)) (h.row t ht)⟩
theorem lst_ne_ins {H : Hp} {a b C dx : Addr} {xs : List V} {fs : List (Str × V)} (h : H a = some (.lst xs)) (h' : H b = some (.ins C dx fs)) : a ≠ b := ne_of h h' (by intro z; cases z)
section
variable {P : Program} {w : World} {base : Heap} {K : PySem.W.Frag} {mg : Str → Option Value}
def spInit (K : PySem.W.Frag) : Sp := fun vs H Q _ => ∃ (p dx l : Addr) (n : Nat) (ts : List (Addr × Nat × Nat)), vs = [.ref p, nV n, .ref l] ∧ H p = some (.ins (CN K) dx []) ∧ PL H l ts ∧ Good n (ts.map (·.2)) ∧ 2 ≤ n ∧ n ≤ 32 ∧
  ∀ H', NetNew K H H' p n (ts.map (·.2)) → But p H H' → Q .non H'
abbrev nInit : List Str := ["self", "many", "ties", "house", "row"]
theorem scInit : FnScope nInit ["self", "many", "ties"] (defScope (netAt 0)) := ⟨rfl, rfl, rfl, by decide +kernel, rfl, by decide +kernel, by decide +kernel⟩
theorem ok_init {f : Addr} {fd : FuncData} (T : Tx K mg) (F : Fun K "__init__" "Net.__init__" (netAt 0) f fd) : FnOk P w K mg base CX0 5 f fd ["self", "many", "ties"] (spInit K) := by
  refine F.ok scInit (fun vs H Q E h => ?_) (fun cdv A outer s H vs Q E hr h => ?_)
  · obtain ⟨p, dx, l, n, ts, rfl, _⟩ := h
    rfl
  · obtain ⟨p, dx, l, n, ts, rfl, hp, hl, g, n2, n32, q⟩ := h
    refine ⟨_, pss_cons (ps_expr (pe_can (can_want T) hr (by rfl) pass0 (pa_cons (pv 1) (pa_cons (pv 2) pa_nil))))
      (pss_cons (ps_fld (pv 0) (pv 1) rfl)
      (pss_cons (ps_fld (pv 0) (pe_callB cr_sortedP (by rfl) T.fSorted (by decide +kernel) (pa_cons (pv 2) pa_nil)) rfl)
      (pss_cons (ps_fld (pv 0) (pe_can (can_outs T) (hr.mono (by decide)) (by rfl) pass0 (pa_cons (pv 1) (pa_cons (pv 2) pa_nil))) rfl)
      (pss_cons (ps_fld (pv 0) (pe_lc (own := [("house", 3)]) (g := gName 3) (tt := tYes) rfl scInit.nd (pi_range1 (by rfl) T.fRange (pa_cons (pv 1) pa_nil))
        (blkOk_by (N := nInit) (sc := defScope (netAt 0)) (by decide +kernel)) (fun _ _ _ _ _ => pg_name (i := 3) scInit.nd rfl (.inl rfl)) (fun _ _ _ _ _ => pts_nil)
        (fun _ _ _ _ _ => pe_can (can_pFars T) (hr.mono (by decide)) (by rfl) pass0 (pa_cons (fldK K (pv 0) rfl) (pa_cons (pv 3) pa_nil)))) rfl)
      (pss_one (ps_if (pt_val (pe_callB (cr_any rfl) (by rfl) T.fAny (by decide +kernel) (pa_cons (pe_lc (own := [("row", 4)]) (g := gName 4) (tt := tYes) rfl scInit.nd (pi_list (pe_fld (pv 0) rfl))
        (blkOk_by (N := nInit) (sc := defScope (netAt 0)) (by decide +kernel)) (fun _ _ _ _ _ => pg_name (i := 4) scInit.nd rfl (.inl rfl)) (fun _ _ _ _ _ => pts_nil)
        (fun _ _ _ _ _ => pe_cmpR (oin K) pe_non (pv 4) (by rfl))) pa_nil))) (pss_one ps_never) pss_nil)))))), ?_⟩
    have few : ts.length ≤ 256 := by have := g.len; rw [List.length_map] at this; omega
    -- want_net
    refine ⟨_, rfl, _, rfl, l, n, ts, rfl, hl, g, n2, n32, fun H1 s1 => ?_⟩
    have hp1 := s1 _ _ hp
    have hl1 := hl.same s1
    -- self.houses
    refine ⟨_, rfl, _, rfl, p, CN K, dx, [], rfl, hp1, T.cls, T.nHouses, by show 0 < 1000; decide, ?_⟩
    have b2 : But p H1 (upd H1 p (.ins (CN K) dx (putF "houses" (nV n) []))) := but_upd
    have hl2 := hl1.butIns b2 hp1
    -- self.arrows
    refine ⟨_, rfl, l, _, rfl, SqL.of hl2.at_, fun x hx => ?_, fun ys ar _ nar => ?_⟩
    · obtain ⟨t, ht, rfl⟩ := List.mem_map.mp hx
      exact ⟨t.1, _, _, rfl, hl2.tup t ht⟩
    have s3 := same_new (o := .lst ys) nar
    have hp3 := s3 _ _ (upd_same (H := H1) (a := p) (o := .ins (CN K) dx (putF "houses" (nV n) [])))
    have len1 := length_putF "houses" (nV n) []
    have len2 := length_putF "arrows" (.ref ar) (putF "houses" (nV n) [])
    refine ⟨_, rfl, p, CN K, dx, _, rfl, hp3, T.cls, T.nArrows, Nat.lt_of_le_of_lt len1 (by decide), ?_⟩
    have hl3 := hl2.same s3
    have bt3 : But p H (upd (upd H1 p (.ins (CN K) dx (putF "houses" (nV n) []))) ar (.lst ys)) := ((But.of s1).trans b2).trans (But.of s3)
    generalize upd (upd H1 p (.ins (CN K) dx (putF "houses" (nV n) []))) ar (.lst ys) = H3 at hp3 hl3 bt3
    have b4 : But p H3 (upd H3 p (.ins (CN K) dx (putF "arrows" (.ref ar) (putF "houses" (nV n) [])))) := but_upd
    have hl4 := hl3.butIns b4 hp3
    have hp4 := upd_same (H := H3) (a := p) (o := .ins (CN K) dx (putF "arrows" (.ref ar) (putF "houses" (nV n) [])))
    have bt4 := bt3.trans b4
    generalize upd H3 p (.ins (CN K) dx (putF "arrows" (.ref ar) (putF "houses" (nV n) []))) = H4 at hp4 hl4 bt4
    -- self.outs
    refine ⟨_, rfl, _, rfl, l, n, ts, rfl, hl4, g, n2, n32, fun ou ors H5 s5 nou hLL hors hnew => ?_⟩
    have nouH : H ou = none := bt4.free (ne_of_none hp4 nou).symm nou
    have orsH : ∀ r ∈ ors, H r.1 = none := fun r hr => bt4.free (ne_of_none hp4 (hnew r hr)).symm (hnew r hr)
    have hp5 := s5 _ _ hp4
    have len3 := length_putF "outs" (.ref ou) (putF "arrows" (.ref ar) (putF "houses" (nV n) []))
    refine ⟨_, rfl, p, CN K, dx, _, rfl, hp5, T.cls, T.nOuts, Nat.lt_of_le_of_lt len2 (Nat.lt_of_le_of_lt (Nat.succ_le_succ len1) (by decide)), ?_⟩
    have b6 : But p H5 (upd H5 p (.ins (CN K) dx (putF "outs" (.ref ou) (putF "arrows" (.ref ar) (putF "houses" (nV n) []))))) := but_upd
    have hLL6 := hLL.butIns b6 hp5
    have hp6 := upd_same (H := H5) (a := p) (o := .ins (CN K) dx (putF "outs" (.ref ou) (putF "arrows" (.ref ar) (putF "houses" (nV n) []))))
    have bt6 := (bt4.trans (But.of s5)).trans b6
    have hlook : (putF "outs" (.ref ou) (putF "arrows" (.ref ar) (putF "houses" (nV n) []))).lookup ("outs" : Str) = some (.ref ou) := by rw [lookup_putF, if_pos rfl]
    have hlen3 : (putF "outs" (.ref ou) (putF "arrows" (.ref ar) (putF "houses" (nV n) []))).length < 1000 := by
      have h0 : ([] : List (Str × V)).length = 0 := rfl
      omega
    generalize upd H5 p (.ins (CN K) dx (putF "outs" (.ref ou) (putF "arrows" (.ref ar) (putF "houses" (nV n) [])))) = H6 at hp6 hLL6 bt6
    -- self.fars
    refine ⟨_, rfl, (n : Int), rfl, by omega, by omega, fun D nD => ?_⟩
    have nDH : H D = none := bt6.free (ne_of_none hp6 nD).symm nD
    refine lc_range (lo := 0) (n := n) (fun i H7 => ∃ frs, Same H6 H7 ∧ LL H7 D frs ∧ frs.map (·.2) = (distsOf n (ts.map (·.2))).take i ∧ ∀ r ∈ frs, H r.1 = none) ?_ ?_ ?_
    · exact ⟨[], same_new nD, ⟨upd_same, fun r hr => by cases hr⟩, by simp, fun r hr => by cases hr⟩
    · rintro i H7 hi ⟨frs, s7, hfr, hfrs, hfn⟩
      have e0 : (0 : Int) + (i : Int) = (i : Int) := Int.zero_add _; rw [e0]
      refine ⟨rfl, _, rfl, p, CN K, dx, _, _, rfl, s7 _ _ hp6, T.cls, T.nOuts, hlook, _, rfl, ou, n, i, ors, ts.map (·.2), rfl, hLL6.same s7, hors, g, hi, n32, fun a H8 s8 na hNL => ?_⟩
      have hfr8 := hfr.same s8
      have naD : a ≠ D := (ne_of_none hfr.at_ na).symm
      refine ⟨_, hfr8.at_, ?_, frs ++ [(a, dist (rowsOf n (ts.map (·.2))) n i)], same_put (s7.trans s8) nD, hfr8.push hNL naD, ?_, ?_⟩
      · rw [List.length_map]
        have := congrArg List.length hfrs
        rw [List.length_map, List.length_take, dists_len] at this
        exact small1000 (by omega)
      · rw [map_snoc, hfrs, take_snoc (dists_get _ hi)]
      · intro r hr
        rcases List.mem_append.mp hr with h | h
        · exact hfn r h
        · rw [List.mem_singleton.mp h]
          have na6 : H6 a = none := s7.free na
          exact bt6.free (ne_of_none hp6 na6).symm na6
    · rintro H7 ⟨frs, s7, hfr, hfrs, hfn⟩
      rw [List.take_of_length_le (by rw [dists_len]; exact Nat.le_refl _)] at hfrs
      have hp7 := s7 _ _ hp6
      refine ⟨_, rfl, p, CN K, dx, _, rfl, hp7, T.cls, T.nFars, hlen3, ?_⟩
      have b8 : But p H7 (upd H7 p (.ins (CN K) dx (putF "fars" (.ref D) (putF "outs" (.ref ou) (putF "arrows" (.ref ar) (putF "houses" (nV n) [])))))) := but_upd
      have hp8 : (upd H7 p (.ins (CN K) dx (putF "fars" (.ref D) (putF "outs" (.ref ou) (putF "arrows" (.ref ar) (putF "houses" (nV n) [])))))) p = some (.ins (CN K) dx (nf n ar ou D)) := upd_same
      have hfr8 := hfr.butIns b8 hp7
      have hLL8 := (hLL6.same s7).butIns b8 hp7
      have bt8 := (bt6.trans (But.of s7)).trans b8
      generalize upd H7 p (.ins (CN K) dx (putF "fars" (.ref D) (putF "outs" (.ref ou) (putF "arrows" (.ref ar) (putF "houses" (nV n) []))))) = H8 at hp8 hfr8 hLL8 bt8
      -- none is left out
      refine ⟨_, rfl, p, CN K, dx, _, _, rfl, hp8, T.cls, T.nFars, nf_fars _ _ _ _, D, rfl, ⟨_, SqL.of hfr8.at_⟩, fun B nB => ?_⟩
      refine lc_list (K := K) (a := D) (xs := frs.map fun r => V.ref r.1) (fun j H9 => Same H8 H9 ∧ H9 B = some (.lst ((List.replicate j false).map V.bl))) ?_ ?_ ?_ ?_
      · exact ⟨same_new nB, upd_same⟩
      · rintro j H9 _ ⟨s9, _⟩
        exact s9.seq (SqL.of hfr8.at_)
      · rintro j x H9 hx ⟨s9, hB⟩
        obtain ⟨r, hr, rfl⟩ := map_at hx
        have hrow := (hfr8.same s9).row r (List.mem_of_getElem? hr)
        have hj : j < frs.length := (List.getElem?_eq_some_iff.mp hr).1
        have hfl : frs.length = n := by
          have := congrArg List.length hfrs
          rwa [List.length_map, dists_len] at this
        refine ⟨rfl, _, rfl, r.1, _, rfl, .inl (SqL.of hrow), rfl, flat_nat _, _, hB, ?_, same_put s9 nB, ?_⟩
        · rw [List.length_map, List.length_replicate]
          exact small1000 (by omega)
        · show (upd H9 B (.lst (_ ++ [V.bl (inV .non (r.2.map nV))]))) B = _
          rw [upd_same, inV_none, falses_snoc]
      · rintro H9 ⟨s9, hB⟩
        refine ⟨B, _, rfl, SqL.of hB, _, rfl, ?_⟩
        rw [falses_any]
        refine iteF ?_
        exact q H9 ⟨dx, ar, ou, D, ors, frs, s9 _ _ hp8, hLL8.same s9, hors, hfr8.same s9, hfrs, nouH, nDH, orsH, hfn⟩ (bt8.trans (But.of s9))
end
end NW
-- NwDraw
set_option Elab.async false
set_option linter.all false
set_option maxRecDepth 100000
set_option maxHeartbeats 4200000
namespace NW
open PySem PySem.Spec L2 PyProof.Rows
section
variable {P : Program} {w : World} {base : Heap} {K : PySem.W.Frag} {mg : Str → Option Value}
/-! ## _law_pot, _law_digit, _law_some -/
def spPot (K : PySem.W.Frag) : Sp := fun vs H Q _ => ∃ (a : Addr) (ns : List Int) (k : Nat), vs = [.ref a, nV k] ∧ SqL K H a (ns.map V.int) ∧ k ≤ 1 ∧
  ∀ H' p, Same H H' → H p = none → Pot H' p → Q (.ref p) H'
theorem scPot : FnScope ["_law_script", "_law_k", "_law_cell"] ["_law_script", "_law_k"] (defScope (top 30)) := ⟨rfl, rfl, rfl, by decide +kernel, rfl, by decide +kernel, by decide +kernel⟩
theorem ok_pot {f : Addr} {fd : FuncData} (T : Tx K mg) (F : Fun K "_law_pot" "_law_pot" (top 30) f fd) : FnOk P w K mg base CX0 1 f fd ["_law_script", "_law_k"] (spPot K) := by
  refine F.ok scPot (fun vs H Q E h => ?_) (fun cdv A outer s H vs Q E hr h => ?_)
  · obtain ⟨_, _, _, rfl, _⟩ := h
    rfl
  · obtain ⟨a, ns, k, rfl, hS, hk, q⟩ := h
    refine ⟨_, pss_cons (ps_set (i := 2) scPot.nd rfl (.inl rfl) pe_int)
      (pss_cons (ps_if (pt_cmpR op_lt (pv 1) (pe_callB call_len_seq (by rfl) T.fLen PySem.boot_len (pa_cons (pv 0) pa_nil)) (nomark _))
        (pss_one (ps_set (i := 2) scPot.nd rfl (.inl rfl) (pe_ix ix_list (pv 0) (pv 1) (fun _ _ => rfl)))) pss_nil)
      (pss_one (ps_ret (pe_lst (pa_cons (pe_callB (call_max2 rfl) (by rfl) T.fMax (by decide +kernel) (pa_cons pe_int (pa_cons (pe_op op_sub (pv 2) (pe_op op_pow pe_int pe_int)) pa_nil)))
        (pa_cons (pe_op op_mod (pe_op op_pow (pe_op op_add (pe_op op_mod (pv 2) pe_int) (pe_op op_mul pe_int (pe_op op_add (pv 1) pe_int))) pe_int) pe_int) pa_nil)))))), ?_⟩
    refine ⟨_, rfl, _, rfl, a, _, rfl, .inl hS, _, _, rfl, rfl, _, rfl, ite2 (fun c => ?_) (fun c => ?_)⟩
    · have hl : k < ns.length := by
        have := of_decide_eq_true c
        rw [List.length_map] at this
        omega
      refine ⟨_, rfl, _, rfl, a, _, _, _, rfl, rfl, hS, atI_nat (j := k) (v := .int ns[k]) (by rw [List.getElem?_map, List.getElem?_eq_getElem hl]; rfl), ?_⟩
      refine ⟨_, rfl, _, _, rfl, rfl, ⟨by decide, by decide, by decide⟩, _, _, rfl, rfl, _, _, rfl, ?_⟩
      refine ⟨_, rfl, _, _, rfl, rfl, (show (0 : Int) < 2147483629 by decide), _, rfl, _, _, rfl, rfl, _, _, rfl, rfl, .inl ⟨by decide, by decide⟩, _, _, rfl, rfl, _, _, rfl, rfl, ⟨by decide, by decide, ?_⟩, _, _, rfl, rfl, (show (0 : Int) < 2147483647 by decide), ?_⟩
      · show (ns[k] % 2147483629 + 7919 * ((k : Int) + 1)).natAbs < 2 ^ 64
        omega
      · refine ⟨by show 2 ≤ sizeLine; decide, fun p hp => ?_⟩
        exact q _ p (same_new hp) hp ⟨_, _, upd_same⟩
    · refine ⟨_, rfl, _, _, rfl, rfl, ⟨by decide, by decide, by decide⟩, _, _, rfl, rfl, _, _, rfl, ?_⟩
      refine ⟨_, rfl, _, _, rfl, rfl, (show (0 : Int) < 2147483629 by decide), _, rfl, _, _, rfl, rfl, _, _, rfl, rfl, .inl ⟨by decide, by decide⟩, _, _, rfl, rfl, _, _, rfl, rfl, ⟨by decide, by decide, ?_⟩, _, _, rfl, rfl, (show (0 : Int) < 2147483647 by decide), ?_⟩
      · show ((0 : Int) % 2147483629 + 7919 * ((k : Int) + 1)).natAbs < 2 ^ 64
        omega
      · refine ⟨by show 2 ≤ sizeLine; decide, fun p hp => ?_⟩
        exact q _ p (same_new hp) hp ⟨_, _, upd_same⟩
theorem can_pot (T : Tx K mg) : Can P w K mg base CX0 1 "_law_pot" ["_law_script", "_law_k"] (spPot K) :=
  T.can 9 rfl rfl (fun _ _ _ _ _ _ us hl => match us, hl with | [_, _], _ => rfl) fun _ _ F => ok_pot T F
/-- a digit below n -/
def spDigit : Sp := fun vs H Q _ => ∃ (p : Addr) (n : Nat), vs = [.ref p, nV n] ∧ Pot H p ∧ 0 < n ∧ n ≤ 1000 ∧ ∀ (d : Nat) H', d < n → Pot H' p → But p H H' → Q (nV d) H'
theorem scDigit : FnScope ["_law_pot_here", "_law_many", "_law_digit_here"] ["_law_pot_here", "_law_many"] (defScope (top 31)) := ⟨rfl, rfl, rfl, by decide +kernel, rfl, by decide +kernel, by decide +kernel⟩
theorem int_nat {i : Int} (h : 0 ≤ i) : V.int i = nV i.toNat := by rw [nV, Int.toNat_of_nonneg h]
theorem ok_digit {f : Addr} {fd : FuncData} (T : Tx K mg) (F : Fun K "_law_digit" "_law_digit" (top 31) f fd) : FnOk P w K mg base CX0 1 f fd ["_law_pot_here", "_law_many"] spDigit := by
  refine F.ok scDigit (fun vs H Q E h => ?_) (fun cdv A outer s H vs Q E hr h => ?_)
  · obtain ⟨p, n, rfl, _⟩ := h
    rfl
  · obtain ⟨p, n, rfl, ⟨a, b, hp⟩, n0, n1, q⟩ := h
    have nz : (0 : Int) < (n : Int) := by omega
    refine ⟨_, pss_cons (ps_if (pt_cmpR op_gt (pe_ix ix_list (pv 0) pe_int (fun _ _ => rfl)) pe_int (nomark _))
        (pss_cons (ps_set (i := 2) scDigit.nd rfl (.inl rfl) (pe_op op_mod (pe_ix ix_list (pv 0) pe_int (fun _ _ => rfl)) (pv 1)))
        (pss_cons (ps_asg (pe_op op_fdiv (pe_ix ix_list (pv 0) pe_int (fun _ _ => rfl)) (pv 1)) (pg_sub (pv 0) pe_int set_list))
        (pss_one (ps_ret (pv 2))))) pss_nil)
      (pss_cons (ps_asg (pe_op op_mod (pe_op op_add (pe_op op_mul (pe_ix ix_list (pv 0) pe_int (fun _ _ => rfl)) pe_int) pe_int) pe_int) (pg_sub (pv 0) pe_int set_list))
      (pss_one (ps_ret (pe_op op_mod (pe_op op_fdiv (pe_op op_mod (pe_op op_pow (pe_ix ix_list (pv 0) pe_int (fun _ _ => rfl)) pe_int) pe_int) pe_int) (pv 1))))), ?_⟩
    have hS : SqL K H p [.int a, .int b] := SqL.of hp
    refine ⟨_, rfl, p, _, _, _, rfl, rfl, hS, atI_nat (j := 0) rfl, _, _, rfl, rfl, _, rfl, ite2 (fun c => ?_) (fun c => ?_)⟩
    · refine ⟨_, rfl, p, _, _, _, rfl, rfl, hS, atI_nat (j := 0) rfl, _, rfl, _, _, rfl, rfl, nz, ?_⟩
      refine ⟨_, rfl, p, _, _, _, rfl, rfl, hS, atI_nat (j := 0) rfl, _, rfl, _, _, rfl, rfl, ⟨nz, by omega⟩, ?_⟩
      refine ⟨_, rfl, p, _, _, 0, rfl, rfl, hp, rfl, ?_⟩
      refine ⟨_, rfl, ?_⟩
      have m0 : 0 ≤ a % (n : Int) := Int.emod_nonneg _ (by omega)
      have m1 : a % (n : Int) < n := Int.emod_lt_of_pos _ nz
      show Q (.int (a % (n : Int))) _
      rw [int_nat m0]
      exact q _ _ (by omega) ⟨_, _, upd_same⟩ but_upd
    · refine ⟨_, rfl, p, _, _, _, rfl, rfl, hS, atI_nat (j := 1) rfl, _, _, rfl, rfl, .inr ⟨by decide, by decide⟩, _, _, rfl, rfl, _, _, rfl, rfl, (show (0 : Int) < 2147483647 by decide), ?_⟩
      refine ⟨_, rfl, p, _, _, 1, rfl, rfl, hp, rfl, ?_⟩
      refine ⟨_, rfl, p, _, _, _, rfl, rfl, SqL.of upd_same, atI_nat (j := 1) rfl, _, _, rfl, rfl, ⟨by decide, by decide, ?_⟩, _, _, rfl, rfl, (show (0 : Int) < 2147483629 by decide), _, _, rfl, rfl, ⟨by decide, by decide⟩, _, rfl, _, _, rfl, rfl, nz, ?_⟩
      · show ((b * 48271 + 11) % 2147483647).natAbs < 2 ^ 64
        omega
      · have m0 : 0 ≤ ((b * 48271 + 11) % 2147483647) ^ (5 : Int).toNat % 2147483629 / 8 % (n : Int) := Int.emod_nonneg _ (by omega)
        have m1 : ((b * 48271 + 11) % 2147483647) ^ (5 : Int).toNat % 2147483629 / 8 % (n : Int) < n := Int.emod_lt_of_pos _ nz
        show Q (.int (((b * 48271 + 11) % 2147483647) ^ (5 : Int).toNat % 2147483629 / 8 % (n : Int))) _
        rw [int_nat m0]
        exact q _ _ (by omega) ⟨_, _, upd_same⟩ but_upd
theorem can_digit (T : Tx K mg) : Can P w K mg base CX0 1 "_law_digit" ["_law_pot_here", "_law_many"] spDigit :=
  T.can 10 rfl rfl (fun _ _ _ _ _ _ us hl => match us, hl with | [_, _], _ => rfl) fun _ _ F => ok_digit T F
end
end NW
-- NwMeth
set_option Elab.async false
set_option linter.all false
set_option maxRecDepth 100000
set_option maxHeartbeats 4200000
namespace NW
open PySem PySem.Spec L2 PyProof.Rows
/-! ## want_house, out, far, span, good -/
theorem house_nat {n : Nat} {x : V} (h : house (n : Int) x = true) : ∃ a : Nat, x = nV a ∧ a < n := by
  cases x with
  | int i =>
    have h1 : (decide (0 ≤ i) && decide (i < (n : Int))) = true := h
    rw [Bool.and_eq_true] at h1
    obtain ⟨h2, h3⟩ := h1
    have h2 := of_decide_eq_true h2
    have h3 := of_decide_eq_true h3
    exact ⟨i.toNat, int_nat h2, by omega⟩
  | _ => cases h
theorem nat_house {n a : Nat} (h : a < n) : house (n : Int) (nV a) = true := house_in (by omega) (by omega)
def distAt (n : Nat) (T : Ties) (a b : Nat) : Nat := (dist (rowsOf n T) n a).getD b 0
theorem LL.at {H : Hp} {l : Addr} {rs : List (Addr × List Nat)} (h : LL H l rs) {ls : List (List Nat)} (e : rs.map (·.2) = ls) {v : Nat} {row : List Nat} (hv : ls[v]? = some row) :
    ∃ a : Addr, (rs.map fun r => V.ref r.1)[v]? = some (.ref a) ∧ NL H a row := by
  have h1 : (rs.map (·.2))[v]? = some row := by rw [e]; exact hv
  rw [List.getElem?_map] at h1
  cases h2 : rs[v]? with
  | none => rw [h2] at h1; cases h1
  | some r =>
    rw [h2] at h1
    have e3 : r.2 = row := Option.some.inj h1
    exact ⟨r.1, by rw [List.getElem?_map, h2]; rfl, by rw [← e3]; exact h.row r (List.mem_of_getElem? h2)⟩
theorem dist_at {n : Nat} {T : Ties} {a b : Nat} (ha : a < n) (hb : b < n) : ((dist (rowsOf n T) n a).map nV)[b]? = some (nV (distAt n T a b)) := by
  have hl : b < (dist (rowsOf n T) n a).length := by rw [dist_len ha]; exact hb
  rw [nl_at hl]
  unfold distAt
  rw [getD_at hl]
section
variable {P : Program} {w : World} {base : Heap} {K : PySem.W.Frag} {mg : Str → Option Value}
def spWantHouse (K : PySem.W.Frag) : Sp := fun vs H Q E => ∃ (p : Addr) (n : Nat) (T : Ties) (x : V), vs = [.ref p, x] ∧ NetAt K H p n T ∧ Thing H x ∧ (house n x = true → Q .non H) ∧ (house n x = false → E (.ref (CH K)) none H)
theorem scWantHouse : FnScope ["self", "thing"] ["self", "thing"] (defScope (netAt 3)) := ⟨rfl, rfl, rfl, by decide +kernel, rfl, by decide +kernel, by decide +kernel⟩
theorem ok_wantHouse {f : Addr} {fd : FuncData} (T : Tx K mg) (F : Fun K "want_house" "Net.want_house" (netAt 3) f fd) : FnOk P w K mg base (L2.CX P w) 3 f fd ["self", "thing"] (spWantHouse K) := by
  refine F.okX scWantHouse (fun vs H Q E h => ?_) (fun cdv A outer s H vs Q E hr h => ?_)
  · obtain ⟨p, n, G, x, rfl, _⟩ := h
    rfl
  · obtain ⟨p, n, G, x, rfl, N, hx, q, e⟩ := h
    obtain ⟨xP, kP, bP, tP⟩ := He.exc_ok (T.says.1.fact 67 (f := .exc "NoHouse"))
    refine ⟨_, pss_one (ps_if (pt_not (pt_val (pe_can (can_house T) hr (by rfl) pass0 (pa_cons (pe_fld (pv 0) rfl) (pa_cons (pv 1) pa_nil)))))
      (pss_one (ps_raise rfl (takes_of rfl rfl rfl rfl) (pmk_own PySem.F.excBase_ValueError xP (T.glo 26) kP (raises_own bP tP) rfl))) pss_nil), ?_⟩
    obtain ⟨dx, ar, ou, fr, ors, frs, h1, h2, h3, h4, h5⟩ := N.ex
    refine ⟨_, rfl, p, CN K, dx, _, _, rfl, h1, T.cls, T.nHouses, nf_houses _ _ _ _, _, rfl, (n : Int), x, rfl, hx, _, rfl, ?_⟩
    cases c : house (n : Int) x with
    | true => exact iteF (q c)
    | false => exact iteT (e c)
theorem canM_wantHouse (T : Tx K mg) : CanM P w K mg base (L2.CX P w) 3 (CN K) "want_house" ["self", "thing"] (spWantHouse K) :=
  T.canM 26 61 rfl rfl (fun _ _ _ _ _ _ us hl => match us, hl with | [_, _], _ => rfl) fun _ _ F => ok_wantHouse T F
def spOut (K : PySem.W.Frag) : Sp := fun vs H Q E => ∃ (p : Addr) (n : Nat) (T : Ties) (x : V), vs = [.ref p, x] ∧ NetAt K H p n T ∧ Thing H x ∧
  (∀ h : Nat, x = nV h → h < n → ∀ H' a, Same H H' → H a = none → NL H' a (rowOf n T h) → Q (.ref a) H') ∧ (house n x = false → E (.ref (CH K)) none H)
theorem nm_want : (nf n ar ou fr).lookup ("want_house" : Str) = none := nf_no _ _ _ _ (by decide +kernel) (by decide +kernel) (by decide +kernel) (by decide +kernel)
theorem scOut : FnScope ["self", "house"] ["self", "house"] (defScope (netAt 4)) := ⟨rfl, rfl, rfl, by decide +kernel, rfl, by decide +kernel, by decide +kernel⟩
theorem ok_out {f : Addr} {fd : FuncData} (T : Tx K mg) (F : Fun K "out" "Net.out" (netAt 4) f fd) : FnOk P w K mg base (L2.CX P w) 4 f fd ["self", "house"] (spOut K) := by
  refine F.okX scOut (fun vs H Q E h => ?_) (fun cdv A outer s H vs Q E hr h => ?_)
  · obtain ⟨p, n, G, x, rfl, _⟩ := h
    rfl
  · obtain ⟨p, n, G, x, rfl, N, hx, q, e⟩ := h
    refine ⟨_, pss_cons (ps_expr (pe_canM (E := E) (pv 0) T.cls (canM_wantHouse T) hr (passes_call (W := fun cls d _ H => E cls d H) (takes_of rfl rfl rfl rfl) (fun _ _ _ _ h => h)) (pa_cons (pv 1) pa_nil)))
      (pss_one (ps_ret (pe_callTy call_list_of (by rfl) T.fList (by decide +kernel) (pa_cons (pe_ix ix_list (pe_fld (pv 0) rfl) (pv 1) (fun _ _ => rfl)) pa_nil)))), ?_⟩
    obtain ⟨dx, ar, ou, fr, ors, frs, h1, h2, h3, h4, h5⟩ := N.ex
    refine ⟨_, rfl, p, dx, _, rfl, h1, nm_want, _, rfl, p, n, G, x, rfl, N, hx, fun c => ?_, e⟩
    obtain ⟨a, rfl, ha⟩ := house_nat c
    obtain ⟨ra, hra, hrow⟩ := h2.at h3 (rows_get G ha)
    refine ⟨_, rfl, p, CN K, dx, _, _, rfl, h1, T.cls, T.nOuts, nf_outs _ _ _ _, _, rfl, ou, _, _, _, rfl, rfl, SqL.of h2.at_, atI_nat hra, ra, _, rfl, .inl (SqL.of hrow), fun l nl => ?_⟩
    exact q a rfl ha _ l (same_new nl) nl upd_same
theorem canM_out (T : Tx K mg) : CanM P w K mg base (L2.CX P w) 4 (CN K) "out" ["self", "house"] (spOut K) :=
  T.canM 27 62 rfl rfl (fun _ _ _ _ _ _ us hl => match us, hl with | [_, _], _ => rfl) fun _ _ F => ok_out T F
def spFar (K : PySem.W.Frag) : Sp := fun vs H Q E => ∃ (p : Addr) (n : Nat) (T : Ties) (x y : V), vs = [.ref p, x, y] ∧ NetAt K H p n T ∧ Thing H x ∧ Thing H y ∧
  (∀ a b : Nat, x = nV a → y = nV b → a < n → b < n → Q (nV (distAt n T a b)) H) ∧ (house n x = false ∨ house n y = false → E (.ref (CH K)) none H)
theorem scFar : FnScope ["self", "one", "other"] ["self", "one", "other"] (defScope (netAt 5)) := ⟨rfl, rfl, rfl, by decide +kernel, rfl, by decide +kernel, by decide +kernel⟩
theorem ok_far {f : Addr} {fd : FuncData} (T : Tx K mg) (F : Fun K "far" "Net.far" (netAt 5) f fd) : FnOk P w K mg base (L2.CX P w) 4 f fd ["self", "one", "other"] (spFar K) := by
  refine F.okX scFar (fun vs H Q E h => ?_) (fun cdv A outer s H vs Q E hr h => ?_)
  · obtain ⟨p, n, G, x, y, rfl, _⟩ := h
    rfl
  · obtain ⟨p, n, G, x, y, rfl, N, hx, hy, q, e⟩ := h
    refine ⟨_, pss_cons (ps_expr (pe_canM (E := E) (pv 0) T.cls (canM_wantHouse T) hr (passes_call (W := fun cls d _ H => E cls d H) (takes_of rfl rfl rfl rfl) (fun _ _ _ _ h => h)) (pa_cons (pv 1) pa_nil)))
      (pss_cons (ps_expr (pe_canM (E := E) (pv 0) T.cls (canM_wantHouse T) hr (passes_call (W := fun cls d _ H => E cls d H) (takes_of rfl rfl rfl rfl) (fun _ _ _ _ h => h)) (pa_cons (pv 2) pa_nil)))
      (pss_one (ps_ret (pe_ix ix_list (pe_ix ix_list (pe_fld (pv 0) rfl) (pv 1) (fun _ _ => rfl)) (pv 2) (fun _ _ => rfl))))), ?_⟩
    obtain ⟨dx, ar, ou, fr, ors, frs, h1, h2, h3, h4, h5⟩ := N.ex
    refine ⟨_, rfl, p, dx, _, rfl, h1, nm_want, _, rfl, p, n, G, x, rfl, N, hx, fun c => ?_, fun c => e (.inl c)⟩
    refine ⟨_, rfl, p, dx, _, rfl, h1, nm_want, _, rfl, p, n, G, y, rfl, N, hy, fun c2 => ?_, fun c => e (.inr c)⟩
    obtain ⟨a, rfl, ha⟩ := house_nat c
    obtain ⟨b, rfl, hb⟩ := house_nat c2
    obtain ⟨ra, hra, hrow⟩ := h4.at h5 (dists_get G ha)
    refine ⟨_, rfl, p, CN K, dx, _, _, rfl, h1, T.cls, T.nFars, nf_fars _ _ _ _, _, rfl, fr, _, _, _, rfl, rfl, SqL.of h4.at_, atI_nat hra, _, rfl, ra, _, _, _, rfl, rfl, SqL.of hrow, atI_nat (dist_at ha hb), ?_⟩
    exact q a b rfl rfl ha hb
theorem canM_far (T : Tx K mg) : CanM P w K mg base (L2.CX P w) 4 (CN K) "far" ["self", "one", "other"] (spFar K) :=
  T.canM 28 63 rfl rfl (fun _ _ _ _ _ _ us hl => match us, hl with | [_, _, _], _ => rfl) fun _ _ F => ok_far T F
def spanOf (n : Nat) (T : Ties) : Nat := mx ((distsOf n T).map mx)
def spSpan (K : PySem.W.Frag) : Sp := fun vs H Q _ => ∃ (p : Addr) (n : Nat) (T : Ties), vs = [.ref p] ∧ NetAt K H p n T ∧ 1 ≤ n ∧ n ≤ 32 ∧ ∀ H', Same H H' → Q (nV (spanOf n T)) H'
theorem scSpan : FnScope ["self", "row"] ["self"] (defScope (netAt 6)) := ⟨rfl, rfl, rfl, by decide +kernel, rfl, by decide +kernel, by decide +kernel⟩
theorem dists_mem {n : Nat} {T : Ties} (n1 : 1 ≤ n) {row : List Nat} (h : row ∈ distsOf n T) : 0 < row.length := by
  obtain ⟨i, hi, e⟩ := List.mem_map.mp h
  rw [← e, dist_len (List.mem_range.mp hi)]
  omega
theorem ok_span {f : Addr} {fd : FuncData} (T : Tx K mg) (F : Fun K "span" "Net.span" (netAt 6) f fd) : FnOk P w K mg base CX0 1 f fd ["self"] (spSpan K) := by
  refine F.ok scSpan (fun vs H Q E h => ?_) (fun cdv A outer s H vs Q E hr h => ?_)
  · obtain ⟨p, n, G, rfl, _⟩ := h
    rfl
  · obtain ⟨p, n, G, rfl, N, n1, n32, q⟩ := h
    refine ⟨_, pss_one (ps_ret (pe_callB (cr_max rfl) (by rfl) T.fMax (by decide +kernel) (pa_cons (pe_lc (own := [("row", 1)]) (g := gName 1) (tt := tYes) rfl scSpan.nd (pi_list (pe_fld (pv 0) rfl))
      (blkOk_by (N := ["self", "row"]) (sc := defScope (netAt 6)) (by decide +kernel)) (fun _ _ _ _ _ => pg_name (i := 1) scSpan.nd rfl (.inl rfl)) (fun _ _ _ _ _ => pts_nil)
      (fun _ _ _ _ _ => pe_callB (cmax K rfl) (by rfl) T.fMax (by decide +kernel) (pa_cons (pv 1) pa_nil))) pa_nil))), ?_⟩
    obtain ⟨dx, ar, ou, fr, ors, frs, h1, h2, h3, h4, h5⟩ := N.ex
    have hfl : frs.length = n := by
      have := congrArg List.length h5
      rwa [List.length_map, dists_len] at this
    refine ⟨_, rfl, p, CN K, dx, _, _, rfl, h1, T.cls, T.nFars, nf_fars _ _ _ _, fr, rfl, ⟨_, SqL.of h4.at_⟩, fun D nD => ?_⟩
    refine lc_list (K := K) (a := fr) (xs := frs.map fun r => V.ref r.1) (fun j H2 => Same H H2 ∧ NL H2 D (((distsOf n G).take j).map mx)) ?_ ?_ ?_ ?_
    · exact ⟨same_new nD, upd_same⟩
    · rintro j H2 _ ⟨s2, _⟩
      exact s2.seq (SqL.of h4.at_)
    · rintro j x H2 hx ⟨s2, hD⟩
      obtain ⟨r, hr, rfl⟩ := map_at hx
      have hrm := List.mem_of_getElem? hr
      have hrow := (h4.same s2).row r hrm
      have hj : j < frs.length := (List.getElem?_eq_some_iff.mp hr).1
      have hrd : (distsOf n G)[j]? = some r.2 := by rw [← h5, List.getElem?_map, hr]; rfl
      refine ⟨rfl, _, rfl, r.1, r.2.map fun (x : Nat) => (x : Int), rfl, by rw [← map_nV_int]; exact SqL.of hrow, ?_, fun m hm1 hm2 => ?_⟩
      · rw [List.length_map]
        exact dists_mem n1 (List.mem_of_getElem? hrd)
      · have em := mx_is hm1 hm2
        subst em
        refine ⟨_, hD, ?_, same_put s2 nD, ?_⟩
        · rw [List.length_map, List.length_map, List.length_take, dists_len]
          exact small1000 (by omega)
        · rw [NL, upd_same, take_snoc hrd, map_snoc, map_snoc]
    · rintro H2 ⟨s2, hD⟩
      rw [List.length_map, List.take_of_length_le (by rw [dists_len]; omega)] at hD
      refine ⟨D, ((distsOf n G).map mx).map fun (x : Nat) => (x : Int), rfl, by rw [← map_nV_int]; exact SqL.of hD, ?_, fun m hm1 hm2 => ?_⟩
      · rw [List.length_map, List.length_map, dists_len]; omega
      · have em := mx_is hm1 hm2
        subst em
        exact q H2 s2
theorem canM_span (T : Tx K mg) : CanM P w K mg base CX0 1 (CN K) "span" ["self"] (spSpan K) :=
  T.canM 29 64 rfl rfl (fun _ _ _ _ _ _ us hl => match us, hl with | [_], _ => rfl) fun _ _ F => ok_span T F
/-- the good houses -/
def goodOf (n : Nat) (T : Ties) (h m : Nat) : List Nat := (rowOf n T h).filter fun u => decide (distAt n T u m < distAt n T h m)
def spGood (K : PySem.W.Frag) : Sp := fun vs H Q E => ∃ (p : Addr) (n : Nat) (T : Ties) (x y : V), vs = [.ref p, x, y] ∧ NetAt K H p n T ∧ n ≤ 32 ∧ Thing H x ∧ Thing H y ∧
  (∀ a b : Nat, x = nV a → y = nV b → a < n → b < n → ∀ H' l, Same H H' → H l = none → NL H' l (goodOf n T a b) → Q (.ref l) H') ∧ (house n x = false ∨ house n y = false → E (.ref (CH K)) none H)
abbrev nGood : List Str := ["self", "house", "home", "far", "other"]
theorem nm_far : (nf n ar ou fr).lookup ("far" : Str) = none := nf_no _ _ _ _ (by decide +kernel) (by decide +kernel) (by decide +kernel) (by decide +kernel)
theorem scGood : FnScope nGood ["self", "house", "home"] (defScope (netAt 7)) := ⟨rfl, rfl, rfl, by decide +kernel, rfl, by decide +kernel, by decide +kernel⟩
theorem ok_good {f : Addr} {fd : FuncData} (T : Tx K mg) (F : Fun K "good" "Net.good" (netAt 7) f fd) : FnOk P w K mg base (L2.CX P w) 5 f fd ["self", "house", "home"] (spGood K) := by
  refine F.okX scGood (fun vs H Q E h => ?_) (fun cdv A outer s H vs Q E hr h => ?_)
  · obtain ⟨p, n, G, x, y, rfl, _⟩ := h
    rfl
  · obtain ⟨p, n, G, x, y, rfl, N, n32, hx, hy, q, e⟩ := h
    refine ⟨_, pss_cons (ps_set (i := 3) scGood.nd rfl (.inr rfl) (pe_canM (E := E) (pv 0) T.cls (canM_far T) hr (passes_call (W := fun cls d _ H => E cls d H) (takes_of rfl rfl rfl rfl) (fun _ _ _ _ h => h)) (pa_cons (pv 1) (pa_cons (pv 2) pa_nil))))
      (pss_one (ps_ret (pe_lc (own := [("other", 4)]) (g := gName 4) rfl scGood.nd (pi_list (pe_ix ix_list (pe_fld (pv 0) rfl) (pv 1) (fun _ _ => rfl)))
        (blkOk_by (N := nGood) (sc := defScope (netAt 7)) (by decide +kernel)) (fun _ _ _ _ _ => pg_name (i := 4) scGood.nd rfl (.inl rfl))
        (fun _ _ _ _ _ => pts_one (pt_cmpR op_lt (pe_ix (ixL K) (pe_ix (ixL K) (fldK K (pv 0) rfl) (pv 4) (fun _ _ => rfl)) (pv 2) (fun _ _ => rfl)) (pv 3) (nomark _))) (fun _ _ _ _ _ => pv 4)))), ?_⟩
    obtain ⟨dx, ar, ou, fr, ors, frs, h1, h2, h3, h4, h5⟩ := N.ex
    refine ⟨_, rfl, p, dx, _, rfl, h1, nm_far, _, rfl, _, rfl, p, n, G, x, y, rfl, N, hx, hy, fun a b ea eb ha hb => ?_, e⟩
    subst ea eb
    obtain ⟨ra, hra, hrow⟩ := h2.at h3 (rows_get G ha)
    refine ⟨_, rfl, p, CN K, dx, _, _, rfl, h1, T.cls, T.nOuts, nf_outs _ _ _ _, _, rfl, ou, _, _, _, rfl, rfl, SqL.of h2.at_, atI_nat hra, ra, rfl, ⟨_, SqL.of hrow⟩, fun D nD => ?_⟩
    refine lc_list (K := K) (a := ra) (xs := (rowOf n G a).map nV) (fun j H2 => Same H H2 ∧ NL H2 D (((rowOf n G a).take j).filter fun u => decide (distAt n G u b < distAt n G a b))) ?_ ?_ ?_ ?_
    · exact ⟨same_new nD, upd_same⟩
    · rintro j H2 _ ⟨s2, _⟩
      exact s2.seq (SqL.of hrow)
    · rintro j x H2 hx ⟨s2, hD⟩
      obtain ⟨u, hu, rfl⟩ := map_at hx
      have hun : u < n := rowOf_lt (by omega) (List.mem_of_getElem? hu)
      obtain ⟨rb, hrb, hrow2⟩ := (h4.same s2).at h5 (dists_get G hun)
      have hfs := filter_snoc (fun u => decide (distAt n G u b < distAt n G a b)) hu
      have hrl : (rowOf n G a).length ≤ n := by
        have := L2.nat_nodup_len (rowOf n G a) (List.range n) (rowOf_nodup ha) fun u hu => List.mem_range.mpr (rowOf_lt (by omega) hu)
        rwa [List.length_range] at this
      refine ⟨rfl, _, rfl, p, CN K, dx, _, _, rfl, s2 _ _ h1, T.cls, T.nFars, nf_fars _ _ _ _, _, rfl, fr, _, _, _, rfl, rfl, SqL.of (s2 _ _ h4.at_), atI_nat hrb, _, rfl, rb, _, _, _, rfl, rfl, SqL.of hrow2, atI_nat (dist_at hun hb), _, rfl, _, _, rfl, rfl, _, rfl, ?_⟩
      by_cases c : distAt n G u b < distAt n G a b
      · rw [decide_eq_true (by omega)]
        refine iteT ⟨_, rfl, _, hD, ?_, same_put s2 nD, ?_⟩
        · rw [List.length_map]
          have a1 := filter_take_len (fun u => decide (distAt n G u b < distAt n G a b)) (rowOf n G a) j
          exact small1000 (by omega)
        · rw [NL, upd_same, hfs, if_pos (decide_eq_true c), map_snoc]
      · rw [decide_eq_false (by omega)]
        refine iteF ⟨s2, ?_⟩
        rw [hfs, if_neg (by rw [decide_eq_false c]; exact Bool.false_ne_true), List.append_nil]
        exact hD
    · rintro H2 ⟨s2, hD⟩
      rw [List.length_map, List.take_length] at hD
      exact q a b rfl rfl ha hb H2 D s2 nD hD
theorem canM_good (T : Tx K mg) : CanM P w K mg base (L2.CX P w) 5 (CN K) "good" ["self", "house", "home"] (spGood K) :=
  T.canM 30 65 rfl rfl (fun _ _ _ _ _ _ us hl => match us, hl with | [_, _, _], _ => rfl) fun _ _ F => ok_good T F
end
end NW
-- NwTells
set_option Elab.async false
set_option linter.all false
set_option maxRecDepth 100000
set_option maxHeartbeats 4200000
namespace NW
open PySem PySem.Spec L2 PyProof.Rows
/-! ## _law_tells -/
theorem row_len {n : Nat} {T : Ties} {a : Nat} (ha : a < n) : (rowOf n T a).length ≤ n := by
  have := L2.nat_nodup_len (rowOf n T a) (List.range n) (rowOf_nodup ha) fun u hu => List.mem_range.mpr (rowOf_lt (by omega) hu)
  rwa [List.length_range] at this
section
variable {P : Program} {w : World} {base : Heap} {K : PySem.W.Frag} {mg : Str → Option Value}
theorem nm_out : (nf n ar ou fr).lookup ("out" : Str) = none := nf_no _ _ _ _ (by decide +kernel) (by decide +kernel) (by decide +kernel) (by decide +kernel)
theorem nm_good : (nf n ar ou fr).lookup ("good" : Str) = none := nf_no _ _ _ _ (by decide +kernel) (by decide +kernel) (by decide +kernel) (by decide +kernel)
theorem nm_span : (nf n ar ou fr).lookup ("span" : Str) = none := nf_no _ _ _ _ (by decide +kernel) (by decide +kernel) (by decide +kernel) (by decide +kernel)
def spTells (K : PySem.W.Frag) : Sp := fun vs H Q _ => ∃ (p l : Addr) (n : Nat) (ts : List (Addr × Nat × Nat)), vs = [.ref p, nV n, .ref l] ∧ NetAt K H p n (ts.map (·.2)) ∧ PL H l ts ∧ Good n (ts.map (·.2)) ∧ 2 ≤ n ∧ n ≤ 32 ∧ ∀ H', Same H H' → Q (.bl true) H'
abbrev nTells : List Str := ["_law_net_here", "_law_many", "_law_ties", "_law_leads_here", "_law_house", "_law_fars_here", "_law_home", "_law_told", "_law_near", "_law_other", "_law_row"]
theorem scTells : FnScope nTells ["_law_net_here", "_law_many", "_law_ties"] (defScope (top 40)) := ⟨rfl, rfl, rfl, by decide +kernel, rfl, by decide +kernel, by decide +kernel⟩
theorem ok_tells {f : Addr} {fd : FuncData} (T : Tx K mg) (F : Fun K "_law_tells" "_law_tells" (top 40) f fd) : FnOk P w K mg base CX0 6 f fd ["_law_net_here", "_law_many", "_law_ties"] (spTells K) := by
  refine F.ok scTells (fun vs H Q E h => ?_) (fun cdv A outer s H vs Q E hr h => ?_)
  · obtain ⟨p, l, n, ts, rfl, _⟩ := h
    rfl
  · obtain ⟨p, l, n, ts, rfl, N, hl, g, n2, n32, q⟩ := h
    refine ⟨_, pss_cons (ps_set (i := 3) scTells.nd rfl (.inr rfl) (pe_can (can_leads T) (hr.mono (by decide)) (by rfl) pass0 (pa_cons (pv 1) (pa_cons (pv 2) pa_nil))))
      (pss_cons (ps_set (i := 5) scTells.nd rfl (.inr rfl) (pe_lc (own := [("_law_house", 4)]) (g := gName 4) (tt := tYes) rfl scTells.nd (pi_range1 (by rfl) T.fRange (pa_cons (pv 1) pa_nil))
        (blkOk_by (N := nTells) (sc := defScope (top 40)) (by decide +kernel)) (fun _ _ _ _ _ => pg_name (i := 4) scTells.nd rfl (.inl rfl)) (fun _ _ _ _ _ => pts_nil)
        (fun _ _ _ _ _ => pe_can (can_lawFars T) (hr.mono (by decide)) (by rfl) pass0 (pa_cons (pv 3) (pa_cons (pv 4) pa_nil)))))
      (pss_cons (ps_for PassesOwn.never rfl (pi_range1 (by rfl) T.fRange (pa_cons (pv 1) pa_nil)) (pg_name (i := 4) scTells.nd rfl (.inr rfl))
        (pss_cons (ps_if (pt_not (pt_val (pe_can (can_rowIs T) (hr.mono (by decide)) (by rfl) pass0 (pa_cons (pe_canM (E := E0) (pv 0) T.cls (canM_out T) (hr.mono (by decide)) passL (pa_cons (pv 4) pa_nil))
            (pa_cons (pe_ix ix_list (pv 3) (pv 4) (fun _ _ => rfl)) pa_nil))))) (pss_one (ps_ret pe_bl)) pss_nil)
        (pss_cons (ps_setLc (i := 7) (own := [("_law_home", 6)]) (g := gName 6) (tt := tYes) rfl scTells.nd rfl rfl (sw_true rfl rfl rfl (by decide +kernel)) (pi_range1 (by rfl) T.fRange (pa_cons (pv 1) pa_nil))
          (blkOk_by (N := nTells) (sc := defScope (top 40)) (by decide +kernel)) (fun _ _ _ _ _ => pg_name (i := 6) scTells.nd rfl (.inl rfl)) (fun _ _ _ _ _ => pts_nil)
          (fun _ _ _ _ _ => pe_canM (E := E0) (pv 0) T.cls (canM_far T) (hr.mono (by decide)) passL (pa_cons (pv 4) (pa_cons (pv 6) pa_nil))))
        (pss_cons (ps_if (pt_not (pt_val (pe_can (can_rowIs T) (hr.mono (by decide)) (by rfl) pass0 (pa_cons (pv 7) (pa_cons (pe_ix ix_list (pv 5) (pv 4) (fun _ _ => rfl)) pa_nil))))) (pss_one (ps_ret pe_bl)) pss_nil)
        (pss_one (ps_for PassesOwn.never rfl (pi_range1 (by rfl) T.fRange (pa_cons (pv 1) pa_nil)) (pg_name (i := 6) scTells.nd rfl (.inr rfl))
          (pss_cons (ps_setLc (i := 8) (own := [("_law_other", 9)]) (g := gName 9) rfl scTells.nd rfl rfl (sw_true rfl rfl rfl (by decide +kernel)) (pi_list (pe_ix ix_list (pv 3) (pv 4) (fun _ _ => rfl)))
            (blkOk_by (N := nTells) (sc := defScope (top 40)) (by decide +kernel)) (fun _ _ _ _ _ => pg_name (i := 9) scTells.nd rfl (.inl rfl))
            (fun _ _ _ _ _ => pts_one (pt_cmpR op_lt (pe_ix (ixL K) (pe_ix (ixL K) (pv 5) (pv 9) (fun _ _ => rfl)) (pv 6) (fun _ _ => rfl)) (pe_ix (ixL K) (pe_ix (ixL K) (pv 5) (pv 4) (fun _ _ => rfl)) (pv 6) (fun _ _ => rfl)) (nomark _)))
            (fun _ _ _ _ _ => pv 9))
          (pss_one (ps_if (pt_not (pt_val (pe_can (can_rowIs T) (hr.mono (by decide)) (by rfl) pass0 (pa_cons (pe_canM (E := E0) (pv 0) T.cls (canM_good T) hr passL (pa_cons (pv 4) (pa_cons (pv 6) pa_nil)))
            (pa_cons (pv 8) pa_nil))))) (pss_one (ps_ret pe_bl)) pss_nil)))))))))
      (pss_one (ps_ret (pe_and (pe_can (can_lwhole T) (hr.mono (by decide)) (by rfl) pass0 (pa_cons (pe_canM0 (E := E0) (pv 0) T.cls (canM_span T) (hr.mono (by decide)) pass0) pa_nil))
        (pe_one (pe_cmpR op_eq (pe_canM0 (E := E0) (pv 0) T.cls (canM_span T) (hr.mono (by decide)) pass0)
          (pe_callB (cr_max rfl) (by rfl) T.fMax (by decide +kernel) (pa_cons (pe_lc (own := [("_law_row", 10)]) (g := gName 10) (tt := tYes) rfl scTells.nd (pi_list (pv 5))
            (blkOk_by (N := nTells) (sc := defScope (top 40)) (by decide +kernel)) (fun _ _ _ _ _ => pg_name (i := 10) scTells.nd rfl (.inl rfl)) (fun _ _ _ _ _ => pts_nil)
            (fun _ _ _ _ _ => pe_callB (cmax K rfl) (by rfl) T.fMax (by decide +kernel) (pa_cons (pv 10) pa_nil))) pa_nil)) (nomark _)))))))), ?_⟩
    -- leads, fars
    refine ⟨_, rfl, _, rfl, l, n, ts, rfl, hl, by omega, n32, fun le lrs H1 s1 nle hle hlrs => ?_⟩
    refine ⟨_, rfl, (n : Int), rfl, by omega, by omega, fun fa nfa => ?_⟩
    refine lc_range (lo := 0) (n := n) (fun i H2 => ∃ frs, Same H1 H2 ∧ LL H2 fa frs ∧ frs.map (·.2) = (distsOf n (ts.map (·.2))).take i) ?_ ?_ ?_
    · exact ⟨[], same_new nfa, ⟨upd_same, fun r hr => by cases hr⟩, by simp⟩
    · rintro i H2 hi ⟨frs, s2, hfr, hfrs⟩
      have e0 : (0 : Int) + (i : Int) = (i : Int) := Int.zero_add _; rw [e0]
      refine ⟨rfl, _, rfl, _, rfl, le, n, i, lrs, ts.map (·.2), rfl, hle.same s2, hlrs, g, hi, n32, fun a H3 s3 na hNL => ?_⟩
      have hfr3 := hfr.same s3
      have naD : a ≠ fa := (ne_of_none hfr.at_ na).symm
      refine ⟨_, hfr3.at_, ?_, frs ++ [(a, dist (rowsOf n (ts.map (·.2))) n i)], same_put (s2.trans s3) nfa, hfr3.push hNL naD, ?_⟩
      · rw [List.length_map]
        have := congrArg List.length hfrs
        rw [List.length_map, List.length_take, dists_len] at this
        exact small1000 (by omega)
      · rw [map_snoc, hfrs, take_snoc (dists_get _ hi)]
    rintro H2 ⟨frs, s2, hfr, hfrs⟩
    rw [List.take_of_length_le (by rw [dists_len]; exact Nat.le_refl _)] at hfrs
    have hle2 := hle.same s2
    have s12 := s1.trans s2
    have hfl : frs.length = n := by
      have := congrArg List.length hfrs
      rwa [List.length_map, dists_len] at this
    -- house by house
    refine ⟨_, rfl, (n : Int), rfl, by omega, by omega, ?_⟩
    refine for_range (lo := 0) (n := n) (fun i σ H3 => ∃ x4 x6 x7 x8, σ = [some (.ref p), some (nV n), some (.ref l), some (.ref le), x4, some (.ref fa), x6, x7, x8, none, none] ∧ Same H2 H3) ?_ ?_ ?_
    · exact ⟨none, none, none, none, rfl, Same.refl _⟩
    · rintro i σ H3 hi ⟨x4, x6, x7, x8, rfl, s3⟩
      have e0 : (0 : Int) + (i : Int) = (i : Int) := Int.zero_add _; rw [e0]
      have N3 := (N.same s12).same s3
      obtain ⟨dx, ar, ou, fr, ors, nfrs, h1, h2, h3, h4, h5⟩ := N3.ex
      obtain ⟨ra, hra, hrow⟩ := (hle2.same s3).at hlrs (rows_get _ hi)
      obtain ⟨fi, hfi, hfrow⟩ := (hfr.same s3).at hfrs (dists_get _ hi)
      -- out
      refine ⟨_, rfl, p, dx, _, rfl, h1, nm_out, _, rfl, p, n, _, nV i, rfl, N3, .int _, fun h eh hh H4 a s4 na hNL => ?_, fun c => by rw [nat_house hi] at c; cases c⟩
      have eh' : h = i := by have := V.int.inj eh; omega
      subst eh'
      refine ⟨_, rfl, _, rfl, le, _, _, _, rfl, rfl, SqL.of (s4 _ _ (s3 _ _ hle2.at_)), atI_nat hra, a, ra, _, rfl, hNL, s4 _ _ hrow, Nat.le_trans (row_len hi) (by omega), fun H5 s5 => ⟨true, rfl, iteF ?_⟩⟩
      have s35 := s4.trans s5
      -- told
      refine ⟨_, rfl, (n : Int), rfl, by omega, by omega, fun D nD => ?_⟩
      refine lc_range (lo := 0) (n := n) (fun j H6 => Same H5 H6 ∧ NL H6 D ((dist (rowsOf n (ts.map (·.2))) n h).take j)) ?_ ?_ ?_
      · exact ⟨same_new nD, upd_same⟩
      · rintro j H6 hj ⟨s6, hD⟩
        have e1 : (0 : Int) + (j : Int) = (j : Int) := Int.zero_add _
        rw [e1]
        have s36 := s35.trans s6
        have N6 := N3.same s36
        have hdl : (dist (rowsOf n (ts.map (·.2))) n h).length = n := dist_len hi
        refine ⟨rfl, _, rfl, p, dx, _, rfl, s36 _ _ h1, nm_far, _, rfl, _, rfl, p, n, _, nV h, nV j, rfl, N6, .int _, .int _, fun a b ea eb ha hb => ?_, fun c => ?_⟩
        · have ea' : a = h := by have := V.int.inj ea; omega
          have eb' : b = j := by have := V.int.inj eb; omega
          subst ea' eb'
          refine ⟨_, hD, ?_, same_put s6 nD, ?_⟩
          · rw [List.length_map]; rw [List.length_take]
            exact small1000 (by omega)
          · rw [NL, upd_same, take_snoc (List.getElem?_eq_getElem (by rw [hdl]; exact hb)), map_snoc]
            unfold distAt
            rw [getD_at (by rw [hdl]; exact hb)]
        · rw [nat_house hi, nat_house hj] at c
          rcases c with z | z <;> cases z
      · rintro H6 ⟨s6, hD⟩
        rw [List.take_of_length_le (by rw [dist_len hi]; exact Nat.le_refl _)] at hD
        have s36 := s35.trans s6
        refine ⟨_, rfl, _, rfl, _, rfl, fa, _, _, _, rfl, rfl, SqL.of (s36 _ _ (s3 _ _ hfr.at_)), atI_nat hfi, D, fi, _, rfl, hD, s36 _ _ hfrow, by rw [dist_len hi]; omega, fun H7 s7 => ⟨true, rfl, iteF ?_⟩⟩
        have s37 := s36.trans s7
        -- home by home
        refine ⟨_, rfl, (n : Int), rfl, by omega, by omega, ?_⟩
        refine for_range (lo := 0) (n := n) (fun j σ H8 => ∃ x6 x8, σ = [some (.ref p), some (nV n), some (.ref l), some (.ref le), some (nV h), some (.ref fa), x6, some (.ref D), x8, none, none] ∧ Same H3 H8) ?_ ?_ ?_
        · exact ⟨x6, x8, rfl, s37⟩
        · rintro j σ H8 hj ⟨x6, x8, rfl, s8⟩
          have e1 : (0 : Int) + (j : Int) = (j : Int) := Int.zero_add _
          rw [e1]
          -- near
          refine ⟨_, rfl, _, rfl, le, _, _, _, rfl, rfl, SqL.of (s8 _ _ (s3 _ _ hle2.at_)), atI_nat hra, ra, rfl, ⟨_, SqL.of (s8 _ _ hrow)⟩, fun B nB => ?_⟩
          refine lc_list (K := K) (a := ra) (xs := (rowOf n (ts.map (·.2)) h).map nV) (fun k H9 => Same H8 H9 ∧ NL H9 B (((rowOf n (ts.map (·.2)) h).take k).filter fun u => decide (distAt n (ts.map (·.2)) u j < distAt n (ts.map (·.2)) h j))) ?_ ?_ ?_ ?_
          · exact ⟨same_new nB, upd_same⟩
          · rintro k H9 _ ⟨s9, _⟩
            exact s9.seq (SqL.of (s8 _ _ hrow))
          · rintro k x H9 hx ⟨s9, hB⟩
            obtain ⟨u, hu, rfl⟩ := map_at hx
            have hun : u < n := rowOf_lt (by omega) (List.mem_of_getElem? hu)
            have hfr9 := ((hfr.same s3).same s8).same s9
            obtain ⟨fu, hfu, hfurow⟩ := hfr9.at hfrs (dists_get _ hun)
            have hfs := filter_snoc (fun u => decide (distAt n (ts.map (·.2)) u j < distAt n (ts.map (·.2)) h j)) hu
            refine ⟨rfl, _, rfl, _, rfl, fa, _, _, _, rfl, rfl, SqL.of hfr9.at_, atI_nat hfu, _, rfl, fu, _, _, _, rfl, rfl, SqL.of hfurow, atI_nat (dist_at hun hj), ?_⟩
            refine ⟨_, rfl, _, rfl, fa, _, _, _, rfl, rfl, SqL.of hfr9.at_, atI_nat hfi, _, rfl, fi, _, _, _, rfl, rfl, SqL.of (s9 _ _ (s8 _ _ hfrow)), atI_nat (dist_at hi hj), _, _, rfl, rfl, _, rfl, ?_⟩
            by_cases c : distAt n (ts.map (·.2)) u j < distAt n (ts.map (·.2)) h j
            · rw [decide_eq_true (by omega)]
              refine iteT ⟨_, rfl, _, hB, ?_, same_put s9 nB, ?_⟩
              · rw [List.length_map]
                have a1 := filter_take_len (fun u => decide (distAt n (ts.map (·.2)) u j < distAt n (ts.map (·.2)) h j)) (rowOf n (ts.map (·.2)) h) k
                have a2 := row_len (T := ts.map (·.2)) hi
                exact small1000 (by omega)
              · rw [NL, upd_same, hfs, if_pos (decide_eq_true c), map_snoc]
            · rw [decide_eq_false (by omega)]
              refine iteF ⟨s9, ?_⟩
              rw [hfs, if_neg (by rw [decide_eq_false c]; exact Bool.false_ne_true), List.append_nil]
              exact hB
          · rintro H9 ⟨s9, hB⟩
            rw [List.length_map, List.take_length] at hB
            have s39 := s8.trans s9
            have N9 := N3.same s39
            have gl : (goodOf n (ts.map (·.2)) h j).length ≤ 1000 := by
              have a1 := List.length_filter_le (fun u => decide (distAt n (ts.map (·.2)) u j < distAt n (ts.map (·.2)) h j)) (rowOf n (ts.map (·.2)) h)
              have a2 := row_len (T := ts.map (·.2)) hi
              unfold goodOf
              omega
            refine ⟨_, rfl, p, dx, _, rfl, s39 _ _ h1, nm_good, _, rfl, _, rfl, p, n, _, nV h, nV j, rfl, N9, n32, .int _, .int _, fun a b ea eb ha hb HA la sA nla hla => ?_, fun c => ?_⟩
            · have ea' : a = h := by have := V.int.inj ea; omega
              have eb' : b = j := by have := V.int.inj eb; omega
              subst ea' eb'
              exact ⟨_, rfl, la, B, _, rfl, hla, sA _ _ hB, gl, fun HB sB => ⟨true, rfl, iteF ⟨_, _, rfl, (s39.trans sA).trans sB⟩⟩⟩
            · rw [nat_house hi, nat_house hj] at c
              rcases c with z | z <;> cases z
        · rintro σ H8 ⟨x6, x8, rfl, s8⟩
          exact ⟨_, _, _, _, rfl, s3.trans s8⟩
    · rintro σ H3 ⟨x4, x6, x7, x8, rfl, s3⟩
      -- the span
      have s03 := s12.trans s3
      have N3 := N.same s03
      obtain ⟨dx, ar, ou, fr, ors, nfrs, h1, h2, h3, h4, h5⟩ := N3.ex
      refine ⟨_, rfl, p, dx, _, rfl, h1, nm_span, p, n, _, rfl, N3, by omega, n32, fun H4 s4 => ⟨_, rfl, true, rfl, iteT ?_⟩⟩
      have N4 := N3.same s4
      refine ⟨_, rfl, p, dx, _, rfl, s4 _ _ h1, nm_span, p, n, _, rfl, N4, by omega, n32, fun H5 s5 => ?_⟩
      have s35 := s4.trans s5
      have hfr5 := (hfr.same s3).same s35
      refine ⟨_, rfl, fa, rfl, ⟨_, SqL.of hfr5.at_⟩, fun D nD => ?_⟩
      refine lc_list (K := K) (a := fa) (xs := frs.map fun r => V.ref r.1) (fun j H6 => Same H5 H6 ∧ NL H6 D (((distsOf n (ts.map (·.2))).take j).map mx)) ?_ ?_ ?_ ?_
      · exact ⟨same_new nD, upd_same⟩
      · rintro j H6 _ ⟨s6, _⟩
        exact s6.seq (SqL.of hfr5.at_)
      · rintro j x H6 hx ⟨s6, hD⟩
        obtain ⟨r, hr, rfl⟩ := map_at hx
        have hrow := (hfr5.same s6).row r (List.mem_of_getElem? hr)
        have hj : j < frs.length := (List.getElem?_eq_some_iff.mp hr).1
        have hrd : (distsOf n (ts.map (·.2)))[j]? = some r.2 := by rw [← hfrs, List.getElem?_map, hr]; rfl
        refine ⟨rfl, _, rfl, r.1, r.2.map fun (x : Nat) => (x : Int), rfl, by rw [← map_nV_int]; exact SqL.of hrow, ?_, fun m hm1 hm2 => ?_⟩
        · rw [List.length_map]
          exact dists_mem (by omega) (List.mem_of_getElem? hrd)
        · have em := mx_is hm1 hm2
          subst em
          refine ⟨_, hD, ?_, same_put s6 nD, ?_⟩
          · rw [List.length_map, List.length_map, List.length_take, dists_len]
            exact small1000 (by omega)
          · rw [NL, upd_same, take_snoc hrd, map_snoc, map_snoc]
      · rintro H6 ⟨s6, hD⟩
        rw [List.length_map, List.take_of_length_le (by rw [dists_len]; omega)] at hD
        refine ⟨D, ((distsOf n (ts.map (·.2))).map mx).map fun (x : Nat) => (x : Int), rfl, by rw [← map_nV_int]; exact SqL.of hD, ?_, fun m hm1 hm2 => ?_⟩
        · rw [List.length_map, List.length_map, dists_len]; omega
        · have em := mx_is hm1 hm2
          subst em
          refine ⟨rfl, ?_⟩
          have e : decide (nV (spanOf n (ts.map (·.2))) = nV (mx ((distsOf n (ts.map (·.2))).map mx))) = true := decide_eq_true rfl
          show Q (.bl (decide (nV (spanOf n (ts.map (·.2))) = nV (mx ((distsOf n (ts.map (·.2))).map mx))))) H6
          rw [e]
          exact q H6 ((s03.trans s35).trans s6)
theorem can_tells (T : Tx K mg) : Can P w K mg base CX0 6 "_law_tells" ["_law_net_here", "_law_many", "_law_ties"] (spTells K) :=
  T.can 19 rfl rfl (fun _ _ _ _ _ _ us hl => match us, hl with | [_, _, _], _ => rfl) fun _ _ F => ok_tells T F
end
end NW
-- NwAsked
set_option Elab.async false
set_option linter.all false
set_option maxRecDepth 100000
set_option maxHeartbeats 4200000
namespace NW
open PySem PySem.Spec L2 PyProof.Rows
/-! ## _law_asked -/
section
variable {P : Program} {w : World} {base : Heap} {K : PySem.W.Frag} {mg : Str → Option Value}
def spAsked (K : PySem.W.Frag) : Sp := fun vs H Q E => ∃ (d : Nat) (p : Addr) (n : Nat) (T : Ties) (x : V), vs = [nV d, .ref p, x] ∧ d < 6 ∧ NetAt K H p n T ∧ 2 ≤ n ∧ n ≤ 32 ∧ Thing H x ∧ house n x = false ∧ E (.ref (CH K)) none H
abbrev nAsked : List Str := ["_law_deed", "_law_net_here", "_law_thing"]
theorem scAsked : FnScope nAsked nAsked (defScope (top 41)) := ⟨rfl, rfl, rfl, by decide +kernel, rfl, by decide +kernel, by decide +kernel⟩
theorem ok_asked {f : Addr} {fd : FuncData} (T : Tx K mg) (F : Fun K "_law_asked" "_law_asked" (top 41) f fd) : FnOk P w K mg base (L2.CX P w) 6 f fd nAsked (spAsked K) := by
  refine F.okX scAsked (fun vs H Q E h => ?_) (fun cdv A outer s H vs Q E hr h => ?_)
  · obtain ⟨d, p, n, G, x, rfl, _⟩ := h
    rfl
  · obtain ⟨d, p, n, G, x, rfl, hd, N, n2, n32, hx, hh, e⟩ := h
    refine ⟨_, pss_cons (ps_if (pt_cmpR op_eq (pv 0) pe_int (nomark _)) (pss_one (ps_ret (pe_canM (E := E) (pv 1) T.cls (canM_out T) (hr.mono (by decide)) (passes_call (W := fun cls d _ H => E cls d H) (takes_of rfl rfl rfl rfl) (fun _ _ _ _ h => h)) (pa_cons (pv 2) pa_nil)))) pss_nil)
      (pss_cons (ps_if (pt_cmpR op_eq (pv 0) pe_int (nomark _)) (pss_one (ps_ret (pe_canM (E := E) (pv 1) T.cls (canM_far T) (hr.mono (by decide)) (passes_call (W := fun cls d _ H => E cls d H) (takes_of rfl rfl rfl rfl) (fun _ _ _ _ h => h)) (pa_cons (pv 2) (pa_cons pe_int pa_nil))))) pss_nil)
      (pss_cons (ps_if (pt_cmpR op_eq (pv 0) pe_int (nomark _)) (pss_one (ps_ret (pe_canM (E := E) (pv 1) T.cls (canM_good T) hr (passes_call (W := fun cls d _ H => E cls d H) (takes_of rfl rfl rfl rfl) (fun _ _ _ _ h => h)) (pa_cons (pv 2) (pa_cons pe_int pa_nil))))) pss_nil)
      (pss_cons (ps_if (pt_cmpR op_eq (pv 0) pe_int (nomark _)) (pss_one (ps_ret (pe_canM (E := E) (pv 1) T.cls (canM_far T) (hr.mono (by decide)) (passes_call (W := fun cls d _ H => E cls d H) (takes_of rfl rfl rfl rfl) (fun _ _ _ _ h => h)) (pa_cons pe_int (pa_cons (pv 2) pa_nil))))) pss_nil)
      (pss_cons (ps_if (pt_cmpR op_eq (pv 0) pe_int (nomark _)) (pss_one (ps_ret (pe_canM (E := E) (pv 1) T.cls (canM_good T) hr (passes_call (W := fun cls d _ H => E cls d H) (takes_of rfl rfl rfl rfl) (fun _ _ _ _ h => h)) (pa_cons pe_int (pa_cons (pv 2) pa_nil))))) pss_nil)
      (pss_one (ps_ret (pe_canM (E := E) (pv 1) T.cls (canM_far T) (hr.mono (by decide)) (passes_call (W := fun cls d _ H => E cls d H) (takes_of rfl rfl rfl rfl) (fun _ _ _ _ h => h)) (pa_cons (pv 2) (pa_cons (pv 2) pa_nil))))))))), ?_⟩
    obtain ⟨dx, ar, ou, fr, ors, frs, h1, _⟩ := N.ex
    have h0 : Thing H (.int 0) := .int _
    have h01 : Thing H (.int 1) := .int _
    match d, hd with
    | 0, _ =>
      refine ⟨_, rfl, rfl, true, congrArg V.bl (decide_eq_true rfl), iteT ⟨_, rfl, p, dx, _, rfl, h1, nm_out, _, rfl, p, n, G, x, rfl, N, hx, fun a ea ha => ?_, fun _ => e⟩⟩
      rw [ea, nat_house ha] at hh
      cases hh
    | 1, _ =>
      refine ⟨_, rfl, rfl, false, congrArg V.bl (decide_eq_false fun e => absurd (V.int.inj e) (by decide)), iteF ⟨_, rfl, rfl, true, congrArg V.bl (decide_eq_true rfl), iteT ⟨_, rfl, p, dx, _, rfl, h1, nm_far, _, rfl, p, n, G, x, .int 0, rfl, N, hx, h0, fun a b ea eb ha hb => ?_, fun _ => e⟩⟩⟩
      rw [ea, nat_house ha] at hh
      cases hh
    | 2, _ =>
      refine ⟨_, rfl, rfl, false, congrArg V.bl (decide_eq_false fun e => absurd (V.int.inj e) (by decide)), iteF ⟨_, rfl, rfl, false, congrArg V.bl (decide_eq_false fun e => absurd (V.int.inj e) (by decide)), iteF ⟨_, rfl, rfl, true, congrArg V.bl (decide_eq_true rfl), iteT ⟨_, rfl, p, dx, _, rfl, h1, nm_good, _, rfl, p, n, G, x, .int 0, rfl, N, n32, hx, h0, fun a b ea eb ha hb => ?_, fun _ => e⟩⟩⟩⟩
      rw [ea, nat_house ha] at hh
      cases hh
    | 3, _ =>
      refine ⟨_, rfl, rfl, false, congrArg V.bl (decide_eq_false fun e => absurd (V.int.inj e) (by decide)), iteF ⟨_, rfl, rfl, false, congrArg V.bl (decide_eq_false fun e => absurd (V.int.inj e) (by decide)), iteF ⟨_, rfl, rfl, false, congrArg V.bl (decide_eq_false fun e => absurd (V.int.inj e) (by decide)), iteF ⟨_, rfl, rfl, true, congrArg V.bl (decide_eq_true rfl), iteT ⟨_, rfl, p, dx, _, rfl, h1, nm_far, _, rfl, p, n, G, .int 1, x, rfl, N, h01, hx, fun a b ea eb ha hb => ?_, fun _ => e⟩⟩⟩⟩⟩
      rw [eb, nat_house hb] at hh
      cases hh
    | 4, _ =>
      refine ⟨_, rfl, rfl, false, congrArg V.bl (decide_eq_false fun e => absurd (V.int.inj e) (by decide)), iteF ⟨_, rfl, rfl, false, congrArg V.bl (decide_eq_false fun e => absurd (V.int.inj e) (by decide)), iteF ⟨_, rfl, rfl, false, congrArg V.bl (decide_eq_false fun e => absurd (V.int.inj e) (by decide)), iteF ⟨_, rfl, rfl, false, congrArg V.bl (decide_eq_false fun e => absurd (V.int.inj e) (by decide)), iteF ⟨_, rfl, rfl, true, congrArg V.bl (decide_eq_true rfl), iteT ⟨_, rfl, p, dx, _, rfl, h1, nm_good, _, rfl, p, n, G, .int 1, x, rfl, N, n32, h01, hx, fun a b ea eb ha hb => ?_, fun _ => e⟩⟩⟩⟩⟩⟩
      rw [eb, nat_house hb] at hh
      cases hh
    | 5, _ =>
      refine ⟨_, rfl, rfl, false, congrArg V.bl (decide_eq_false fun e => absurd (V.int.inj e) (by decide)), iteF ⟨_, rfl, rfl, false, congrArg V.bl (decide_eq_false fun e => absurd (V.int.inj e) (by decide)), iteF ⟨_, rfl, rfl, false, congrArg V.bl (decide_eq_false fun e => absurd (V.int.inj e) (by decide)), iteF ⟨_, rfl, rfl, false, congrArg V.bl (decide_eq_false fun e => absurd (V.int.inj e) (by decide)), iteF ⟨_, rfl, rfl, false, congrArg V.bl (decide_eq_false fun e => absurd (V.int.inj e) (by decide)), iteF ⟨_, rfl, p, dx, _, rfl, h1, nm_far, _, rfl, _, rfl, p, n, G, x, x, rfl, N, hx, hx, fun a b ea eb ha hb => ?_, fun _ => e⟩⟩⟩⟩⟩⟩
      rw [ea, nat_house ha] at hh
      cases hh
theorem can_asked (T : Tx K mg) : Can P w K mg base (L2.CX P w) 6 "_law_asked" nAsked (spAsked K) :=
  T.can 20 rfl rfl (fun _ _ _ _ _ _ us hl => match us, hl with | [_, _, _], _ => rfl) fun _ _ F => ok_asked T F
end
end NW
-- NwCold
set_option Elab.async false
set_option linter.all false
set_option maxRecDepth 100000
set_option maxHeartbeats 4200000
namespace NW
open PySem PySem.Spec L2 PyProof.Rows
/-! ## A def that an except suite calls: the error stands beside, of the class at D, without a dict -/
structure HotZ (D : Addr) (p : Addr × Obj) : Prop where
  z : Zc (.ref D) none p.2
  f : ∃ vs, p.2.data = .fields vs
structure FnZ (P : Program) (w : World) (K : PySem.W.Frag) (mg : Str → Option Value) (base : Heap) (CX : CXT) (D : Addr) (k : Nat) (f : Addr) (fd : FuncData) (ps : List Str) (sp : Addr → Sp) : Prop where
  many : ∀ a vs H Q E, sp a vs H Q E → vs.length = ps.length
  goes : ∀ (A : Around) (outer : List Env) (s : Shared) (H : Hp) (args : Args) (us : List Value) (vs : List V) (Q : VK) (E : XK) (p : Addr × Obj), L2H.RoomH k A → HotZ D p → L2H.PinOk outer H s p → Env0 P w K mg base A outer s H →
    BindsTo s fd args (ps.zip us) → Vals vs us → sp p.1 vs H Q E → codeAny (model P w) A (.call (.ref f) args) (CR CX outer P w H s Q E) s
theorem fnZ_of {CX : CXT} {P : Program} {w : World} {K : PySem.W.Frag} {mg : Str → Option Value} {base : Heap} {D : Addr} {k : Nat} {f : Addr} {x qual : Str} {st : Stmt} {fd : FuncData} {N ps : List Str} {sp : Addr → Sp}
    (F : Fun K x qual st f fd) (S : FnScope N ps (defScope st)) (many : ∀ a vs H Q E, sp a vs H Q E → vs.length = ps.length)
    (hbody : ∀ (cdv : Value) (A : Around) (outer : List Env) (s : Shared) (H : Hp) (vs : List V) (Q : VK) (E : XK) (p : Addr × Obj), HotZ D p → L2H.RoomH k (A.deeper (envOfC qual (defScope st) s.heap.objs.size f cdv)) → sp p.1 vs H Q E →
      ∃ t, PSs (L2H.cxH CX P w K mg base N qual (defScope st) f cdv A outer s H E p) (defBody st) t ∧ t { nx := fun _ H' => Q .non H', rt := Q } (L2.start N vs) H) : FnZ P w K mg base CX D (k + 1) f fd ps sp := by
  obtain ⟨oc, od, kV, doc, pm, an, cdv, ct, osl, rfl, lk, hcd⟩ := F.ex; refine ⟨many, fun A outer s H args us vs Q E p room hot pin env bnd rel prom => ?_⟩
  have mlen := many _ _ _ _ _ prom
  have lim : s.heap.NoLimit := env.mod.nolimit.keeps fun b o e => (env.bs b o e).1
  have inn : K.In s.heap := env.mod.kin.keeps fun b o e => (env.bs b o e).1
  refine codeAny_call_function room.depth (inn _ _ lk) rfl S.co S.gen rfl (PySem.W.codeRec_of inn hcd) (bnd _ _ _ _ ?_)
  have kinds : ∀ y ∈ ps.zip us, (defScope st).names.lookup y.1 = some .local ∨ ((defScope st).names.lookup y.1 = some .cell ∧ ((cellsFrom (s.heap.objs.size + 1) (defScope st).names []).lookup y.1).isSome = true) := by
    rintro ⟨n, v⟩ hy
    exact (S.par n (List.of_mem_zip hy).1).imp id fun q => ⟨q, PySem.W.cellsFrom_some _ _ _ (.inl q)⟩
  refine wpAny_newFunctionEnv_cells S.kind kinds fun env' he s1 ic => ?_
  subst he
  refine ⟨lim.keeps ic.toInCall.keep, codeAny_func ?_⟩
  obtain ⟨t, walk, reads⟩ := hbody cdv A outer s H vs Q E p hot (room.deeper _) prom
  have I := L2H.inv_startH (CX := CX) (E := E) S pin env mlen rel ic
  refine wpAny_mono (walk.run [] s1 (L2.start N vs) H _ I reads) (fun fl s' hs => ?_) fun _ _ z => z
  cases fl with
  | ret u => obtain ⟨v, σ', H', J, rv, q⟩ := hs; exact ⟨v, H', J.os, J.bare, J.base, J.hok, rv, q⟩
  | next => obtain ⟨σ', H', J, q⟩ := hs; exact ⟨.non, H', J.os, J.bare, J.base, J.hok, rfl, q⟩
  | brk => obtain ⟨_, _, _, q⟩ := hs; exact q.elim
  | cont => obtain ⟨_, _, _, q⟩ := hs; exact q.elim
section
variable {X : Cx} {CX : CXT} {D : Addr} {k : Nat} {f : Addr} {fd : FuncData} {ps : List Str} {sp : Addr → Sp} {E : L2.St → XK} {x : Str} {nm pos : Pos} {e : Expr} {es : List Expr} {t : TA}
/-- a call of such a def within the suite -/
theorem pe_callZ {p : Addr × Obj} (F : FnZ X.prog X.w X.K X.mg X.base CX D k f fd ps sp) (room : L2H.RoomH k X.A) (hot : HotZ D p) (hp : p ∈ X.pn) (hg : Gl X x) (hm : X.mg x = some (.ref f)) (kp : PySem.W.keepIn X.K (.ref f) = true) (hb : Binds X.K fd ps [])
    (hx : ∀ σ, PassesAt CX X σ (E σ)) (ha : PA X (e :: es) t) (hdb : (x == ("__debug__" : Str)) = false := by decide)
    (he : starEach (e :: es) X.env = (false, eval e X.env) :: starEach es X.env := by rfl) (hpl : (backTo pos (starEach es X.env)).any (·.1) = false := by rfl) : PE X (.Call (.Name x nm) (e :: es) [] pos) (tCallS (sp p.1) E t) := by
  refine ⟨fun pins s σ H Q I h => wpAny_Call_Name_kw (ld_glob I hg hm ?_ hdb)⟩
  refine PySem.W.callWith_K (h₀ := X.base) I.ok.mod.kin kp (thn (ha.run pos pins s σ H _ I h) fun us s1 ⟨vs, H1, J, rel, q⟩ => ⟨J.kIn, ?_⟩) he hpl
  have ulen : us.length = (ps ++ []).length := by rw [← rel.length, List.append_nil]; exact F.many _ _ _ _ _ q
  have b := hb s1 us J.kIn (by simpa using ulen)
  rw [List.append_nil] at b
  obtain ⟨g1, g2, g3, g4, g5⟩ := J.pin p (List.mem_append_left _ hp)
  have pin : L2H.PinOk X.stack H1 s1 p := ⟨g1, g2, fun hm => (List.mem_cons.mp (J.stkSub p.1 hm)).elim g3 g4, g5⟩
  refine wpAny_call (codeAny_mono (F.goes X.A X.stack s1 H1 ⟨us, []⟩ us vs Q (E σ) p room hot pin J.env0 b rel q) fun r s' hq => ?_)
  cases r with
  | error e => exact hx σ pins H1 s1 e s' J hq
  | ok fl => cases fl with
    | ret u => exact J.after hq
    | next => exact hq.elim
    | brk => exact hq.elim
    | cont => exact hq.elim
/-- isinstance of that error -/
def rIsZ (K : PySem.W.Frag) (D a : Addr) : List V → Hp → VK → Prop := fun xs H Q => ∃ (c : V) (cv : Value) (b : Bool), xs = [.ref a, c] ∧ ClsV c cv ∧ PySem.W.kitOne K (.ref D) cv = some b ∧ Q (.bl b) H
def rIsZT (K : PySem.W.Frag) (D a : Addr) : List V → Hp → VK → Prop := fun xs H Q => ∃ (tp : Addr) (cs : List V) (us : List Value) (b : Bool), xs = [.ref a, .ref tp] ∧ H tp = some (.tup cs) ∧ Paired ClsV cs us ∧ PySem.W.kitAny K (.ref D) us = some b ∧ Q (.bl b) H
theorem hot_inst {p : Addr × Obj} {s : Shared} (hot : HotZ D p) (g : s.heap.get? p.1 = some p.2) : PySem.W.InstAt s.heap p.1 p.2 D none := by
  obtain ⟨a, oc, od, oda, osl⟩ := p
  obtain ⟨⟨h1, h2⟩, vs, hv⟩ := hot
  dsimp only at h1 h2 hv
  subst h1 h2 hv
  exact ⟨g, rfl, rfl, trivial⟩
theorem call_isZ {p : Addr × Obj} (C : ExcC X.K D) (hot : HotZ D p) (hp : p ∈ X.pn) : CallR X (.builtin "isinstance") (rIsZ X.K D p.1) := by
  rintro pins s σ H xs us Q I r ⟨c, cv, b, rfl, k, e, q⟩
  obtain ⟨u1, u2, rfl, r1, r2⟩ := vals2 r; obtain rfl := k.eq r2
  cases (show u1 = Value.ref p.1 from r1)
  exact PySem.W.kia_one (PySem.W.handS_kitx_exc C.hg C.hk C.hs C.hd C.ha C.hn C.ht C.hm) I.kIn (hot_inst hot (I.pin p (List.mem_append_left _ hp)).1) e (fun z => nomatch z) fun tk => ⟨.bl b, H, I.tok tk, rfl, q⟩
theorem call_isZT {p : Addr × Obj} (C : ExcC X.K D) (hot : HotZ D p) (hp : p ∈ X.pn) : CallR X (.builtin "isinstance") (rIsZT X.K D p.1) := by
  rintro pins s σ H xs us Q I r ⟨tp, cs, ws, b, rfl, hT, k, e, q⟩
  obtain ⟨u1, u2, rfl, r1, r2⟩ := vals2 r; cases (show u1 = Value.ref p.1 from r1)
  cases (show u2 = Value.ref tp from r2); obtain ⟨_, its, rv, o, h1, h2, n, h3⟩ := (show ObjOk X.prog X.w H s.heap tp (.tup cs) from I.hok tp _ hT)
  obtain rfl := ClsV.all k rv
  obtain ⟨oc, od, dt, sl⟩ := o
  simp only at h2 h3
  subst h2 h3
  exact PySem.W.kia_tup (PySem.W.handS_kitx_exc C.hg C.hk C.hs C.hd C.ha C.hn C.ht C.hm) I.kIn (hot_inst hot (I.pin p (List.mem_append_left _ hp)).1) h1 e (fun z => nomatch z) fun tk => ⟨.bl b, H, I.tok tk, rfl, q⟩
end
end NW
-- NwRefuse
set_option Elab.async false
set_option linter.all false
set_option maxRecDepth 100000
set_option maxHeartbeats 4200000
namespace NW
open PySem PySem.Spec L2 PyProof.Rows
/-! ## _law_refused, _law_refuses -/
theorem and_ok {a b : Bool} (h : (a && b) = true) : a = true ∧ b = true := (Bool.and_eq_true _ _).mp h
theorem exc_of {K : PySem.W.Frag} {D : Addr} (h : excB K D = true) : ExcC K D := by
  obtain ⟨h1, h⟩ := and_ok h
  obtain ⟨h2, h⟩ := and_ok h
  obtain ⟨h3, h⟩ := and_ok h
  obtain ⟨h4, h⟩ := and_ok h
  obtain ⟨h5, h⟩ := and_ok h
  obtain ⟨h6, h⟩ := and_ok h
  obtain ⟨h7, h8⟩ := and_ok h
  exact ⟨He.eqO_ok h1, He.eqO_ok h2, of_decide_eq_true h3, h4, He.eqO_ok h5, He.eqO_ok h6, of_decide_eq_true h7, of_decide_eq_true h8⟩
section
variable {P : Program} {w : World} {base : Heap} {K : PySem.W.Frag} {mg : Str → Option Value}
theorem Tx.exH (T : Tx K mg) : ExcC K (CH K) := exc_of (and_ok T.says.2).1
theorem Tx.notH (T : Tx K mg) {x : Str} (h : x ∈ others) : PySem.W.kitOne K (.ref (CH K)) (.ref (He.ga K x)) = some false := by
  have h1 := (and_ok (and_ok T.says.2).2).1
  exact of_decide_eq_true (List.all_eq_true.mp h1 x h)
theorem Tx.isH (T : Tx K mg) : PySem.W.kitOne K (.ref (CH K)) (.ref (CH K)) = some true := of_decide_eq_true (and_ok (and_ok (and_ok T.says.2).2).2).1
theorem Tx.isVE (T : Tx K mg) : PySem.W.kitOne K (.ref (CH K)) (.type "ValueError") = some true := of_decide_eq_true (and_ok (and_ok (and_ok T.says.2).2).2).2
theorem not_all (T : Tx K mg) : ∀ {xs : List Str}, (∀ x ∈ xs, x ∈ others) → PySem.W.kitAny K (.ref (CH K)) (xs.map fun x => Value.ref (He.ga K x)) = some false
  | [], _ => kitAny_nil
  | x :: xs, h => kitAny_cons (T.notH (h x (List.mem_cons_self ..))) (fun _ => not_all T fun y hy => h y (List.mem_cons_of_mem _ hy)) (fun z => Bool.noConfusion z)
theorem cls_all : ∀ {xs : List Str}, Paired ClsV (xs.map fun x => V.ref (He.ga K x)) (xs.map fun x => Value.ref (He.ga K x))
  | [] => .nil
  | _ :: _ => .cons (.own _) cls_all
def spRefused (a : Addr) : Sp := fun vs H Q _ => vs = [.ref a] ∧ ∀ H', Same H H' → Q (.bl true) H'
theorem scRefused : FnScope ["_law_e"] ["_law_e"] (defScope (top 42)) := ⟨rfl, rfl, rfl, by decide +kernel, rfl, by decide +kernel, by decide +kernel⟩
theorem ok_refused {f : Addr} {fd : FuncData} (T : Tx K mg) (F : Fun K "_law_refused" "_law_refused" (top 42) f fd) : FnZ P w K mg base CX0 (CH K) 1 f fd ["_law_e"] spRefused := by
  refine fnZ_of F scRefused (fun a vs H Q E h => ?_) (fun cdv A outer s H vs Q E p hot hr h => ?_)
  · obtain ⟨rfl, _⟩ := h
    rfl
  · obtain ⟨rfl, q⟩ := h
    refine ⟨_, pss_cons (ps_if (pt_val (pe_callB (call_isZT (D := CH K) T.exH hot (List.mem_cons_self ..)) (by rfl) T.fIsi (by decide +kernel) (pa_cons (pv 0) (pa_cons (pe_tup
          (pa_cons (pe_glob (v := .ref _) (by rfl) (T.glo 28) rfl) (pa_cons (pe_glob (v := .ref _) (by rfl) (T.glo 29) rfl) (pa_cons (pe_glob (v := .ref _) (by rfl) (T.glo 30) rfl) (pa_cons (pe_glob (v := .ref _) (by rfl) (T.glo 31) rfl)
          (pa_cons (pe_glob (v := .ref _) (by rfl) (T.glo 32) rfl) (pa_cons (pe_glob (v := .ref _) (by rfl) (T.glo 33) rfl) (pa_cons (pe_glob (v := .ref _) (by rfl) (T.glo 34) rfl) (pa_cons (pe_glob (v := .ref _) (by rfl) (T.glo 35) rfl)
          (pa_cons (pe_glob (v := .ref _) (by rfl) (T.glo 36) rfl) (pa_cons (pe_glob (v := .ref _) (by rfl) (T.glo 37) rfl) (pa_cons (pe_glob (v := .ref _) (by rfl) (T.glo 38) rfl) pa_nil)))))))))))) pa_nil)))) (pss_one (ps_ret pe_bl)) pss_nil)
      (pss_one (ps_ret (pe_and (pe_callB (call_isZ (D := CH K) T.exH hot (List.mem_cons_self ..)) (by rfl) T.fIsi (by decide +kernel) (pa_cons (pv 0) (pa_cons (pe_glob (v := .ref _) (by rfl) (T.glo 26) rfl) pa_nil)))
        (pe_one (pe_callB (call_isZ (D := CH K) T.exH hot (List.mem_cons_self ..)) (by rfl) T.fIsi (by decide +kernel) (pa_cons (pv 0) (pa_cons (pe_bltn (v := .ty "ValueError") (by rfl) T.fVE (by decide +kernel) rfl) pa_nil))))))), ?_⟩
    refine ⟨_, rfl, by show 11 ≤ sizeLine; decide, fun l nl => ?_⟩
    have s1 := same_new (o := .tup (others.map fun x => V.ref (He.ga K x))) nl
    refine ⟨l, _, _, false, rfl, upd_same, cls_all (xs := others), not_all T (fun _ h => h), false, rfl, iteF ?_⟩
    refine ⟨_, rfl, _, _, _, rfl, .own _, T.isH, true, rfl, iteT ?_⟩
    exact ⟨_, rfl, _, _, _, rfl, .ty _, T.isVE, q _ s1⟩
abbrev nRefuses : List Str := ["_law_deed", "_law_net_here", "_law_thing", "_law_refused_here", "_law_e"]
theorem scRefuses : FnScope nRefuses ["_law_deed", "_law_net_here", "_law_thing"] (defScope (top 43)) := ⟨rfl, rfl, rfl, by decide +kernel, rfl, by decide +kernel, by decide +kernel⟩
def spRefuses (K : PySem.W.Frag) : Sp := fun vs H Q _ => ∃ (d : Nat) (p : Addr) (n : Nat) (T : Ties) (x : V), vs = [nV d, .ref p, x] ∧ d < 6 ∧ NetAt K H p n T ∧ 2 ≤ n ∧ n ≤ 32 ∧ Thing H x ∧ house n x = false ∧ ∀ H', Same H H' → Q (.bl true) H'
theorem pss_when {X : Cx} {c : Prop} {ss : List Stmt} {t : TS} (h : c → PSs X ss t) : PSs X ss (fun D σ H => c ∧ t D σ H) := ⟨fun pins s σ H D I q => (h q.1).run pins s σ H D I q.2⟩
theorem ok_refuses {f : Addr} {fd : FuncData} (T : Tx K mg) (F : Fun K "_law_refuses" "_law_refuses" (top 43) f fd) : FnOk P w K mg base CX0 7 f fd ["_law_deed", "_law_net_here", "_law_thing"] (spRefuses K) := by
  obtain ⟨fdR, FR⟩ := T.says.1.def_ 21 (d := dfn 42 "_law_refused") rfl
  have FR' : Fun K "_law_refused" "_law_refused" (top 42) (He.ga K "_law_refused") fdR := fun_of FR
  have bR : Binds K fdR ["_law_e"] [] := FR'.binds fun _ _ _ _ _ _ us hl => match us, hl with | [_], _ => rfl
  refine F.ok scRefuses (fun vs H Q E h => ?_) (fun cdv A outer s H vs Q E hr h => ?_)
  · obtain ⟨d, p, n, G, x, rfl, _⟩ := h
    rfl
  · obtain ⟨d, p, n, G, x, rfl, hd, N, n2, n32, hx, hh, q⟩ := h
    have OR := ok_refused (P := P) (w := w) (base := base) T FR'
    refine ⟨_, pss_cons (ps_set (i := 3) scRefuses.nd rfl (.inl rfl) pe_bl)
      (pss_cons (ps_try_as (i := 4) (tb := fun W => tDrop (tCallS (spAsked K) (WE W) (tCons (tVar 0) (tCons (tVar 1) (tCons (tVar 2) tNil)))))
          (ts := fun a cls d D σ H => (cls = .ref (CH K) ∧ d = none) ∧ tAsg (tCallS (spRefused a) (fun _ => E0) (tCons (tVar 4) tNil)) (gName 3) D σ H) (Wout := fun _ _ _ _ => False) rfl rfl scRefuses.nd rfl rfl ⟨rfl, by decide, .inl (T.glo 27)⟩ takes0
          (fun W pn xe tk _ => pss_one (ps_expr (by exact (pe_canS (can_asked T) hr rfl (fun σ => passAt tk σ) (by exact (pa_cons (pv 0) (pa_cons (pv 1) (pa_cons (pv 2) pa_nil))))))))
          (fun a oe cls d pn hz hf => pss_when fun c => by
            obtain ⟨rfl, rfl⟩ := c
            exact pss_one (ps_set (i := 3) scRefuses.nd rfl (.inl rfl) (by exact (pe_callZ (p := (a, oe)) OR ⟨by have := hr.dp; show A.depth + 1 + 3 * 1 + 5 < _; simp only [Around.deeper] at this; omega, by have := hr.un; show A.units + 3 + 16 * 1 + 200 < _; simp only [Around.deeper] at this; omega⟩ ⟨hz, hf⟩ (List.mem_cons_self ..) rfl (T.glo 21) FR'.kp bR (fun σ _ _ _ _ _ _ z => z.elim) (by exact (pa_cons (pv 4) pa_nil)))))))
      (pss_one (ps_ret (pv 3)))), ?_⟩
    refine ⟨_, rfl, _, rfl, _, rfl, d, p, n, G, x, rfl, hd, N, n2, n32, hx, hh, ?_⟩
    refine ⟨true, He.exm_ok (T.says.1.fact 68 (f := .exm "NoHouse" "BeatError" true)), fun _ a na => ⟨⟨rfl, rfl⟩, _, rfl, rfl, fun H' s1 => ?_⟩, fun z => Bool.noConfusion z⟩
    exact ⟨_, rfl, q _ s1⟩
theorem can_refuses (T : Tx K mg) : Can P w K mg base CX0 7 "_law_refuses" ["_law_deed", "_law_net_here", "_law_thing"] (spRefuses K) :=
  T.can 22 rfl rfl (fun _ _ _ _ _ _ us hl => match us, hl with | [_, _, _], _ => rfl) fun _ _ F => ok_refuses T F
end
end NW
-- NwEmptied
set_option Elab.async false
set_option linter.all false
set_option maxRecDepth 100000
set_option maxHeartbeats 4200000
namespace NW
open PySem PySem.Spec L2 PyProof.Rows
/-! ## _law_emptied -/
def kD (ns ms : List Nat) (d : Nat) : PyData := .list [iD ns, iD ms, .int (d : Int)]
theorem kD_shaped (ns ms : List Nat) (d : Nat) : SeqAt.shaped (kD ns ms d) = true := by
  have h1 := iDs_deep ns
  have h2 := iDs_deep ms
  refine shaped_mk (by simp [kD, iD, PyData.canLay0, PyData.canLayAll0, iDs_lay]) ?_
  simp only [kD, iD, PyData.depth, PyData.depthAll]
  omega
theorem kD_eqv (ns ms : List Nat) (d : Nat) : PyData.eqv (kD ns ms d) (kD ns ms d) = true := by
  have h1 := iD_eqv ns ns
  have h2 := iD_eqv ms ms
  have h3 := eqv_int d d
  simp only [kD, PyData.eqv, PyData.eqvAll] at h1 h2 h3 ⊢
  simp [h1, h2]
theorem dp_kD {K : PySem.W.Frag} {H : Hp} {l a b : Addr} {ns ms : List Nat} {d : Nat} (h : H l = some (.lst [.ref a, .ref b, nV d])) (ha : NL H a ns) (hb : NL H b ms) : Dp K H (.ref l) (kD ns ms d) :=
  .lst (SqL.of h) (.cons (dp_nl ha) (.cons (dp_nl hb) (.cons (.int _) .nil)))
section
variable {P : Program} {w : World} {base : Heap} {K : PySem.W.Frag} {mg : Str → Option Value}
def spEmptied (K : PySem.W.Frag) : Sp := fun vs H Q _ => ∃ (p : Addr) (n h m : Nat) (T : Ties), vs = [.ref p, nV h, nV m] ∧ NetAt K H p n T ∧ h < n ∧ m < n ∧ n ≤ 32 ∧ ∀ H', Same H H' → Q (.bl true) H'
abbrev nEmptied : List Str := ["_law_net_here", "_law_house", "_law_home", "_law_kept"]
theorem scEmptied : FnScope nEmptied ["_law_net_here", "_law_house", "_law_home"] (defScope (top 44)) := ⟨rfl, rfl, rfl, by decide +kernel, rfl, by decide +kernel, by decide +kernel⟩
theorem nat_inj {a b : Nat} (h : nV a = nV b) : a = b := by have := V.int.inj h; omega
theorem ok_emptied {f : Addr} {fd : FuncData} (T : Tx K mg) (F : Fun K "_law_emptied" "_law_emptied" (top 44) f fd) : FnOk P w K mg base CX0 6 f fd ["_law_net_here", "_law_house", "_law_home"] (spEmptied K) := by
  refine F.ok scEmptied (fun vs H Q E h => ?_) (fun cdv A outer s H vs Q E hr h => ?_)
  · obtain ⟨p, n, h, m, G, rfl, _⟩ := h
    rfl
  · obtain ⟨p, n, h, m, G, rfl, N, hh, hm, n32, q⟩ := h
    have h64 := hr.units
    refine ⟨_, pss_cons (ps_set (i := 3) scEmptied.nd rfl (.inl rfl) (pe_lst (pa_cons (pe_canM (E := E0) (pv 0) T.cls (canM_out T) (hr.mono (by decide)) passL (pa_cons (pv 1) pa_nil))
        (pa_cons (pe_canM (E := E0) (pv 0) T.cls (canM_good T) hr passL (pa_cons (pv 1) (pa_cons (pv 2) pa_nil)))
        (pa_cons (pe_canM (E := E0) (pv 0) T.cls (canM_far T) (hr.mono (by decide)) passL (pa_cons (pv 1) (pa_cons (pv 2) pa_nil))) pa_nil)))))
      (pss_cons (ps_expr (pe_bm0 PySem.F.plainAttrs_list PySem.F.slot_list_clear PySem.F.type_list_clear mt_clear (pe_canM (E := E0) (pv 0) T.cls (canM_out T) (hr.mono (by decide)) passL (pa_cons (pv 1) pa_nil))))
      (pss_cons (ps_expr (appK K (pe_canM (E := E0) (pv 0) T.cls (canM_good T) hr passL (pa_cons (pv 1) (pa_cons (pv 2) pa_nil))) pe_int))
      (pss_one (ps_ret (pe_cmpR (op_eqD h64) (pe_lst (pa_cons (pe_canM (E := E0) (pv 0) T.cls (canM_out T) (hr.mono (by decide)) passL (pa_cons (pv 1) pa_nil))
        (pa_cons (pe_canM (E := E0) (pv 0) T.cls (canM_good T) hr passL (pa_cons (pv 1) (pa_cons (pv 2) pa_nil)))
        (pa_cons (pe_canM (E := E0) (pv 0) T.cls (canM_far T) (hr.mono (by decide)) passL (pa_cons (pv 1) (pa_cons (pv 2) pa_nil))) pa_nil)))) (pv 3) (nomark _)))))), ?_⟩
    obtain ⟨dx, ar, ou, fr, ors, frs, h1, _⟩ := N.ex
    have ho : house (n : Int) (nV h) = false → False := fun c => by rw [nat_house hh] at c; cases c
    have h2 : house (n : Int) (nV h) = false ∨ house (n : Int) (nV m) = false → False := fun c => by
      rw [nat_house hh, nat_house hm] at c; rcases c with c | c <;> cases c
    have rl : (rowOf n G h).length ≤ 1000 := Nat.le_trans (row_len hh) (by omega)
    have gl : (goodOf n G h m).length ≤ 1000 := by
      have a1 := List.length_filter_le (fun u => decide (distAt n G u m < distAt n G h m)) (rowOf n G h)
      unfold goodOf
      omega
    -- kept
    refine ⟨_, rfl, p, dx, _, rfl, h1, nm_out, _, rfl, p, n, G, nV h, rfl, N, .int _, fun a ea ha H1 l1 s1 n1 hl1 => ?_, ho⟩
    have ea := (nat_inj ea).symm
    subst ea
    refine ⟨_, rfl, p, dx, _, rfl, s1 _ _ h1, nm_good, _, rfl, _, rfl, p, n, G, nV a, nV m, rfl, N.same s1, n32, .int _, .int _, fun a' b ea eb ha' hb H2 l2 s2 n2 hl2 => ?_, h2⟩
    have ea := (nat_inj ea).symm
    have eb := (nat_inj eb).symm
    subst ea eb
    have s12 := s1.trans s2
    refine ⟨_, rfl, p, dx, _, rfl, s12 _ _ h1, nm_far, _, rfl, _, rfl, p, n, G, nV a', nV b, rfl, N.same s12, .int _, .int _, fun a b' ea eb ha hb' => ?_, h2⟩
    have ea := nat_inj ea
    have eb := nat_inj eb
    subst ea eb
    refine ⟨by show 3 ≤ sizeLine; decide, fun k nk => ?_⟩
    have sk := same_new (o := .lst [.ref l1, .ref l2, nV (distAt n G a' b)]) nk
    have s3 : Same H _ := s12.trans sk
    have hk : (upd H2 k (.lst [.ref l1, .ref l2, nV (distAt n G a' b)])) k = some (.lst [.ref l1, .ref l2, nV (distAt n G a' b)]) := upd_same
    have k1 : NL _ l1 (rowOf n G a') := sk _ _ (s2 _ _ hl1)
    have k2 : NL _ l2 (goodOf n G a' b) := sk _ _ hl2
    generalize upd H2 k (.lst [.ref l1, .ref l2, nV (distAt n G a' b)]) = H3 at s3 hk k1 k2
    -- out(house).clear()
    refine ⟨_, rfl, p, dx, _, rfl, s3 _ _ h1, nm_out, _, rfl, p, n, G, nV a', rfl, N.same s3, .int _, fun a ea ha2 H4 l4 s4 n4 hl4 => ?_, ho⟩
    have ea := nat_inj ea
    subst ea
    refine ⟨.inl ⟨rfl, _, SqL.of hl4⟩, l4, _, rfl, rfl, hl4, ?_⟩
    have s5 : Same H3 (upd H4 l4 (.lst [])) := same_put s4 n4
    generalize upd H4 l4 (.lst []) = H5 at s5
    have s05 := s3.trans s5
    -- good(house, home).append(0)
    refine ⟨_, rfl, p, dx, _, rfl, s05 _ _ h1, nm_good, _, rfl, _, rfl, p, n, G, nV a', nV b, rfl, N.same s05, n32, .int _, .int _, fun a b' ea eb ha3 hb3 H6 l6 s6 n6 hl6 => ?_, h2⟩
    have ea := nat_inj ea
    have eb := nat_inj eb
    subst ea eb
    refine ⟨.inl ⟨rfl, _, SqL.of hl6⟩, l6, _, _, rfl, rfl, hl6, by rw [List.length_map]; exact small1000 gl, ?_⟩
    have s7 : Same H5 (upd H6 l6 (.lst ((goodOf n G a' b).map nV ++ [.int 0]))) := same_put s6 n6
    generalize upd H6 l6 (.lst ((goodOf n G a' b).map nV ++ [.int 0])) = H7 at s7
    have s07 := s05.trans s7
    have s37 := s5.trans s7
    -- asked again
    refine ⟨_, rfl, p, dx, _, rfl, s07 _ _ h1, nm_out, _, rfl, p, n, G, nV a', rfl, N.same s07, .int _, fun a ea ha4 H8 l8 s8 n8 hl8 => ?_, ho⟩
    have ea := nat_inj ea
    subst ea
    have s08 := s07.trans s8
    refine ⟨_, rfl, p, dx, _, rfl, s08 _ _ h1, nm_good, _, rfl, _, rfl, p, n, G, nV a', nV b, rfl, N.same s08, n32, .int _, .int _, fun a b' ea eb ha5 hb5 H9 l9 s9 n9 hl9 => ?_, h2⟩
    have ea := nat_inj ea
    have eb := nat_inj eb
    subst ea eb
    have s09 := s08.trans s9
    refine ⟨_, rfl, p, dx, _, rfl, s09 _ _ h1, nm_far, _, rfl, _, rfl, p, n, G, nV a', nV b, rfl, N.same s09, .int _, .int _, fun a b' ea eb ha6 hb6 => ?_, h2⟩
    have ea := nat_inj ea
    have eb := nat_inj eb
    subst ea eb
    refine ⟨by show 3 ≤ sizeLine; decide, fun z nz => ?_⟩
    have sz := same_new (o := .lst [.ref l8, .ref l9, nV (distAt n G a' b)]) nz
    have s3z := ((s37.trans s8).trans s9).trans sz
    refine ⟨_, rfl, kD (rowOf n G a') (goodOf n G a' b) (distAt n G a' b), kD (rowOf n G a') (goodOf n G a' b) (distAt n G a' b), dp_kD upd_same (sz _ _ (s9 _ _ hl8)) (sz _ _ hl9), dp_kD (s3z _ _ hk) (s3z _ _ k1) (s3z _ _ k2), kD_shaped _ _ _, kD_shaped _ _ _, ?_⟩
    rw [kD_eqv]
    exact q _ (s09.trans sz)
theorem can_emptied (T : Tx K mg) : Can P w K mg base CX0 6 "_law_emptied" ["_law_net_here", "_law_house", "_law_home"] (spEmptied K) :=
  T.can 23 rfl rfl (fun _ _ _ _ _ _ us hl => match us, hl with | [_, _, _], _ => rfl) fun _ _ F => ok_emptied T F
end
end NW
-- NwSome
set_option Elab.async false
set_option linter.all false
set_option maxRecDepth 100000
set_option maxHeartbeats 4200000
namespace NW
open PySem PySem.Spec L2 PyProof.Rows
section
variable {P : Program} {w : World} {base : Heap} {K : PySem.W.Frag} {mg : Str → Option Value}
/-- c houses of n, none twice -/
def spSome : Sp := fun vs H Q _ => ∃ (p : Addr) (n c : Nat), vs = [.ref p, nV n, nV c] ∧ Pot H p ∧ c ≤ n ∧ n ≤ 1000 ∧
  ∀ (l : Addr) (out : List Nat) H', out.Nodup → (∀ x ∈ out, x < n) → out.length = c → (c = n → out.Perm (List.range n)) → H l = none → NL H' l out → Pot H' p → But p H H' → Q (.ref l) H'
theorem rgV_zero (n : Nat) : rgV 0 (n : Int) = (List.range n).map nV := by
  unfold rgV
  have e : ((n : Int) - 0).toNat = n := by omega
  rw [e]
  apply List.map_congr_left
  intro i _
  show V.int (0 + (i : Int)) = V.int (i : Int)
  rw [Int.zero_add]
abbrev nSome : List Str := ["_law_pot_here", "_law_many", "_law_count", "_law_left", "_law_k"]
theorem scSome : FnScope nSome ["_law_pot_here", "_law_many", "_law_count"] (defScope (top 32)) := ⟨rfl, rfl, rfl, by decide +kernel, rfl, by decide +kernel, by decide +kernel⟩
theorem ok_some {f : Addr} {fd : FuncData} (T : Tx K mg) (F : Fun K "_law_some" "_law_some" (top 32) f fd) : FnOk P w K mg base CX0 2 f fd ["_law_pot_here", "_law_many", "_law_count"] spSome := by
  refine F.ok scSome (fun vs H Q E h => ?_) (fun cdv A outer s H vs Q E hr h => ?_)
  · obtain ⟨p, n, c, rfl, _⟩ := h
    rfl
  · obtain ⟨p, n, c, rfl, hp, hc, hn, q⟩ := h
    refine ⟨_, pss_cons (ps_set (i := 3) scSome.nd rfl (.inr rfl) (pe_listRg rfl (by rfl) T.fList (prg_1 (by rfl) T.fRange (pv 1))))
      (pss_one (ps_ret (pe_lc (own := [("_law_k", 4)]) (g := gName 4) (tt := tYes) rfl scSome.nd (pi_range1 (by rfl) T.fRange (pa_cons (pv 2) pa_nil))
        (blkOk_by (N := nSome) (sc := defScope (top 32)) (by decide +kernel)) (fun _ _ _ _ _ => pg_name (i := 4) scSome.nd rfl (.inl rfl)) (fun _ _ _ _ _ => pts_nil)
        (fun _ _ _ _ _ => bmK K PySem.F.plainAttrs_list PySem.F.slot_list_pop PySem.F.type_list_pop mt_popAt (pv 3)
          (pa_cons (pe_can (can_digit T) hr (by rfl) pass0 (pa_cons (pv 0) (pa_cons (pe_callB (clen K) (by rfl) T.fLen PySem.boot_len (pa_cons (pv 3) pa_nil)) pa_nil))) pa_nil))))), ?_⟩
    refine ⟨_, rfl, _, rfl, RgOk.of_le (by decide) (by omega) (by decide) (by omega), fun ll nll => ?_⟩
    have npl : p ≠ ll := hp.ne nll
    have s1 : Same H (upd H ll (.lst (rgV 0 (n : Int)))) := same_new nll
    refine ⟨_, rfl, (c : Int), rfl, by omega, by omega, fun D nD => ?_⟩
    have nDll : D ≠ ll := fun e => by rw [e, upd_same] at nD; cases nD
    have nDp : p ≠ D := (hp.same s1).ne nD
    have hD0 : H D = none := s1.free nD
    refine lc_range (lo := 0) (n := c) (fun i H1 => ∃ out left : List Nat, Pot H1 p ∧ NL H1 ll left ∧ NL H1 D out ∧ (out ++ left).Perm (List.range n) ∧ out.length = i ∧ But p H H1) ?_ ?_ ?_
    · refine ⟨[], List.range n, (hp.same s1).same (same_new nD), ?_, upd_same, List.Perm.refl _, rfl, But.of (s1.trans (same_new nD))⟩
      rw [NL, upd_ne nDll.symm, upd_same, rgV_zero]
    · intro i H1 hi hPv
      obtain ⟨out, left, hp1, hl1, hD1, pm, hlen, sb⟩ := hPv
      have hlt : out.length + left.length = n := by
        have := pm.length_eq
        rwa [List.length_append, List.length_range] at this
      have hpos : 0 < left.length := by omega
      refine ⟨rfl, ?_⟩
      refine ⟨_, rfl, .inl ⟨rfl, _, SqL.of hl1⟩, _, rfl, _, rfl, ll, _, rfl, .inl (SqL.of hl1), ?_⟩
      refine ⟨p, left.length, by rw [List.length_map]; rfl, hp1, hpos, by omega, fun d H2 hd hp2 sb2 => ?_⟩
      have hl2 : NL H2 ll left := sb2 ll _ npl.symm hl1
      have hD2 : NL H2 D out := sb2 D _ nDp.symm hD1
      have hix : seqIndex? (d : Int) (left.map nV).length = some d := (ixN_seq (by
        unfold ixN
        rw [if_pos (by omega), if_pos (by rw [List.length_map]; omega)]
        rfl)).1
      refine ⟨ll, _, _, d, nV left[d], rfl, rfl, hl2, by omega, by omega, hix, nl_at hd, ?_⟩
      have hD3 : (upd H2 ll (.lst ((left.map nV).eraseIdx d))) D = some (.lst (out.map nV)) := by rw [upd_ne nDll]; exact hD2
      refine ⟨_, hD3, ?_, out ++ [left[d]], left.eraseIdx d, ?_, ?_, ?_, ?_, ?_, ?_⟩
      · rw [List.length_map]; exact small1000 (by omega)
      · obtain ⟨a, b, h⟩ := hp2
        exact ⟨a, b, by rw [upd_ne nDp, upd_ne npl]; exact h⟩
      · rw [NL, upd_ne nDll.symm, upd_same, map_eraseIdx']
      · rw [NL, upd_same, map_snoc]
      · refine List.Perm.trans ?_ pm
        rw [List.append_assoc]
        exact List.Perm.append_left out (perm_eraseIdx left d hd).symm
      · rw [List.length_append, hlen]; rfl
      · intro b o hb e
        have e1 := (sb.trans sb2) b o hb e
        rw [upd_ne (ne_of_none e hD0), upd_ne (ne_of_none e nll)]
        exact e1
    · intro H1 hPv
      obtain ⟨out, left, hp1, hl1, hD1, pm, hlen, sb⟩ := hPv
      have nd : (out ++ left).Nodup := pm.nodup_iff.mpr List.nodup_range
      refine q D out H1 (List.nodup_append.mp nd).1 (fun x hx => List.mem_range.mp (pm.mem_iff.mp (List.mem_append_left _ hx))) hlen (fun e => ?_) hD0 hD1 hp1 sb
      have h0 : left = [] := by
        have := pm.length_eq
        rw [List.length_append, List.length_range] at this
        exact List.eq_nil_of_length_eq_zero (by omega)
      rw [h0, List.append_nil] at pm
      exact pm
theorem can_some (T : Tx K mg) : Can P w K mg base CX0 2 "_law_some" ["_law_pot_here", "_law_many", "_law_count"] spSome :=
  T.can 11 rfl rfl (fun _ _ _ _ _ _ us hl => match us, hl with | [_, _, _], _ => rfl) fun _ _ F => ok_some T F
end
end NW
-- NwRound
set_option Elab.async false
set_option linter.all false
set_option maxRecDepth 100000
set_option maxHeartbeats 4200000
namespace NW
open PySem PySem.Spec L2 PyProof.Rows
/-! ## _law_round -/
theorem PL.nePot {H : Hp} {l p : Addr} {ts : List (Addr × Nat × Nat)} (h : PL H l ts) (hp : Pot H p) : l ≠ p := by
  obtain ⟨a, b, hp⟩ := hp
  refine ne_of h.at_ hp fun e => ?_
  have e2 := HO.lst.inj e
  cases ts with
  | nil => cases e2
  | cons t ts => injection e2 with e3 _; cases e3
theorem min4 {n : Nat} (h : 2 ≤ n) : (if (n : Int) - 1 < 4 then (n : Int) - 1 else 4) = ((min 4 (n - 1) : Nat) : Int) := by
  split <;> omega
section
variable {P : Program} {w : World} {base : Heap} {K : PySem.W.Frag} {mg : Str → Option Value}
def spRound : Sp := fun vs H Q _ => ∃ (p l : Addr) (n : Nat) (ts : List (Addr × Nat × Nat)), vs = [.ref p, nV n, .ref l] ∧ Pot H p ∧ 2 ≤ n ∧ n ≤ 32 ∧ PL H l ts ∧ Good n (ts.map (·.2)) ∧
  ∀ (l' : Addr) (ts' : List (Addr × Nat × Nat)) H', PL H' l' ts' → Good n (ts'.map (·.2)) → Pot H' p → But p H H' → Q (.ref l') H'
abbrev nRound : List Str := ["_law_pot_here", "_law_many", "_law_ties", "_law_some_here", "_law_more", "_law_full", "_law_k", "_law_one", "_law_other", "_law_tie"]
theorem scRound : FnScope nRound ["_law_pot_here", "_law_many", "_law_ties"] (defScope (top 33)) := ⟨rfl, rfl, rfl, by decide +kernel, rfl, by decide +kernel, by decide +kernel⟩
theorem ok_round {f : Addr} {fd : FuncData} (T : Tx K mg) (F : Fun K "_law_round" "_law_round" (top 33) f fd) : FnOk P w K mg base CX0 3 f fd ["_law_pot_here", "_law_many", "_law_ties"] spRound := by
  refine F.ok scRound (fun vs H Q E h => ?_) (fun cdv A outer s H vs Q E hr h => ?_)
  · obtain ⟨p, l, n, ts, rfl, _⟩ := h
    rfl
  · obtain ⟨p, l, n, ts, rfl, hp, n2, n32, hl, g, q⟩ := h
    have h64 := hr.units
    have h65 : (A.deeper (envOfC "_law_round" (defScope (top 33)) s.heap.objs.size f cdv)).units + 65 < cLine := by have := hr.un; omega
    refine ⟨_, pss_cons (ps_set (i := 3) scRound.nd rfl (.inr rfl) (pe_can (can_some T) hr (by rfl) pass0 (pa_cons (pv 0) (pa_cons (pv 1) (pa_cons (pe_op op_add pe_int
          (pe_can (can_digit T) (hr.mono (by decide)) (by rfl) pass0 (pa_cons (pv 0) (pa_cons (pe_callB (call_min2 rfl) (by rfl) T.fMin (by decide +kernel) (pa_cons pe_int (pa_cons (pe_op op_sub (pv 1) pe_int) pa_nil))) pa_nil)))) pa_nil)))))
      (pss_cons (ps_setLc (i := 4) (own := [("_law_k", 6)]) (g := gName 6) (tt := tYes) rfl scRound.nd rfl rfl (sw_true rfl rfl rfl (by decide +kernel))
        (pi_range1 (by rfl) T.fRange (pa_cons (pe_callB call_len_seq (by rfl) T.fLen PySem.boot_len (pa_cons (pv 3) pa_nil)) pa_nil)) (blkOk_by (N := nRound) (sc := defScope (top 33)) (by decide +kernel))
        (fun _ _ _ _ _ => pg_name (i := 6) scRound.nd rfl (.inl rfl)) (fun _ _ _ _ _ => pts_nil)
        (fun _ _ _ _ _ => pe_tup (pa_cons (pe_ix (ixL K) (pv 3) (pe_op op_sub (pv 6) pe_int) (fun _ _ => rfl)) (pa_cons (pe_ix (ixL K) (pv 3) (pv 6) (fun _ _ => rfl)) pa_nil))))
      (pss_cons (ps_setLc (i := 5) (own := [("_law_one", 7), ("_law_other", 8)]) (g := gTup K 2 (gCons (gName 7) (gCons (gName 8) gNil))) rfl scRound.nd rfl rfl (sw_true rfl rfl rfl (by decide +kernel))
        (pi_list (pv 4)) (blkOk_by (N := nRound) (sc := defScope (top 33)) (by decide +kernel))
        (fun _ _ _ _ _ => tupK K rfl (pgs_cons (pg_name (i := 7) scRound.nd rfl (.inr rfl)) (pgs_cons (pg_name (i := 8) scRound.nd rfl (.inl rfl)) pgs_nil)))
        (fun _ _ _ _ _ => pts_one (pt_cmpR op_gt (pe_callB (clen K) (by rfl) T.fLen PySem.boot_len (pa_cons
          (pe_lc (own := [("_law_tie", 9)]) (g := gName 9) rfl scRound.nd (piL K (pv 2)) (blkOk_by (N := nRound) (by kernel_rfl)) (fun _ _ _ _ _ => pg_name (i := 9) scRound.nd rfl (.inl rfl))
            (fun _ _ _ _ _ => pts_one (pt_cmpR op_eq (pe_ix (ixT K) (pv 9) pe_int (fun _ _ => rfl)) (pv 7) (nomark _))) (fun _ _ _ _ _ => pv 9)) pa_nil)) pe_int (nomark _)))
        (fun _ _ _ _ _ => pv 7))
      (pss_cons (ps_if (PW.pt (pw_and (pt_cmpR (op_eqD h64) (pv 5) (pe_lst pa_nil) (nomark _)) (pw_and1 (pt_cmpR (op_eqD h64)
          (pe_lc (own := [("_law_tie", 9)]) (g := gName 9) rfl scRound.nd (pi_list (pv 4)) (blkOk_by (N := nRound) (sc := defScope (top 33)) (by decide +kernel)) (fun _ _ _ _ _ => pg_name (i := 9) scRound.nd rfl (.inl rfl))
            (fun _ _ _ _ _ => pts_one (pt_cmpR (oinD K h65) (pv 9) (pv 2) (by rfl))) (fun _ _ _ _ _ => pv 9)) (pe_lst pa_nil) (nomark _)))))
          (pss_one (ps_ret (pe_op op_cat (pv 2) (pv 4)))) pss_nil)
      (pss_one (ps_ret (pv 2)))))), ?_⟩
    have hlp := hl.nePot hp
    have few : ts.length ≤ 1000 := by have := g.len; rw [List.length_map] at this; omega
    -- the houses of the round
    refine ⟨_, rfl, _, rfl, _, rfl, _, rfl, _, _, rfl, rfl, _, _, rfl, p, min 4 (n - 1), by show [V.ref p, V.int (if (n : Int) - 1 < 4 then (n : Int) - 1 else 4)] = _; rw [min4 n2], hp, by omega, by omega, fun d H1 hd hp1 sb1 => ?_⟩
    refine ⟨_, _, rfl, rfl, p, n, 2 + d, rfl, hp1, by omega, by omega, fun ls out H2 nd hlt hlen _ hls hNL hp2 sb2 => ?_⟩
    have hl2 : PL H2 l ts := (hl.butPot sb1 hlp hp).butPot sb2 hlp hp1
    have sb12 : But p H H2 := sb1.trans sb2
    -- the ties of the round
    refine ⟨_, rfl, ls, _, rfl, .inl (SqL.of hNL), _, rfl, by omega, by rw [List.length_map]; omega, fun D nD => ?_⟩
    refine rd_cyc (K := K) (o := 3) (k := 6) (l := ls) (ns := out) nD (by rw [List.length_map]; omega) (fun _ => rfl) (fun _ => rfl) (fun _ => rfl) hNL (by omega) (fun ms H3 s3 hD hm => ?_)
    have hl3 := hl2.same s3
    have hmlen : ms.length ≤ 1000 := by
      have := congrArg List.length hm
      rw [List.length_map] at this
      unfold cyc at this
      rw [List.length_map, List.length_range] at this
      omega
    -- which of them are full
    refine ⟨_, rfl, D, rfl, ⟨_, SqL.of hD.at_⟩, fun F nF => ?_⟩
    refine lc_list (K := K) (a := D) (xs := ms.map fun t => V.ref t.1) (fun i H4 => Same H3 H4 ∧ NL H4 F (((ms.take i).filter fun t => decide (7 < (ts.map (·.2)).countP (fromH t.2.1))).map fun t => t.2.1)) ?_ ?_ ?_ ?_
    · exact ⟨same_new nF, upd_same⟩
    · rintro i H4 _ ⟨s4, _⟩
      exact s4.seq (SqL.of hD.at_)
    · rintro i x H4 hx ⟨s4, hF⟩
      obtain ⟨t, ht, rfl⟩ := map_at hx
      obtain ⟨_, htup⟩ := hD.get ht
      have hfs := filter_snoc (fun t : Addr × Nat × Nat => decide (7 < (ts.map (·.2)).countP (fromH t.2.1))) ht
      refine ⟨t.1, _, rfl, SqT.of (s4 _ _ htup), rfl, _, _, rfl, _, _, rfl, rfl, rfl, ?_⟩
      refine ⟨_, rfl, l, rfl, ⟨_, SqL.of (hl3.same s4).at_⟩, fun D2 nD2 => ?_⟩
      refine rd_from (K := K) (b := 7) (it := 9) (l := l) (ts := ts) (h := t.2.1) nD2 (fun _ => rfl) (fun _ => rfl) (fun _ => rfl) (hl3.same s4) few (fun H5 s5 hD2 => ?_)
      refine ⟨D2, _, rfl, .inl (SqL.of hD2), _, _, rfl, rfl, _, rfl, ?_⟩
      rw [List.length_map, outOf_len]
      by_cases c : 7 < (ts.map (·.2)).countP (fromH t.2.1)
      · rw [decide_eq_true (by omega)]
        refine iteT ⟨_, rfl, _, s5 _ _ hF, ?_, ?_, ?_⟩
        · rw [List.length_map, List.length_map]
          exact small1000 (Nat.le_trans (filter_take_len _ _ _) hmlen)
        · intro b o e
          have e1 := s5 _ _ (s4 b o e)
          rw [upd_ne (ne_of_none e nF)]
          exact e1
        · rw [NL, upd_same, hfs, if_pos (decide_eq_true c), map_snoc, map_snoc]
      · rw [decide_eq_false (by omega)]
        refine iteF ⟨s4.trans s5, ?_⟩
        rw [hfs, if_neg (by rw [decide_eq_false c]; exact Bool.false_ne_true), List.append_nil]
        exact s5 _ _ hF
    · rintro H4 ⟨s4, hF⟩
      rw [List.length_map, List.take_length] at hF
      have hl4 := hl3.same s4
      have hD4 := hD.same s4
      have fin : ∀ H5 : Hp, Same H4 H5 → Q (.ref l) H5 := fun H5 s5 => by
        have s25 := (s3.trans s4).trans s5
        exact q l ts H5 (hl2.same s25) g (hp2.same s25) (sb12.trans (But.of s25))
      refine ⟨_, rfl, Nat.zero_le _, fun z nz => ?_⟩
      have sz := same_new (o := .lst []) nz
      refine ⟨iD _, .list [], dp_nl (sz _ _ hF), dp_nil upd_same, iD_shaped _, nilD_shaped, _, rfl, ?_⟩
      rw [iD, eqv_nil]
      by_cases c1 : ((ms.filter fun t => decide (7 < (ts.map (·.2)).countP (fromH t.2.1))).map fun t => t.2.1) = []
      · rw [c1]
        -- none is there already
        refine ⟨_, rfl, D, rfl, ⟨_, SqL.of (sz _ _ hD4.at_)⟩, fun G nG => ?_⟩
        refine lc_list (K := K) (a := D) (xs := ms.map fun t => V.ref t.1) (fun i H5 => Same H4 H5 ∧ H5 G = some (.lst (((ms.take i).filter fun t => decide (t.2 ∈ ts.map (·.2))).map fun t => V.ref t.1))) ?_ ?_ ?_ ?_
        · exact ⟨sz.trans (same_new nG), upd_same⟩
        · rintro i H5 _ ⟨s5, _⟩
          exact s5.seq (SqL.of hD4.at_)
        · rintro i x H5 hx ⟨s5, hG⟩
          obtain ⟨t, ht, rfl⟩ := map_at hx
          obtain ⟨_, htup⟩ := hD4.get ht
          have hfs := filter_snoc (fun t : Addr × Nat × Nat => decide (t.2 ∈ ts.map (·.2))) ht
          refine ⟨rfl, _, rfl, _, rfl, pD t.2, (ts.map (·.2)).map pD, dp_pair (p := t.2) (s5 _ _ htup), dp_pl (hl4.same s5), pD_shaped _, psD_shaped _, _, rfl, ?_⟩
          rw [psD_any]
          by_cases c : t.2 ∈ ts.map (·.2)
          · rw [decide_eq_true c]
            refine iteT ⟨_, rfl, _, hG, ?_, ?_, ?_⟩
            · rw [List.length_map]
              exact small1000 (Nat.le_trans (filter_take_len _ _ _) hmlen)
            · intro b o e
              rw [upd_ne (ne_of_none (sz _ _ e) nG)]
              exact s5 _ _ e
            · rw [upd_same, hfs, if_pos (decide_eq_true c), map_snoc]
          · rw [decide_eq_false c]
            refine iteF ⟨s5, ?_⟩
            rw [hfs, if_neg (by simp [c]), List.append_nil]
            exact hG
        · rintro H5 ⟨s5, hG⟩
          rw [List.length_map, List.take_length] at hG
          refine ⟨Nat.zero_le _, fun y ny => ?_⟩
          have sy := same_new (o := .lst []) ny
          have hl5 := (hl4.same s5).same sy
          have hD5 := (hD4.same s5).same sy
          have hG5 : PL (upd H5 y (.lst [])) G (ms.filter fun t => decide (t.2 ∈ ts.map (·.2))) := ⟨sy _ _ hG, fun t ht => hD5.tup t (List.mem_filter.mp ht).1⟩
          refine ⟨psD _, .list [], dp_pl hG5, dp_nil upd_same, psD_shaped _, nilD_shaped, _, rfl, ?_⟩
          rw [psD, eqv_nil]
          by_cases c2 : (ms.filter fun t => decide (t.2 ∈ ts.map (·.2))) = []
          · rw [c2]
            -- ties + more
            refine ⟨_, rfl, _, rfl, l, D, _, _, rfl, rfl, hl5.at_, hD5.at_, ?_, fun r nr => ?_⟩
            · rw [List.length_map, List.length_map]
              exact small_le (by
                have := g.len
                have h8 := congrArg List.length hm
                rw [List.length_map] at this h8
                unfold cyc at h8
                rw [List.length_map, List.length_range] at h8
                omega)
            · have sr := same_new (o := .lst ((ts.map fun t => V.ref t.1) ++ (ms.map fun t => V.ref t.1))) nr
              have s25 := ((((s3.trans s4).trans s5).trans sy).trans sr)
              refine q r (ts ++ ms) _ ⟨by rw [upd_same, List.map_append], fun t ht => ?_⟩ ?_ (hp2.same s25) (sb12.trans (But.of s25))
              · rcases List.mem_append.mp ht with h | h
                · exact sr _ _ (hl5.tup t h)
                · exact sr _ _ (hD5.tup t h)
              · rw [List.map_append, hm]
                refine good_more g nd (by omega) hlt (fun x hx => ?_) (fun x hx => ?_)
                · rw [← hm] at hx
                  obtain ⟨t, ht, rfl⟩ := List.mem_map.mp hx
                  have := List.filter_eq_nil_iff.mp (List.map_eq_nil_iff.mp c1) t ht
                  simpa using this
                · rw [← hm] at hx
                  obtain ⟨t, ht, rfl⟩ := List.mem_map.mp hx
                  have := List.filter_eq_nil_iff.mp c2 t ht
                  simpa using this
          · have e : (((ms.filter fun t => decide (t.2 ∈ ts.map (·.2))).map (·.2)).map pD).isEmpty = false := by
              cases h : (ms.filter fun t => decide (t.2 ∈ ts.map (·.2))) with
              | nil => exact absurd h c2
              | cons _ _ => rfl
            rw [e]
            exact ⟨_, rfl, fin _ (s5.trans sy)⟩
      · have e : (iDs ((ms.filter fun t => decide (7 < (ts.map (·.2)).countP (fromH t.2.1))).map fun t => t.2.1)).isEmpty = false := by
          cases h : ((ms.filter fun t => decide (7 < (ts.map (·.2)).countP (fromH t.2.1))).map fun t => t.2.1) with
          | nil => exact absurd h c1
          | cons _ _ => rfl
        rw [e]
        exact ⟨_, rfl, fin _ sz⟩
theorem can_round (T : Tx K mg) : Can P w K mg base CX0 3 "_law_round" ["_law_pot_here", "_law_many", "_law_ties"] spRound :=
  T.can 12 rfl rfl (fun _ _ _ _ _ _ us hl => match us, hl with | [_, _, _], _ => rfl) fun _ _ F => ok_round T F
end
end NW
-- NwTree
set_option Elab.async false
set_option linter.all false
set_option maxRecDepth 100000
set_option maxHeartbeats 4200000
namespace NW
open PySem PySem.Spec L2 PyProof.Rows
/-! ## _law_tree -/
theorem cut_to {xs : List V} {k : Nat} (h : k ≤ xs.length) : cutV xs none (some (k : Int)) = xs.take k := by
  unfold cutV
  rw [HT.sIx_none, HT.sIx_nat, List.drop_zero, Nat.min_eq_left h, Nat.sub_zero]
theorem nodup_take_not {o : List Nat} (nd : o.Nodup) {k : Nat} (h : k < o.length) : o[k] ∉ o.take k := fun hm => by
  obtain ⟨j, hj, e⟩ := List.getElem_of_mem hm
  rw [List.length_take] at hj
  rw [List.getElem_take] at e
  exact absurd (nodup_at nd _ _ e) (by omega)
theorem take_next' {o : List Nat} {k : Nat} (h : k < o.length) : o.take (k + 1) = o.take k ++ [o[k]] := take_snoc (List.getElem?_eq_getElem h)
section
variable {P : Program} {w : World} {base : Heap} {K : PySem.W.Frag} {mg : Str → Option Value}
def spTree : Sp := fun vs H Q _ => ∃ (p : Addr) (n : Nat), vs = [.ref p, nV n] ∧ Pot H p ∧ 2 ≤ n ∧ n ≤ 32 ∧
  ∀ (l' : Addr) (ts' : List (Addr × Nat × Nat)) H', PL H' l' ts' → Good n (ts'.map (·.2)) → Pot H' p → But p H H' → Q (.ref l') H'
abbrev nTree : List Str := ["_law_pot_here", "_law_many", "_law_order", "_law_ties", "_law_k", "_law_free", "_law_stem", "_law_house", "_law_tie"]
theorem scTree : FnScope nTree ["_law_pot_here", "_law_many"] (defScope (top 34)) := ⟨rfl, rfl, rfl, by decide +kernel, rfl, by decide +kernel, by decide +kernel⟩
theorem ok_tree {f : Addr} {fd : FuncData} (T : Tx K mg) (F : Fun K "_law_tree" "_law_tree" (top 34) f fd) : FnOk P w K mg base CX0 3 f fd ["_law_pot_here", "_law_many"] spTree := by
  refine F.ok scTree (fun vs H Q E h => ?_) (fun cdv A outer s H vs Q E hr h => ?_)
  · obtain ⟨p, n, rfl, _⟩ := h
    rfl
  · obtain ⟨p, n, rfl, hp, n2, n32, q⟩ := h
    refine ⟨_, pss_cons (ps_set (i := 2) scTree.nd rfl (.inl rfl) (pe_can (can_some T) hr (by rfl) pass0 (pa_cons (pv 0) (pa_cons (pv 1) (pa_cons (pv 1) pa_nil)))))
      (pss_cons (ps_set (i := 3) scTree.nd rfl (.inr rfl) (pe_lst pa_nil))
      (pss_cons (ps_for PassesOwn.never rfl (pi_range2 (by rfl) T.fRange (pa_cons pe_int (pa_cons (pv 1) pa_nil))) (pg_name (i := 4) scTree.nd rfl (.inl rfl))
        (pss_cons (ps_setLc (i := 5) (own := [("_law_house", 7)]) (g := gName 7) rfl scTree.nd rfl rfl (sw_true rfl rfl rfl (by decide +kernel))
          (pi_list (pe_slice sl_list (pv 2) po_none (po_some (pv 4)))) (blkOk_by (N := nTree) (sc := defScope (top 34)) (by decide +kernel)) (fun _ _ _ _ _ => pg_name (i := 7) scTree.nd rfl (.inr rfl))
          (fun _ _ _ _ _ => pts_one (pt_cmpR op_lt (pe_callB (clen K) (by rfl) T.fLen PySem.boot_len (pa_cons
            (pe_lc (own := [("_law_tie", 8)]) (g := gName 8) rfl scTree.nd (piL K (pv 3)) (blkOk_by (N := nTree) (by kernel_rfl)) (fun _ _ _ _ _ => pg_name (i := 8) scTree.nd rfl (.inl rfl))
              (fun _ _ _ _ _ => pts_one (pt_cmpR op_eq (pe_ix (ixT K) (pv 8) pe_int (fun _ _ => rfl)) (pv 7) (nomark _))) (fun _ _ _ _ _ => pv 8)) pa_nil)) pe_int (nomark _)))
          (fun _ _ _ _ _ => pv 7))
        (pss_cons (ps_set (i := 6) scTree.nd rfl (.inl rfl) (pe_ix ix_list (pv 5) (pe_can (can_digit T) (hr.mono (by decide)) (by rfl) pass0 (pa_cons (pv 0) (pa_cons (pe_callB call_len_seq (by rfl) T.fLen PySem.boot_len (pa_cons (pv 5) pa_nil)) pa_nil))) (fun _ _ => rfl)))
        (pss_one (ps_set (i := 3) scTree.nd rfl (.inr rfl) (pe_op op_cat (pv 3) (pe_lst (pa_cons (pe_tup (pa_cons (pv 6) (pa_cons (pe_ix ix_list (pv 2) (pv 4) (fun _ _ => rfl)) pa_nil)))
          (pa_cons (pe_tup (pa_cons (pe_ix ix_list (pv 2) (pv 4) (fun _ _ => rfl)) (pa_cons (pv 6) pa_nil))) pa_nil))))))))) 
      (pss_one (ps_ret (pv 3))))), ?_⟩
    -- order
    refine ⟨_, rfl, _, rfl, _, rfl, p, n, n, rfl, hp, Nat.le_refl _, by omega, fun lo out H1 nd hlt hlen hperm hlo hNL hp1 sb1 => ?_⟩
    have pm := hperm rfl
    -- ties = []
    refine ⟨Nat.zero_le _, fun l0 n0 => ?_⟩
    have s0 := same_new (o := .lst []) n0
    refine ⟨_, rfl, 1, (n : Int), rfl, ⟨by decide, by decide, by omega, by omega⟩, ?_⟩
    have en : ((n : Int) - 1).toNat = n - 1 := by omega
    rw [en]
    refine for_range (lo := 1) (n := n - 1) (fun i σ H2 => ∃ lt ts x4 x5 x6, σ = [some (.ref p), some (nV n), some (.ref lo), some (.ref lt), x4, x5, x6, none, none] ∧ PL H2 lt ts ∧ ts.length = 2 * i ∧
      Part (out.take (i + 1)) (ts.map (·.2)) ∧ (∀ h : i < out.length, (ts.map (·.2)).countP (fromH out[i]) ≤ 1) ∧ Pot H2 p ∧ NL H2 lo out ∧ But p H H2) ?_ ?_ ?_
    · refine ⟨l0, [], none, none, none, rfl, ⟨upd_same, fun t ht => by cases ht⟩, rfl, ?_, fun h => Nat.zero_le _, hp1.same s0, s0 _ _ hNL, sb1.trans (But.of s0)⟩
      have h0 : 0 < out.length := by omega
      rw [take_next' h0, List.take_zero]
      exact part_one _
    · rintro i σ H2 hi ⟨lt, ts, x4, x5, x6, rfl, hl, hlen2, part, last, hp2, hNL2, sb2⟩
      have few : ts.length ≤ 1000 := by omega
      have hk : i + 1 < out.length := by omega
      -- free
      refine ⟨_, rfl, _, rfl, _, rfl, lo, _, rfl, SqL.of hNL2, fun c nc => ?_⟩
      have sc := same_new (o := .lst (cutV (out.map nV) none (some (1 + (i : Int))))) nc
      have ek : (1 : Int) + (i : Int) = ((i + 1 : Nat) : Int) := by omega
      have hcut : cutV (out.map nV) none (some (1 + (i : Int))) = (out.take (i + 1)).map nV := by
        rw [ek, cut_to (by rw [List.length_map]; omega), List.map_take]
      have hc : (upd H2 c (.lst (cutV (out.map nV) none (some (1 + (i : Int)))))) c = some (.lst ((out.take (i + 1)).map nV)) := by rw [upd_same, hcut]
      generalize upd H2 c (.lst (cutV (out.map nV) none (some (1 + (i : Int))))) = H3 at sc hc
      have hl3 := hl.same sc
      refine ⟨c, rfl, ⟨_, SqL.of hc⟩, fun F nF => ?_⟩
      refine lc_list (K := K) (a := c) (xs := (out.take (i + 1)).map nV) (fun j H4 => Same H3 H4 ∧ NL H4 F (((out.take (i + 1)).take j).filter fun h => decide ((ts.map (·.2)).countP (fromH h) < 8))) ?_ ?_ ?_ ?_
      · exact ⟨same_new nF, upd_same⟩
      · rintro j H4 _ ⟨s4, _⟩
        exact s4.seq (SqL.of hc)
      · rintro j x H4 hx ⟨s4, hF⟩
        obtain ⟨h, hh, rfl⟩ := map_at hx
        have hfs := filter_snoc (fun h => decide ((ts.map (·.2)).countP (fromH h) < 8)) hh
        refine ⟨rfl, _, rfl, lt, rfl, ⟨_, SqL.of (hl3.same s4).at_⟩, fun D2 nD2 => ?_⟩
        refine rd_from (K := K) (b := 7) (it := 8) (l := lt) (ts := ts) (h := h) nD2 (fun _ => rfl) (fun _ => rfl) (fun _ => rfl) (hl3.same s4) few (fun H5 s5 hD2 => ?_)
        refine ⟨D2, _, rfl, .inl (SqL.of hD2), _, _, rfl, rfl, _, rfl, ?_⟩
        rw [List.length_map, outOf_len]
        by_cases cc : (ts.map (·.2)).countP (fromH h) < 8
        · rw [decide_eq_true (by omega)]
          refine iteT ⟨_, rfl, _, s5 _ _ hF, ?_, ?_, ?_⟩
          · rw [List.length_map]
            have a1 := filter_take_len (fun h => decide ((ts.map (·.2)).countP (fromH h) < 8)) (out.take (i + 1)) j
            rw [List.length_take] at a1
            exact small1000 (by omega)
          · intro b o e
            have e1 := s5 _ _ (s4 b o e)
            rw [upd_ne (ne_of_none e nF)]
            exact e1
          · rw [NL, upd_same, hfs, if_pos (decide_eq_true cc), map_snoc]
        · rw [decide_eq_false (by omega)]
          refine iteF ⟨s4.trans s5, ?_⟩
          rw [hfs, if_neg (by rw [decide_eq_false cc]; exact Bool.false_ne_true), List.append_nil]
          exact s5 _ _ hF
      · rintro H4 ⟨s4, hF⟩
        rw [List.length_map, List.take_length] at hF
        have hil : i < out.length := by omega
        have hfm : out[i] ∈ (out.take (i + 1)).filter fun h => decide ((ts.map (·.2)).countP (fromH h) < 8) := by
          refine List.mem_filter.mpr ⟨?_, decide_eq_true (by have := last hil; omega)⟩
          rw [take_next' hil]
          exact List.mem_append_right _ (List.mem_singleton.mpr rfl)
        have hfl : ((out.take (i + 1)).filter fun h => decide ((ts.map (·.2)).countP (fromH h) < 8)).length ≤ 1000 := by
          have a1 := List.length_filter_le (fun h => decide ((ts.map (·.2)).countP (fromH h) < 8)) (out.take (i + 1))
          rw [List.length_take] at a1
          omega
        have hfin : ∀ x, x ∈ ((out.take (i + 1)).filter fun h => decide ((ts.map (·.2)).countP (fromH h) < 8)) → x ∈ out.take (i + 1) ∧ (ts.map (·.2)).countP (fromH x) < 8 := fun x hx => by
          obtain ⟨a, b⟩ := List.mem_filter.mp hx
          exact ⟨a, of_decide_eq_true b⟩
        generalize ((out.take (i + 1)).filter fun h => decide ((ts.map (·.2)).countP (fromH h) < 8)) = fr at hF hfm hfl hfin
        have hpos : 0 < fr.length := List.length_pos_of_mem hfm
        have s24 : Same H2 H4 := sc.trans s4
        have hp4 := hp2.same s24
        have npF : F ≠ p := by
          obtain ⟨a, b, e⟩ := hp2.same sc
          exact (ne_of_none e nF).symm
        -- stem
        refine ⟨_, rfl, _, rfl, _, rfl, F, _, rfl, .inl (SqL.of hF), p, fr.length, by rw [List.length_map]; rfl, hp4, hpos, hfl, fun d H5 hd hp5 sb5 => ?_⟩
        have hF5 : NL H5 F fr := sb5 F _ npF hF
        have hl5 : PL H5 lt ts := (hl.same s24).butPot sb5 (hl.nePot hp2) hp4
        have hlop : lo ≠ p := by
          intro e
          obtain ⟨a, b, e2⟩ := hp2
          have e3 := hNL2
          rw [NL, e, e2] at e3
          have e4 := congrArg List.length (HO.lst.inj (Option.some.inj e3))
          rw [List.length_map] at e4
          have e5 := HO.lst.inj (Option.some.inj e3)
          exact absurd hlo (by
            rw [e]
            intro z
            obtain ⟨a', b', e6⟩ := hp
            rw [e6] at z
            cases z)
        have hNL5 : NL H5 lo out := sb5 lo _ hlop (s24 _ _ hNL2)
        obtain ⟨st1, st2⟩ := hfin fr[d] (List.getElem_mem _)
        refine ⟨F, _, _, _, rfl, rfl, SqL.of hF5, atN hd, ?_⟩
        -- the two new ties
        refine ⟨_, rfl, _, rfl, _, rfl, _, rfl, lo, _, _, _, rfl, rfl, SqL.of hNL5, at_of ek (nl_at hk), by show 2 ≤ sizeLine; decide, fun t1 nt1 => ?_⟩
        have sa := same_new (o := .tup [nV fr[d], nV out[i + 1]]) nt1
        refine ⟨_, rfl, _, rfl, lo, _, _, _, rfl, rfl, SqL.of (sa _ _ hNL5), at_of ek (nl_at hk), _, rfl, by show 2 ≤ sizeLine; decide, fun t2 nt2 => ?_⟩
        have sb := same_new (o := .tup [nV out[i + 1], nV fr[d]]) nt2
        refine ⟨by show 2 ≤ sizeLine; decide, fun l2 nl2 => ?_⟩
        have sl := same_new (o := .lst [.ref t1, .ref t2]) nl2
        have hl6 := ((hl5.same sa).same sb).same sl
        refine ⟨lt, l2, _, _, rfl, rfl, hl6.at_, upd_same, ?_, fun l3 nl3 => ?_⟩
        · rw [List.length_map]
          exact small_le (by show ts.length + 2 ≤ 1000; omega)
        · have s3 := same_new (o := .lst ((ts.map fun t => V.ref t.1) ++ [.ref t1, .ref t2])) nl3
          have ht1 := s3 _ _ (sl _ _ (sb _ _ (upd_same (H := H5) (a := t1) (o := .tup [nV fr[d], nV out[i + 1]]))))
          have ht2 := s3 _ _ (sl _ _ (upd_same (H := upd H5 t1 (.tup [nV fr[d], nV out[i + 1]])) (a := t2) (o := .tup [nV out[i + 1], nV fr[d]])))
          have s56 := ((sa.trans sb).trans sl).trans s3
          obtain ⟨pt, p1⟩ := part_more part (nodup_take_not nd hk) st1 st2
          refine ⟨l3, ts ++ [(t1, fr[d], out[i + 1]), (t2, out[i + 1], fr[d])], _, _, _, rfl, ⟨?_, fun t ht => ?_⟩, ?_, ?_, fun _ => ?_, hp5.same s56, s56 _ _ hNL5, ((sb2.trans (But.of s24)).trans sb5).trans (But.of s56)⟩
          · rw [upd_same, List.map_append]; rfl
          · rcases List.mem_append.mp ht with h | h
            · exact s3 _ _ (hl6.tup t h)
            · rcases List.mem_cons.mp h with h | h
              · subst h; exact ht1
              · rw [List.mem_singleton.mp h]; exact ht2
          · rw [List.length_append]
            show ts.length + 2 = 2 * (i + 1)
            omega
          · rw [take_next' hk, List.map_append]
            exact pt
          · rw [List.map_append]
            exact Nat.le_of_eq p1
    · rintro σ H2 ⟨lt, ts, x4, x5, x6, rfl, hl, hlen2, part, last, hp2, hNL2, sb2⟩
      have e1 : n - 1 + 1 = n := by omega
      rw [e1, List.take_of_length_le (by omega)] at part
      exact ⟨_, rfl, q lt ts H2 hl (part_good pm part) hp2 sb2⟩
theorem can_tree (T : Tx K mg) : Can P w K mg base CX0 3 "_law_tree" ["_law_pot_here", "_law_many"] spTree :=
  T.can 13 rfl rfl (fun _ _ _ _ _ _ us hl => match us, hl with | [_, _], _ => rfl) fun _ _ F => ok_tree T F
end
end NW
-- NwNet
set_option Elab.async false
set_option linter.all false
set_option maxRecDepth 100000
set_option maxHeartbeats 4200000
namespace NW
open PySem PySem.Spec L2 PyProof.Rows
/-! ## _law_net -/
theorem three (a b : Nat) (d : Nat) (h : d < 3) : ∃ m : Nat, atI [nV a, nV b, nV a] (d : Int) = some (nV m) ∧ (m = a ∨ m = b) := by
  match d, h with
  | 0, _ => exact ⟨a, rfl, .inl rfl⟩
  | 1, _ => exact ⟨b, rfl, .inr rfl⟩
  | 2, _ => exact ⟨a, rfl, .inl rfl⟩
theorem pick_perm {α : Type} {ts : List α} {o : List Nat} (hp : o.Perm (List.range ts.length)) : (o.filterMap fun k => ts[k]?).Perm ts := by
  refine (hp.filterMap _).trans ?_
  have key : ∀ m, m ≤ ts.length → (List.range m).filterMap (fun k => ts[k]?) = ts.take m := by
    intro m
    induction m with
    | zero => intro _; rfl
    | succ m ih =>
      intro hm
      have hlt : m < ts.length := hm
      rw [List.range_succ, List.filterMap_append, ih (by omega), take_snoc (List.getElem?_eq_getElem hlt)]; simp [List.getElem?_eq_getElem hlt]
  rw [key _ (Nat.le_refl _), List.take_length]
section
variable {P : Program} {w : World} {base : Heap} {K : PySem.W.Frag} {mg : Str → Option Value}
def spNet : Sp := fun vs H Q _ => ∃ p : Addr, vs = [.ref p] ∧ Pot H p ∧
  ∀ (n : Nat) (t l : Addr) (ts : List (Addr × Nat × Nat)) H', 2 ≤ n → n ≤ 32 → H' t = some (.tup [nV n, .ref l]) → PL H' l ts → Good n (ts.map (·.2)) → H l = none → Pot H' p → But p H H' → Q (.ref t) H'
abbrev nNet : List Str := ["_law_pot_here", "_law_way", "_law_many", "_law_rounds", "_law_ties", "_law_order", "_law_k"]
theorem scNet : FnScope nNet ["_law_pot_here"] (defScope (top 35)) := ⟨rfl, rfl, rfl, by decide +kernel, rfl, by decide +kernel, by decide +kernel⟩
theorem ok_net {f : Addr} {fd : FuncData} (T : Tx K mg) (F : Fun K "_law_net" "_law_net" (top 35) f fd) : FnOk P w K mg base CX0 4 f fd ["_law_pot_here"] spNet := by
  refine F.ok scNet (fun vs H Q E h => ?_) (fun cdv A outer s H vs Q E hr h => ?_)
  · obtain ⟨p, rfl, _⟩ := h
    rfl
  · obtain ⟨p, rfl, hp, q⟩ := h
    refine ⟨_, pss_cons (ps_set (i := 1) scNet.nd rfl (.inl rfl) (pe_can (can_digit T) (hr.mono (by decide)) (by rfl) pass0 (pa_cons (pv 0) (pa_cons pe_int pa_nil))))
      (pss_cons (ps_set (i := 2) scNet.nd rfl (.inl rfl) (pe_op op_add pe_int (pe_can (can_digit T) (hr.mono (by decide)) (by rfl) pass0 (pa_cons (pv 0) (pa_cons (pe_ix ix_list (pe_lst (pa_cons pe_int (pa_cons pe_int (pa_cons pe_int pa_nil)))) (pv 1) (fun _ _ => rfl)) pa_nil)))))
      (pss_cons (ps_set (i := 3) scNet.nd rfl (.inl rfl) (pe_can (can_digit T) (hr.mono (by decide)) (by rfl) pass0 (pa_cons (pv 0) (pa_cons (pe_ix ix_list (pe_lst (pa_cons pe_int (pa_cons pe_int (pa_cons pe_int pa_nil)))) (pv 1) (fun _ _ => rfl)) pa_nil))))
      (C8.pss_cut (ps_if (pt_cmpR op_eq (pv 1) pe_int (nomark _))
        (pss_one (ps_set (i := 4) scNet.nd rfl (.inr rfl) (pe_can (can_tree T) hr (by rfl) pass0 (pa_cons (pv 0) (pa_cons (pv 2) pa_nil)))))
        (pss_cons (ps_set (i := 5) scNet.nd rfl (.inr rfl) (pe_can (can_some T) (hr.mono (by decide)) (by rfl) pass0 (pa_cons (pv 0) (pa_cons (pv 2) (pa_cons (pv 2) pa_nil)))))
        (pss_one (ps_set (i := 4) scNet.nd rfl (.inr rfl) (pe_lc (own := [("_law_k", 6)]) (g := gName 6) (tt := tYes) rfl scNet.nd (pi_range1 (by rfl) T.fRange (pa_cons (pv 2) pa_nil)) (blkOk_by (N := nNet) (sc := defScope (top 35)) (by decide +kernel))
          (fun _ _ _ _ _ => pg_name (i := 6) scNet.nd rfl (.inl rfl)) (fun _ _ _ _ _ => pts_nil)
          (fun _ _ _ _ _ => pe_tup (pa_cons (pe_ix (ixL K) (pv 5) (pe_op op_sub (pv 6) pe_int) (fun _ _ => rfl)) (pa_cons (pe_ix (ixL K) (pv 5) (pv 6) (fun _ _ => rfl)) pa_nil))))))))
      (pss_cons (ps_for PassesOwn.never rfl (pi_range1 (by rfl) T.fRange (pa_cons (pv 3) pa_nil)) (pg_name (i := 6) scNet.nd rfl (.inl rfl))
        (pss_one (ps_set (i := 4) scNet.nd rfl (.inr rfl) (pe_can (can_round T) hr (by rfl) pass0 (pa_cons (pv 0) (pa_cons (pv 2) (pa_cons (pv 4) pa_nil)))))))
      (pss_one (ps_ret (pe_tup (pa_cons (pv 2) (pa_cons
        (pe_lc (own := [("_law_k", 6)]) (g := gName 6) (tt := tYes) rfl scNet.nd (pi_list (pe_can (can_some T) (hr.mono (by decide)) (by rfl) pass0 (pa_cons (pv 0) (pa_cons (pe_callB call_len_seq (by rfl) T.fLen PySem.boot_len (pa_cons (pv 4) pa_nil)) (pa_cons (pe_callB call_len_seq (by rfl) T.fLen PySem.boot_len (pa_cons (pv 4) pa_nil)) pa_nil)))))
          (blkOk_by (N := nNet) (sc := defScope (top 35)) (by decide +kernel)) (fun _ _ _ _ _ => pg_name (i := 6) scNet.nd rfl (.inl rfl)) (fun _ _ _ _ _ => pts_nil)
          (fun _ _ _ _ _ => pe_ix (ixL K) (pv 4) (pv 6) (fun _ _ => rfl))) pa_nil))))))))), ?_⟩
    -- way
    refine ⟨_, rfl, p, 3, rfl, hp, by decide, by decide, fun d H1 hd hp1 sb1 => ?_⟩
    -- many
    obtain ⟨m, hm, hm2⟩ := three 31 7 d hd
    refine ⟨_, rfl, by show 3 ≤ sizeLine; decide, fun z nz => ?_⟩
    have sz := same_new (o := .lst [nV 31, nV 7, nV 31]) nz
    refine ⟨_, rfl, z, _, _, _, rfl, rfl, SqL.of upd_same, hm, p, m, rfl, hp1.same sz, by omega, by omega, fun d2 H2 hd2 hp2 sb2 => ?_⟩
    refine ⟨_, _, rfl, rfl, ?_⟩
    have en : V.int (2 + (d2 : Int)) = nV (2 + d2) := rfl
    -- rounds
    obtain ⟨m3, hm3, hm4⟩ := three 9 25 d hd
    refine ⟨_, rfl, by show 3 ≤ sizeLine; decide, fun y ny => ?_⟩
    have sy := same_new (o := .lst [nV 9, nV 25, nV 9]) ny
    refine ⟨_, rfl, y, _, _, _, rfl, rfl, SqL.of upd_same, hm3, p, m3, rfl, hp2.same sy, by omega, by omega, fun rd H3 hrd hp3 sb3 => ?_⟩
    have sb03 : But p H H3 := ((((sb1.trans (But.of sz)).trans sb2).trans (But.of sy)).trans sb3)
    obtain ⟨n, hn⟩ : ∃ n, n = 2 + d2 := ⟨_, rfl⟩
    rw [← hn] at en
    have n2 : 2 ≤ n := by omega
    have n32 : n ≤ 32 := by omega
    -- the first ties
    refine ⟨fun σ H4 => ∃ lt ts x5, σ = [some (.ref p), some (nV d), some (nV n), some (nV rd), some (.ref lt), x5, none] ∧ PL H4 lt ts ∧ Good n (ts.map (·.2)) ∧ Pot H4 p ∧ But p H H4, ?_, ?_⟩
    · rw [← en]
      refine ⟨_, rfl, rfl, _, rfl, ite2 (fun c => ?_) (fun c => ?_)⟩
      · refine ⟨_, rfl, _, rfl, p, n, by rw [← en]; rfl, hp3, n2, n32, fun lt ts H4 hl g hp4 sb4 => ?_⟩
        exact ⟨lt, ts, none, rfl, hl, g, hp4, sb03.trans sb4⟩
      · refine ⟨_, rfl, _, rfl, _, rfl, p, n, n, by rw [← en]; rfl, hp3, Nat.le_refl _, by omega, fun lo out H4 nd hlt hlen hperm hlo hNL hp4 sb4 => ?_⟩
        have pm := hperm rfl
        refine ⟨_, rfl, 2 + (d2 : Int), rfl, by omega, by omega, fun D nD => ?_⟩
        refine rd_cyc (K := K) (o := 5) (k := 6) (l := lo) (ns := out) nD (by omega) (fun _ => rfl) (fun _ => rfl) (fun _ => rfl) hNL (by omega) (fun ms H5 s5 hD hms => ?_)
        refine ⟨D, ms, _, rfl, hD, ?_, hp4.same s5, (sb03.trans sb4).trans (But.of s5)⟩
        rw [hms]
        exact good_ring pm n2
    · rintro σ H4 ⟨lt, ts, x5, rfl, hl, g, hp4, sb4⟩
      -- the rounds
      refine ⟨_, rfl, (rd : Int), rfl, by omega, by omega, ?_⟩
      refine for_range (lo := 0) (n := rd) (fun i σ H5 => ∃ lt ts x5 x6, σ = [some (.ref p), some (nV d), some (nV n), some (nV rd), some (.ref lt), x5, x6] ∧ PL H5 lt ts ∧ Good n (ts.map (·.2)) ∧ Pot H5 p ∧ But p H H5) ?_ ?_ ?_
      · exact ⟨lt, ts, x5, none, rfl, hl, g, hp4, sb4⟩
      · rintro i σ H5 hi ⟨lt, ts, x5, x6, rfl, hl, g, hp5, sb5⟩
        refine ⟨_, rfl, _, rfl, _, rfl, p, lt, n, ts, rfl, hp5, n2, n32, hl, g, fun l' ts' H6 hl' g' hp6 sb6 => ?_⟩
        exact ⟨l', ts', x5, _, rfl, hl', g', hp6, sb5.trans sb6⟩
      · rintro σ H5 ⟨lt, ts, x5, x6, rfl, hl, g, hp5, sb5⟩
        have few : ts.length ≤ 1000 := by have := g.len; rw [List.length_map] at this; omega
        -- drawn anew
        refine ⟨_, rfl, _, rfl, _, rfl, lt, _, rfl, .inl (SqL.of hl.at_), _, rfl, lt, _, rfl, .inl (SqL.of hl.at_), p, ts.length, ts.length, by rw [List.length_map]; rfl, hp5, Nat.le_refl _, few, fun lo out H6 nd hlt hlen hperm hlo hNL hp6 sb6 => ?_⟩
        have pm := hperm rfl
        have hl6 := hl.butPot sb6 (hl.nePot hp5) hp5
        refine ⟨lo, rfl, ⟨_, SqL.of hNL⟩, fun D nD => ?_⟩
        refine lc_list (K := K) (a := lo) (xs := out.map nV) (fun i H7 => Same H6 H7 ∧ H7 D = some (.lst (((out.take i).filterMap fun k => ts[k]?).map fun t => V.ref t.1))) ?_ ?_ ?_ ?_
        · exact ⟨same_new nD, upd_same⟩
        · rintro i H7 _ ⟨s7, _⟩
          exact s7.seq (SqL.of hNL)
        · rintro i x H7 hx ⟨s7, hD⟩
          obtain ⟨k, hk, rfl⟩ := map_at hx
          have hkl : k < ts.length := hlt k (List.mem_of_getElem? hk)
          have ht := List.getElem?_eq_getElem hkl
          have el : (out.take (i + 1)).filterMap (fun k => ts[k]?) = (out.take i).filterMap (fun k => ts[k]?) ++ [ts[k]] := by
            rw [take_snoc hk, List.filterMap_append]
            simp [ht]
          refine ⟨rfl, _, rfl, _, rfl, lt, _, _, _, rfl, rfl, SqL.of (s7 _ _ hl6.at_), atI_nat (hl6.get ht).1, _, hD, ?_, ?_, ?_⟩
          · rw [List.length_map]
            have a1 := List.length_filterMap_le (fun k => ts[k]?) (out.take i)
            rw [List.length_take] at a1
            exact small1000 (by omega)
          · intro b o e
            rw [upd_ne (ne_of_none e nD)]
            exact s7 _ _ e
          · rw [upd_same, el, map_snoc]
        · rintro H7 ⟨s7, hD⟩
          rw [List.length_map, List.take_length] at hD
          have pp := pick_perm pm
          refine ⟨by show 2 ≤ sizeLine; decide, fun t nt => ?_⟩
          have st := same_new (o := .tup [nV n, .ref D]) nt
          have hD0 : H D = none := by
            have e5 := sb6.free (l := D) (by
              obtain ⟨a, b, e⟩ := hp6
              exact (ne_of_none e nD).symm) nD
            refine sb5.free ?_ e5
            obtain ⟨a, b, e⟩ := hp6
            exact (ne_of_none e nD).symm
          refine q n t D (out.filterMap fun k => ts[k]?) _ n2 n32 upd_same ⟨st _ _ hD, fun u hu => ?_⟩ (g.perm (pp.map (·.2))) hD0 (hp6.same (s7.trans st)) ((sb5.trans sb6).trans (But.of (s7.trans st)))
          exact st _ _ (s7 _ _ (hl6.tup u (pp.mem_iff.mp hu)))
theorem can_net (T : Tx K mg) : Can P w K mg base CX0 4 "_law_net" ["_law_pot_here"] spNet :=
  T.can 14 rfl rfl (fun _ _ _ _ _ _ us hl => match us, hl with | [_], _ => rfl) fun _ _ F => ok_net T F
end
end NW
-- NwLaw
set_option Elab.async false
set_option linter.all false
set_option maxRecDepth 100000
set_option maxHeartbeats 4200000
namespace NW
open PySem PySem.Spec L2 PyProof.Rows
/-! ## law -/
/-- a net that has been asked, in a tuple at t -/
def Seen (K : PySem.W.Frag) (H : Hp) (x : V) : Prop := ∃ (t p l : Addr) (n : Nat) (ts : List (Addr × Nat × Nat)), x = .ref t ∧ H t = some (.tup [.ref p, nV n, .ref l]) ∧ NetAt K H p n (ts.map (·.2)) ∧ PL H l ts ∧ Good n (ts.map (·.2)) ∧ 2 ≤ n ∧ n ≤ 32
theorem Seen.same {K : PySem.W.Frag} {H H' : Hp} {x : V} (h : Seen K H x) (s : Same H H') : Seen K H' x := by
  obtain ⟨t, p, l, n, ts, e, h1, h2, h3, h4⟩ := h
  exact ⟨t, p, l, n, ts, e, s _ _ h1, h2.same s, h3.same s, h4⟩
/-- as Seen, whatever stands at S -/
def SeenS (K : PySem.W.Frag) (S : Addr) (H : Hp) (x : V) : Prop := ∀ o, Seen K (upd H S o) x
theorem same_upd {S : Addr} {H H' : Hp} {o : HO} (b : But S H H') : Same (upd H S o) (upd H' S o) := fun c u e => by
  by_cases h : c = S
  · subst h
    rw [upd_same] at e ⊢
    exact e
  · rw [upd_ne h] at e ⊢
    exact b c u h e
theorem SeenS.but {K : PySem.W.Frag} {S : Addr} {H H' : Hp} {x : V} (h : SeenS K S H x) (b : But S H H') : SeenS K S H' x := fun o => (h o).same (same_upd b)
theorem SeenS.seen {K : PySem.W.Frag} {S : Addr} {H : Hp} {x : V} {o : HO} (h : SeenS K S H x) (e : H S = some o) : Seen K H x := (h o).same fun c u z => by
  by_cases k : c = S
  · subst k
    rw [upd_same] at z
    rw [e, z]
  · rwa [upd_ne k] at z
theorem Thing.same {H H' : Hp} {x : V} (h : Thing H x) (s : Same H H') : Thing H' x := by
  cases h with
  | int i => exact .int i
  | bl b => exact .bl b
  | non => exact .non
  | str y => exact .str y
  | tup e => exact .tup (s _ _ e)
  | lst e => exact .lst (s _ _ e)
  | dct e => exact .dct (s _ _ e)
theorem no_house {n : Nat} {i : Int} (h : ¬ (0 ≤ i ∧ i < (n : Int))) : house (n : Int) (.int i) = false := by
  show (decide (0 ≤ i) && decide (i < (n : Int))) = false
  rw [← Bool.decide_and, decide_eq_false h]
theorem things {H : Hp} {n d : Nat} {z1 z2 z3 : Addr} {xs ys : List V} {kvs : List (Key × V)} (n32 : n ≤ 32) (n2 : 2 ≤ n) (h1 : H z1 = some (.tup xs)) (h2 : H z2 = some (.lst ys)) (h3 : H z3 = some (.dK kvs)) (hd : d < 12) :
    ∃ x, atI [.int (-1), nV n, .non, .bl true, .bl false, .str "0", .ref z1, .ref z2, .int (10 ^ 50), .int (-(n : Int)), .ref z3, .str ""] (d : Int) = some x ∧ Thing H x ∧ house (n : Int) x = false := by
  match d, hd with
  | 0, _ => exact ⟨_, rfl, .int _, rfl⟩
  | 1, _ => exact ⟨_, rfl, .int _, no_house (by omega)⟩
  | 2, _ => exact ⟨_, rfl, .non, rfl⟩
  | 3, _ => exact ⟨_, rfl, .bl _, rfl⟩
  | 4, _ => exact ⟨_, rfl, .bl _, rfl⟩
  | 5, _ => exact ⟨_, rfl, .str _, rfl⟩
  | 6, _ => exact ⟨_, rfl, .tup h1, rfl⟩
  | 7, _ => exact ⟨_, rfl, .lst h2, rfl⟩
  | 8, _ => exact ⟨_, rfl, .int _, no_house fun c => absurd (Int.lt_of_lt_of_le c.2 (Int.ofNat_le.mpr n32)) (by decide)⟩
  | 9, _ => exact ⟨_, rfl, .int _, no_house (by omega)⟩
  | 10, _ => exact ⟨_, rfl, .dct h3, rfl⟩
  | 11, _ => exact ⟨_, rfl, .str _, rfl⟩
theorem but_same {p : Addr} {H H' : Hp} (b : But p H H') (h : H p = none) : Same H H' := fun q o e => b q o (ne_of_none e h) e
section
variable {P : Program} {w : World} {base : Heap} {K : PySem.W.Frag} {mg : Str → Option Value}
def spLaw (K : PySem.W.Frag) : Sp := fun vs H Q _ => ∃ (a : Addr) (zs : List Int), vs = [.ref a] ∧ SqL K H a (zs.map V.int) ∧ ∀ H', Q (.bl true) H'
abbrev nLaw : List Str := ["_law_script", "_law_seen", "_law_k", "_law_pot_here", "_law_pick", "_law_many", "_law_ties", "_law_kept", "_law_net_here", "_law_house", "_law_home", "_law_thing", "_law_deed"]
theorem scLaw : FnScope nLaw ["_law_script"] (defScope (top 45)) := ⟨rfl, rfl, rfl, by decide +kernel, rfl, by decide +kernel, by decide +kernel⟩
theorem ok_law {f : Addr} {fd : FuncData} (T : Tx K mg) (F : Fun K "law" "law" (top 45) f fd) : FnOk P w K mg base CX0 8 f fd ["_law_script"] (spLaw K) := by
  obtain ⟨fdI, FI⟩ := T.says.1.def_ 25 (d := dmt 0 "__init__" "Net.__init__") rfl
  have FI' : Fun K "__init__" "Net.__init__" (netAt 0) (He.ma K (CN K) "__init__") fdI := fun_of FI
  have bI : Binds K fdI ["self", "many", "ties"] [] := FI'.binds fun _ _ _ _ _ _ us hl => match us, hl with | [_, _, _], _ => rfl
  have OI := ok_init (P := P) (w := w) (base := base) T FI'
  have MI : Mk K (CN K) (He.ma K (CN K) "__init__") := He.mkr_ok (T.says.1.fact 66 (f := .mkr "Net"))
  refine F.ok scLaw (fun vs H Q E h => ?_) (fun cdv A outer s H vs Q E hr h => ?_)
  · obtain ⟨a, ns, rfl, _⟩ := h
    rfl
  · obtain ⟨a, ns, rfl, hS, q⟩ := h
    refine ⟨_, pss_cons (ps_set (i := 1) scLaw.nd rfl (.inl rfl) (pe_lst pa_nil))
      (pss_cons (ps_for PassesOwn.never rfl (pi_range1 (by rfl) T.fRange (pa_cons (pe_callB (call_max2 rfl) (by rfl) T.fMax (by decide +kernel) (pa_cons pe_int (pa_cons (pe_callB (call_min2 rfl) (by rfl) T.fMin (by decide +kernel)
            (pa_cons pe_int (pa_cons (pe_callB call_len_seq (by rfl) T.fLen PySem.boot_len (pa_cons (pv 0) pa_nil)) pa_nil))) pa_nil))) pa_nil)) (pg_name (i := 2) scLaw.nd rfl (.inl rfl))
        (pss_cons (ps_set (i := 3) scLaw.nd rfl (.inl rfl) (pe_can (can_pot T) (hr.mono (by decide)) (by rfl) pass0 (pa_cons (pv 0) (pa_cons (pv 2) pa_nil))))
        (pss_cons (ps_set (i := 4) scLaw.nd rfl (.inl rfl) (pe_can (can_digit T) (hr.mono (by decide)) (by rfl) pass0 (pa_cons (pv 3) (pa_cons pe_int pa_nil))))
        (pss_cons (ps_asg (pe_can (can_net T) (hr.mono (by decide)) (by rfl) pass0 (pa_cons (pv 3) pa_nil)) (pg_tup rfl (pgs_cons (pg_name (i := 5) scLaw.nd rfl (.inl rfl)) (pgs_cons (pg_name (i := 6) scLaw.nd rfl (.inl rfl)) pgs_nil))))
        (pss_cons (ps_set (i := 7) scLaw.nd rfl (.inl rfl) (pe_callTy call_list_of (by rfl) T.fList (by decide +kernel) (pa_cons (pv 6) pa_nil)))
        (pss_cons (ps_set (i := 8) scLaw.nd rfl (.inr rfl) (pe_make (E := E0) MI OI (hr.mono (by decide)) (by rfl) (T.glo 25) bI .nil pass0 (pa_cons (pv 5) (pa_cons (pv 6) pa_nil))))
        (pss_cons (ps_expr (pe_bm0 PySem.F.plainAttrs_list PySem.F.slot_list_clear PySem.F.type_list_clear mt_clear (pv 6)))
        (pss_cons (ps_par (i := 9) (j := 10) rfl scLaw.nd rfl rfl (by decide) rfl rfl (pa_cons (pe_can (can_digit T) (hr.mono (by decide)) (by rfl) pass0 (pa_cons (pv 3) (pa_cons (pv 5) pa_nil)))
            (pa_cons (pe_can (can_digit T) (hr.mono (by decide)) (by rfl) pass0 (pa_cons (pv 3) (pa_cons (pv 5) pa_nil))) pa_nil)) (by rfl))
        (pss_cons (ps_expr (appK K (pv 1) (pe_tup (pa_cons (pv 8) (pa_cons (pv 5) (pa_cons (pv 7) pa_nil))))))
        (pss_cons (ps_if (PW.pt (pw_or (pt_not (pt_val (pe_can (can_tells T) (hr.mono (by decide)) (by rfl) pass0 (pa_cons (pv 8) (pa_cons (pv 5) (pa_cons (pv 7) pa_nil))))))
            (pw_or1 (pt_not (pt_val (pe_can (can_emptied T) (hr.mono (by decide)) (by rfl) pass0 (pa_cons (pv 8) (pa_cons (pv 9) (pa_cons (pv 10) pa_nil))))))))) (pss_one (ps_ret pe_bl)) pss_nil)
        (pss_cons (ps_set (i := 11) scLaw.nd rfl (.inr rfl) (pe_ix ix_list (pe_lst (pa_cons (pe_un un_neg pe_int) (pa_cons (pv 5) (pa_cons pe_non (pa_cons pe_bl (pa_cons pe_bl (pa_cons pe_str (pa_cons (pe_tup (pa_cons pe_int pa_nil))
            (pa_cons (pe_lst (pa_cons pe_int pa_nil)) (pa_cons (pe_op op_pow pe_int pe_int) (pa_cons (pe_un un_neg (pv 5)) (pa_cons pe_dnewK (pa_cons pe_str pa_nil))))))))))))) (pv 4) (fun _ _ => rfl)))
        (pss_one (ps_if (PW.pt (pw_or (pt_not (pt_val (pe_callB (cr_all rfl) (by rfl) T.fAll (by decide +kernel) (pa_cons (pe_lc (own := [("_law_deed", 12)]) (g := gName 12) (tt := tYes) rfl scLaw.nd (pi_range1 (by rfl) T.fRange (pa_cons pe_int pa_nil))
            (blkOk_by (N := nLaw) (sc := defScope (top 45)) (by decide +kernel)) (fun _ _ _ _ _ => pg_name (i := 12) scLaw.nd rfl (.inl rfl)) (fun _ _ _ _ _ => pts_nil)
            (fun _ _ _ _ _ => pe_can (can_refuses T) hr (by rfl) pass0 (pa_cons (pv 12) (pa_cons (pv 8) (pa_cons (pv 11) pa_nil))))) pa_nil))))
            (pw_or1 (pt_not (pt_val (pe_can (can_tells T) (hr.mono (by decide)) (by rfl) pass0 (pa_cons (pv 8) (pa_cons (pv 5) (pa_cons (pv 7) pa_nil))))))))) (pss_one (ps_ret pe_bl)) pss_nil)))))))))))))
      (pss_cons (ps_asg (pe_ix ix_list (pv 1) pe_int (fun _ _ => rfl)) (pg_tup rfl (pgs_cons (pg_name (i := 8) scLaw.nd rfl (.inr rfl)) (pgs_cons (pg_name (i := 5) scLaw.nd rfl (.inl rfl)) (pgs_cons (pg_name (i := 7) scLaw.nd rfl (.inl rfl)) pgs_nil)))))
      (pss_one (ps_ret (pe_can (can_tells T) (hr.mono (by decide)) (by rfl) pass0 (pa_cons (pv 8) (pa_cons (pv 5) (pa_cons (pv 7) pa_nil)))))))), ?_⟩
    -- seen
    refine ⟨by show 0 ≤ sizeLine; decide, fun S nS => ?_⟩
    have s0 := same_new (o := .lst []) nS
    obtain ⟨m, hm, m1, m2⟩ : ∃ m : Nat, (if (if ((ns.map V.int).length : Int) < 2 then ((ns.map V.int).length : Int) else 2) > 1 then (if ((ns.map V.int).length : Int) < 2 then ((ns.map V.int).length : Int) else 2) else 1) = (m : Int) ∧ 1 ≤ m ∧ m ≤ 2 := by
      by_cases c : ((ns.map V.int).length : Int) < 2
      · rw [if_pos c, if_neg (by omega)]
        exact ⟨1, rfl, by decide, by decide⟩
      · rw [if_neg c, if_pos (by decide)]
        exact ⟨2, rfl, by decide, by decide⟩
    refine ⟨_, rfl, a, _, rfl, .inl (s0.seq hS), _, _, rfl, _, _, rfl, (m : Int), congrArg (fun i => [V.int i]) hm, by omega, by omega, ?_⟩
    refine for_range (lo := 0) (n := m) (fun i σ H3 => ∃ x2 x3 x4 x5 x6 x7 x8 x9 x10 x11 xs, σ = [some (.ref a), some (.ref S), x2, x3, x4, x5, x6, x7, x8, x9, x10, x11, none] ∧ Same H H3 ∧ H3 S = some (.lst xs) ∧ xs.length = i ∧
      ∀ x, xs[0]? = some x → SeenS K S H3 x) ?_ ?_ ?_
    · exact ⟨none, none, none, none, none, none, none, none, none, none, [], rfl, s0, upd_same, rfl, fun x hx => by cases hx⟩
    · rintro i σ H3 hi ⟨x2, x3, x4, x5, x6, x7, x8, x9, x10, x11, xs, rfl, s3, hSx, hlen, hseen⟩
      have e0 : (0 : Int) + (i : Int) = (i : Int) := Int.zero_add _; rw [e0]
      -- the pot, the pick
      refine ⟨_, rfl, _, rfl, a, ns, i, rfl, s3.seq hS, by omega, fun H4 p s4 np hp4 => ?_⟩
      refine ⟨_, rfl, p, 12, rfl, hp4, by decide, by decide, fun d H5 hd hp5 b5 => ?_⟩
      -- the net's ties
      refine ⟨_, rfl, p, rfl, hp5, fun n t l ts H6 n2 n32 ht hl g nl hp6 b6 => ?_⟩
      have nlp : l ≠ p := (hp5.ne nl).symm
      have nl3 : H3 l = none := ((But.of s4).trans b5).free nlp nl
      have s36 : Same H3 H6 := but_same ((But.of s4).trans (b5.trans b6)) np
      refine ⟨t, _, rfl, SqT.of ht, rfl, _, _, rfl, _, _, rfl, rfl, ?_⟩
      -- kept
      refine ⟨_, rfl, l, _, rfl, .inl (SqL.of hl.at_), fun kl nkl => ?_⟩
      have s7 := same_new (o := .lst (ts.map fun t => V.ref t.1)) nkl
      have hk7 : PL (upd H6 kl (.lst (ts.map fun t => V.ref t.1))) kl ts := ⟨upd_same, fun t ht => s7 _ _ (hl.tup t ht)⟩
      have nkll : kl ≠ l := (ne_of_none hl.at_ nkl).symm
      have nklp : kl ≠ p := (hp6.ne nkl).symm
      have nklS : kl ≠ S := (ne_of_none (s36 _ _ hSx) nkl).symm
      have hl7 := hl.same s7
      have hp7 := hp6.same s7
      have s37 := s36.trans s7
      generalize upd H6 kl (.lst (ts.map fun t => V.ref t.1)) = H7 at hk7 hl7 hp7 s37
      -- the net
      refine ⟨_, rfl, _, rfl, fun pN dx nN ndx dne => ?_⟩
      have sM : Same H7 (upd (upd H7 dx (.own pN)) pN (.ins (CN K) dx [])) := (same_new ndx).trans (same_new (by rw [upd_ne dne.symm]; exact nN))
      refine ⟨pN, dx, l, n, ts, rfl, upd_same, hl7.same sM, g, n2, n32, fun H8 N8 b8 => ⟨rfl, ?_⟩⟩
      have hlM := (hl7.same sM).at_
      obtain ⟨pa, pb, hpM⟩ := hp7.same sM
      have hSM := sM _ _ (s37 _ _ hSx)
      have nNl : pN ≠ l := (ne_of_none hl7.at_ nN).symm
      have nNp : pN ≠ p := (hp7.ne nN).symm
      have nNS : pN ≠ S := (ne_of_none (s37 _ _ hSx) nN).symm
      have s78 : Same H7 H8 := but_same ((But.of sM).trans b8) nN
      generalize upd (upd H7 dx (.own pN)) pN (.ins (CN K) dx []) = HM at hlM hpM hSM N8
      -- the ties are cleared
      have hl8 := hl7.same s78
      refine ⟨_, rfl, .inl ⟨rfl, _, SqL.of hl8.at_⟩, l, _, rfl, rfl, hl8.at_, ?_⟩
      have b9 : But l H8 (upd H8 l (.lst [])) := but_upd
      have N9 := N8.but b9 hlM nNl
      have hk9 := (hk7.same s78).but b9 nkll hl8.at_
      have hp9 := (hp7.same s78).but b9 nlp.symm
      have s39 : Same H3 (upd H8 l (.lst [])) := same_put (s37.trans s78) nl3
      generalize upd H8 l (.lst []) = H9 at N9 hk9 hp9 s39
      -- two houses
      refine ⟨_, rfl, _, rfl, p, n, rfl, hp9, by omega, by omega, fun h H10 hh hp10 b10 => ?_⟩
      refine ⟨_, rfl, _, rfl, p, n, rfl, hp10, by omega, by omega, fun h' H11 hh' hp11 b11 => ⟨_, _, rfl, ?_⟩⟩
      have N11 := (N9.but b10 hpM nNp).but b11 hpM nNp
      have hk11 := (hk9.butPot b10 nklp hp9).butPot b11 nklp hp10
      have s311 : Same H3 H11 := but_same ((But.of s39).trans (b10.trans b11)) np
      have hS11 := s311 _ _ hSx
      -- seen
      refine ⟨_, rfl, .inl ⟨rfl, _, SqL.of hS11⟩, _, rfl, _, rfl, _, rfl, by show 3 ≤ sizeLine; decide, fun tp ntp => ?_⟩
      have s12 := same_new (o := .tup [.ref pN, nV n, .ref kl]) ntp
      have ntS : tp ≠ S := (ne_of_none hS11 ntp).symm
      have htp : (upd H11 tp (.tup [.ref pN, nV n, .ref kl])) tp = some (.tup [.ref pN, nV n, .ref kl]) := upd_same
      have hS12 := s12 _ _ hS11
      have N12 := N11.same s12
      have hk12 := hk11.same s12
      have s312 := s311.trans s12
      refine ⟨_, _, _, rfl, rfl, hS12, small1000 (by omega), ?_⟩
      have b13 : But S (upd H11 tp (.tup [.ref pN, nV n, .ref kl])) (upd (upd H11 tp (.tup [.ref pN, nV n, .ref kl])) S (.lst (xs ++ [.ref tp]))) := but_upd
      have hS13 : (upd (upd H11 tp (.tup [.ref pN, nV n, .ref kl])) S (.lst (xs ++ [.ref tp]))) S = some (.lst (xs ++ [.ref tp])) := upd_same
      have s13 : Same H (upd (upd H11 tp (.tup [.ref pN, nV n, .ref kl])) S (.lst (xs ++ [.ref tp]))) := same_put (s3.trans s312) nS
      generalize upd (upd H11 tp (.tup [.ref pN, nV n, .ref kl])) S (.lst (xs ++ [.ref tp])) = H13 at b13 hS13 s13
      generalize upd H11 tp (.tup [.ref pN, nV n, .ref kl]) = H12 at htp hS12 N12 hk12 s312 b13
      have N13 := N12.but b13 hSM nNS
      have hk13 := hk12.but b13 nklS hS12
      have new : SeenS K S H13 (.ref tp) := fun o => by
        have b : But S H12 (upd H13 S o) := b13.trans but_upd
        exact ⟨tp, pN, kl, n, ts, rfl, b _ _ ntS htp, (N12.but b hSM nNS).net, hk12.but b nklS hS12, g, n2, n32⟩
      have old : ∀ x, xs[0]? = some x → SeenS K S H13 x := fun x hx => (hseen x hx).but ((But.of s312).trans b13)
      -- it tells
      refine ⟨_, rfl, _, rfl, _, rfl, pN, kl, n, ts, rfl, N13.net, hk13, g, n2, n32, fun H14 s14 => ⟨true, rfl, iteF ?_⟩⟩
      have N14 := N13.net.same s14
      refine ⟨_, rfl, _, rfl, _, rfl, pN, n, h, h', _, rfl, N14, hh, hh', n32, fun H15 s15 => ⟨true, rfl, iteF ?_⟩⟩
      have N15 := N14.same s15
      -- the thing
      refine ⟨_, rfl, _, rfl, by show 1 ≤ sizeLine; decide, fun z1 nz1 => ?_⟩
      refine ⟨by show 1 ≤ sizeLine; decide, fun z2 nz2 => ?_⟩
      refine ⟨_, _, rfl, rfl, ⟨by decide, by decide, by decide⟩, _, rfl, _, rfl, fun z3 nz3 => ?_⟩
      refine ⟨by show 12 ≤ sizeLine; decide, fun z4 nz4 => ?_⟩
      have c1 := same_new (o := .tup [.int 0]) nz1
      have c2 := same_new (o := .lst [.int 0]) nz2
      have c3 := same_new (o := .dK []) nz3
      have c4 := same_new (o := .lst [.int (-1), nV n, .non, .bl true, .bl false, .str "0", .ref z1, .ref z2, .int (10 ^ 50), .int (-(n : Int)), .ref z3, .str ""]) nz4
      have hz1 := c4 _ _ (c3 _ _ (c2 _ _ (upd_same (H := H15) (a := z1) (o := .tup [.int 0]))))
      have hz2 := c4 _ _ (c3 _ _ (upd_same (H := upd H15 z1 (.tup [.int 0])) (a := z2) (o := .lst [.int 0])))
      have hz3 := c4 _ _ (upd_same (H := upd (upd H15 z1 (.tup [.int 0])) z2 (.lst [.int 0])) (a := z3) (o := .dK []))
      have cc := ((c1.trans c2).trans c3).trans c4
      obtain ⟨x, hx1, hx2, hx3⟩ := things n32 n2 hz1 hz2 hz3 hd
      refine ⟨_, rfl, z4, _, _, _, rfl, rfl, SqL.of upd_same, hx1, ?_⟩
      obtain ⟨H19, e19⟩ : ∃ X : Hp, X = upd (upd (upd (upd H15 z1 (.tup [.int 0])) z2 (.lst [.int 0])) z3 (.dK [])) z4 (.lst [.int (-1), nV n, .non, .bl true, .bl false, .str "0", .ref z1, .ref z2, .int (10 ^ 50), .int (-(n : Int)), .ref z3, .str ""]) := ⟨_, rfl⟩
      rw [← e19] at cc hx2
      have N19 := N15.same cc
      -- refused at every place
      refine ⟨(6 : Int), rfl, by decide, by decide, fun D nD => ?_⟩
      have nD9 : H19 D = none := by rw [e19]; exact nD
      refine lc_range (lo := 0) (n := 6) (fun j H20 => Same H19 H20 ∧ H20 D = some (.lst ((List.replicate j true).map V.bl))) ?_ ?_ ?_
      · refine ⟨?_, upd_same⟩
        rw [e19]
        exact same_new nD
      · rintro j H20 hj ⟨s20, hD⟩
        have e1 : (0 : Int) + (j : Int) = (j : Int) := Int.zero_add _
        rw [e1]
        refine ⟨rfl, _, rfl, _, rfl, _, rfl, j, pN, n, _, x, rfl, hj, N19.same s20, n2, n32, hx2.same s20, hx3, fun H21 s21 => ?_⟩
        refine ⟨_, s21 _ _ hD, ?_, same_put (s20.trans s21) nD9, ?_⟩
        · rw [List.length_map, List.length_replicate]
          exact small1000 (by omega)
        · rw [upd_same, trues_snoc]
      · rintro H20 ⟨s20, hD⟩
        refine ⟨D, _, rfl, SqL.of hD, true, congrArg V.bl (trues_all 6), iteF ?_⟩
        have s1320 := ((s14.trans s15).trans cc).trans s20
        have N20 := N13.net.same s1320
        refine ⟨_, rfl, _, rfl, _, rfl, pN, kl, n, ts, rfl, N20, hk13.same s1320, g, n2, n32, fun H22 s22 => ⟨true, rfl, iteF ?_⟩⟩
        have s1322 := s1320.trans s22
        refine ⟨_, _, _, _, _, _, _, _, _, _, xs ++ [.ref tp], rfl, s13.trans s1322, s1322 _ _ hS13, by rw [List.length_append, hlen]; rfl, fun y hy => ?_⟩
        cases xs with
        | nil =>
          have ey : y = .ref tp := (Option.some.inj hy).symm
          subst ey
          exact new.but (But.of s1322)
        | cons x0 xs => exact (old y hy).but (But.of s1322)
    · rintro σ H3 ⟨x2, x3, x4, x5, x6, x7, x8, x9, x10, x11, xs, rfl, s3, hSx, hlen, hseen⟩
      have h0 : 0 < xs.length := by omega
      have hx0 := List.getElem?_eq_getElem h0
      obtain ⟨t, p, l, n, ts, ex, ht, N, hl, g, n2, n32⟩ := (hseen _ hx0).seen hSx
      rw [ex] at hx0
      refine ⟨_, rfl, S, _, _, _, rfl, rfl, SqL.of hSx, atI_nat (j := 0) hx0, ?_⟩
      refine ⟨t, _, rfl, SqT.of ht, rfl, _, _, rfl, _, _, rfl, _, _, rfl, rfl, ?_⟩
      exact ⟨_, rfl, _, rfl, _, rfl, p, l, n, ts, rfl, N, hl, g, n2, n32, fun H' _ => q H'⟩
theorem can_law (T : Tx K mg) : Can P w K mg base CX0 8 "law" ["_law_script"] (spLaw K) :=
  T.can 24 rfl rfl (fun _ _ _ _ _ _ us hl => match us, hl with | [_], _ => rfl) fun _ _ F => ok_law T F
end
end NW
-- NwEnd
set_option Elab.async false
set_option linter.all false
set_option maxRecDepth 100000
set_option maxHeartbeats 4200000
namespace NW
open PySem PySem.Spec L2 PyProof.Rows
/-! ## The end -/
theorem end_facts {P : Program} {w : World} {K : PySem.W.Frag} {h : Heap} {mg : Str → Option Value} {f : Addr} (X : K.In h) (G : h.Ns mainGlobals mg) (hf : mg ("law" : Str) = some (.ref f)) (c : SaysN K) :
    ∃ fd : FuncData, (∀ (s : Shared) (v : Value), BindsTo s fd ⟨[v], []⟩ [("_law_script", v)]) ∧ ∀ base : Heap, K.In base → base.Ns mainGlobals mg → FnOk P w K mg base CX0 8 f fd ["_law_script"] (spLaw K) := by
  have T : Tx K mg := ⟨c, h, X, G⟩
  obtain ⟨fd, F⟩ := c.1.def_ 24 (d := dfn 45 "law") rfl
  have F' : Fun K "law" "law" (top 45) (He.ga K "law") fd := fun_of F
  have e := hf.symm.trans (T.glo 24)
  cases e
  have b := FunD.bindsA (ps := ["_law_script"]) F fun _ _ _ _ _ _ us hl => match us, hl with | [_], _ => rfl
  exact ⟨fd, fun s v => b s [v] rfl, fun base _ _ => ok_law T F'⟩
end NW
open PySem PySem.Calls PySem.W PyProof.Rows
theorem PySem.Challenge.cw_neverwait_k12_whole_distances_holds : PySem.Challenge.rw_neverwait_k12_whole_distances.Holds := by
  w_on; o_law
  refine HandSHeadRun.head_any (r := NW.R) (q := view NW.R.prog [45]) (H := NW.hk) (ob := NW.ob) (M := 12000) (loose := NW.loose) (d := HandSHeadRun.topDef NW.R.prog 45) (kwd := []) NW.ob_eq
    (by kernel_rfl) (fun s => by kernel_rfl) NW.run (by kernel_rfl) (by kernel_rfl) (by kernel_rfl) (by rfl) (by first | assumption | decide +kernel) (by decide +kernel) ⟨rfl, rfl, rfl, rfl, rfl, by decide +kernel⟩ ?hw ?hc
  case hw => w_witness2
  case hc =>
    refine L2.walk_ofE (l := PySem.Challenge.rw_neverwait_k12_whole_distances) (n := 63) (k := 8) (x := "_law_script") (CX := L2.CX0) rfl (by decide) (by kernel_rfl) ⟨rfl, by decide, by decide⟩ ?F (fun _ _ _ _ z => z)
    intro w mg fa h Y G hmg0
    obtain ⟨K, KX, c⟩ := Y
    have at_law : mg ("law" : PySem.Str) = some (.ref fa) := by
      have e : (HandSHeadRun.topDef NW.R.prog 45).name = ("law" : PySem.Str) := by kernel_rfl
      rw [← e]
      exact hmg0
    obtain ⟨fd, hb, hF⟩ := NW.end_facts (P := (PySem.Challenge.rw_neverwait_k12_whole_distances).prog) (w := w) KX G at_law c
    exact ⟨K, fd, NW.spLaw K, KX, hb, fun H a ns hl _ hS => ⟨a, ns, rfl, hS, fun _ => rfl⟩, hF⟩
