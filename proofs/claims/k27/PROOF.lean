import PyProof.Rows.All
import Wide.All
import OpenK.AllK
import Wide.FinOn
import HandS.ForMost
import HandS.Exc
import HandS.ExcOwn
import HandS.TryOnly
import HandS.WordsExc
import HandS.Defaults
import PySem.Challenge.RW_twigmap_k27_labels_and_looks
import HandS.More
import HandS.IsInst
import HandS.SortInts
import HandS.Remove
import HandS.Deep
import HandS.HeadHook1
import KE.LtData
import HandS.ExcInit
import HandS.ExcIs
import HandS.ExcField
import HandS.Small
import HandS.Wide
import HandS.Rev
import HandS.RevTup
import HandS.TupSets
import KE.SortData
import HandS.Lambda
import HandS.SortKw
import KE.DataMinMax
import HandS.HeadHook4
import HandS.TupMul
import KE.KxIndex
import KE.DatumOrd
import KE.KStateDown
import HandS.Words
import HandS.Head0
import HandS.Head1
import HandS.Head2
import HandS.HeadEnd
import HandS.HeadHook2
import HandS.HeadHook3
import HandS.HeadWalk
set_option Elab.async false
set_option linter.all false
set_option maxRecDepth 100000
set_option maxHeartbeats 4000000
/-! The text by places. -/
namespace Tw
open PySem L2
def top (i : Nat) : Stmt := PySem.Challenge.pw_twigmap_k27_labels_and_looks.main.body.getD i (.Pass ⟨0, 0, 0, 0⟩)
abbrev shm (j : Nat) : Stmt := inClass (top 28) j
/-- a def of the text, as the head leaves it -/
abbrev FnP (K : PySem.W.Frag) (x q : Str) (st : Stmt) (f : Addr) (fd : FuncData) : Prop := FunD K x q (defArgs st) (defBody st) (defScope st) [] [] f fd
end Tw

set_option Elab.async false
set_option linter.all false
set_option maxRecDepth 100000
set_option maxHeartbeats 4000000
/-! The base: the text's facts, calls, readings that leave the heap, data of tuples. -/
namespace Tw
open PySem PySem.Spec PyProof.Rows L2
open He (ga ma)
theorem bt_isinstance : bootBuiltins "isinstance" = some (.builtin "isinstance") := by decide +kernel
theorem bt_len : bootBuiltins "len" = some (.builtin "len") := by decide +kernel
theorem bt_all : bootBuiltins "all" = some (.builtin "all") := by decide +kernel
theorem bt_sum : bootBuiltins "sum" = some (.builtin "sum") := by decide +kernel
theorem bt_sorted : bootBuiltins "sorted" = some (.builtin "sorted") := by decide +kernel
theorem bt_max : bootBuiltins "max" = some (.builtin "max") := by decide +kernel
theorem bt_min : bootBuiltins "min" = some (.builtin "min") := by decide +kernel
theorem bt_abs : bootBuiltins "abs" = some (.builtin "abs") := by decide +kernel
theorem bt_int : bootBuiltins "int" = some (.type "int") := by decide +kernel
theorem bt_bool : bootBuiltins "bool" = some (.type "bool") := by decide +kernel
theorem bt_str : bootBuiltins "str" = some (.type "str") := by decide +kernel
theorem bt_tuple : bootBuiltins "tuple" = some (.type "tuple") := by decide +kernel
theorem bt_list : bootBuiltins "list" = some (.type "list") := by decide +kernel
theorem bt_range : bootBuiltins "range" = some (.type "range") := by decide +kernel
theorem bt_reversed : bootBuiltins "reversed" = some (.type "reversed") := by decide +kernel
theorem bt_ValueError : bootBuiltins "ValueError" = some (.type "ValueError") := by decide +kernel
/-- the text's facts: what the names stand for, the class -/
structure TX (K : PySem.W.Frag) (mg : Str → Option Value) : Prop where
  g_is_number : mg "is_number" = some (.ref (ga K "is_number"))
  g_is_text : mg "is_text" = some (.ref (ga K "is_text"))
  g_is_within : mg "is_within" = some (.ref (ga K "is_within"))
  g_is_key : mg "is_key" = some (.ref (ga K "is_key"))
  g_checked : mg "checked" = some (.ref (ga K "checked"))
  g_rank : mg "rank" = some (.ref (ga K "rank"))
  g_ahead : mg "ahead" = some (.ref (ga K "ahead"))
  g_checked_rows : mg "checked_rows" = some (.ref (ga K "checked_rows"))
  g_label_of_rows : mg "label_of_rows" = some (.ref (ga K "label_of_rows"))
  g_label_over : mg "label_over" = some (.ref (ga K "label_over"))
  g__law_well : mg "_law_well" = some (.ref (ga K "_law_well"))
  g__law_pull : mg "_law_pull" = some (.ref (ga K "_law_pull"))
  g__law_rank : mg "_law_rank" = some (.ref (ga K "_law_rank"))
  g__law_less : mg "_law_less" = some (.ref (ga K "_law_less"))
  g__law_alike : mg "_law_alike" = some (.ref (ga K "_law_alike"))
  g__law_grid : mg "_law_grid" = some (.ref (ga K "_law_grid"))
  g__law_leaf_rows : mg "_law_leaf_rows" = some (.ref (ga K "_law_leaf_rows"))
  g__law_rows_of : mg "_law_rows_of" = some (.ref (ga K "_law_rows_of"))
  g__law_label : mg "_law_label" = some (.ref (ga K "_law_label"))
  g__law_above : mg "_law_above" = some (.ref (ga K "_law_above"))
  g__law_shared : mg "_law_shared" = some (.ref (ga K "_law_shared"))
  g__law_swept : mg "_law_swept" = some (.ref (ga K "_law_swept"))
  g__law_asked : mg "_law_asked" = some (.ref (ga K "_law_asked"))
  g__law_wrong : mg "_law_wrong" = some (.ref (ga K "_law_wrong"))
  g__law_unheld : mg "_law_unheld" = some (.ref (ga K "_law_unheld"))
  g__law_picked : mg "_law_picked" = some (.ref (ga K "_law_picked"))
  g__law_run : mg "_law_run" = some (.ref (ga K "_law_run"))
  g__law_put_leaf : mg "_law_put_leaf" = some (.ref (ga K "_law_put_leaf"))
  g__law_put_stem : mg "_law_put_stem" = some (.ref (ga K "_law_put_stem"))
  g__law_begun : mg "_law_begun" = some (.ref (ga K "_law_begun"))
  g__law_seen : mg "_law_seen" = some (.ref (ga K "_law_seen"))
  g__law_looked : mg "_law_looked" = some (.ref (ga K "_law_looked"))
  g__law_no_look : mg "_law_no_look" = some (.ref (ga K "_law_no_look"))
  g__law_deed : mg "_law_deed" = some (.ref (ga K "_law_deed"))
  g_law : mg "law" = some (.ref (ga K "law"))
  g_Shelf : mg "Shelf" = some (.ref (ga K "Shelf"))
  g_TwigError : mg "TwigError" = some (.ref (ga K "TwigError"))
  g_NoKey : mg "NoKey" = some (.ref (ga K "NoKey"))
  g_NoLeaf : mg "NoLeaf" = some (.ref (ga K "NoLeaf"))
  g_NoStem : mg "NoStem" = some (.ref (ga K "NoStem"))
  g_NoTwig : mg "NoTwig" = some (.ref (ga K "NoTwig"))
  g_NotHeld : mg "NotHeld" = some (.ref (ga K "NotHeld"))
  g_Shared : mg "Shared" = some (.ref (ga K "Shared"))
  f_isinstance : mg "isinstance" = none
  f_len : mg "len" = none
  f_all : mg "all" = none
  f_sum : mg "sum" = none
  f_sorted : mg "sorted" = none
  f_max : mg "max" = none
  f_min : mg "min" = none
  f_abs : mg "abs" = none
  f_int : mg "int" = none
  f_bool : mg "bool" = none
  f_str : mg "str" = none
  f_tuple : mg "tuple" = none
  f_list : mg "list" = none
  f_range : mg "range" = none
  f_reversed : mg "reversed" = none
  f_ValueError : mg "ValueError" = none
  c_SIGNS : ∃ t, mg "SIGNS" = some (.int 40 t)
  c_WIDE : ∃ t, mg "WIDE" = some (.int 4 t)
  c_DEEP : ∃ t, mg "DEEP" = some (.int 3 t)
  c_MOST : ∃ t, mg "MOST" = some (.int 4 t)
  c_BOUND : ∃ t, mg "BOUND" = some (.int (10 ^ 60) t)
  c_LEAF : ∃ t, mg "LEAF" = some (.str "leaf" t)
  c_STEM : ∃ t, mg "STEM" = some (.str "stem" t)
  cl : Cls K (ga K "Shelf")
  n_kept : NoAttr K (ga K "Shelf") "kept"
  n_tags : NoAttr K (ga K "Shelf") "tags"
  n_above : NoAttr K (ga K "Shelf") "above"
  n_freely : NoAttr K (ga K "Shelf") "freely"
  n_seen : NoAttr K (ga K "Shelf") "seen"
  n_given : NoAttr K (ga K "Shelf") "given"
/-! ### defs and methods that keep a promise -/
section
variable (P : Program) (w : World) (K : PySem.W.Frag) (mg : Str → Option Value) (base : Heap)
structure OkF (CX : CXT) (k : Nat) (f : Addr) (ps : List Str) (sp : Sp) : Prop where
  ex : ∃ fd, FnOk P w K mg base CX k f fd ps sp ∧ Binds K fd ps []
  kp : PySem.W.keepIn K (.ref f) = true
structure OkM (CX : CXT) (C : Addr) (m : Str) (k : Nat) (f : Addr) (ps : List Str) (sp : Sp) : Prop where
  ok : OkF P w K mg base CX k f ps sp
  me : Meth K C m f
end
/-- a def of the text -/
def Fd (K : PySem.W.Frag) (x q : Str) (st : Stmt) (f : Addr) : Prop := ∃ fd, FunD K x q (defArgs st) (defBody st) (defScope st) [] [] f fd
section
variable {P : Program} {w : World} {K : PySem.W.Frag} {mg : Str → Option Value} {base : Heap}
theorem mkOk {x q : Str} {st : Stmt} {f : Addr} {N ps : List Str} {k : Nat} {sp : Sp} (F : Fd K x q st f) (S : FnScope N ps (defScope st)) (len : ∀ vs H Q E, sp vs H Q E → vs.length = ps.length)
    (hb : ∀ (kV doc pm : Value) (an : Option Addr) (cdv ct : Value) (us : List Value), us.length = ps.length → bindArgs (PySem.W.fnOf x q (defArgs st) (defBody st) (defScope st) .none kV doc pm an cdv ct) ⟨us, []⟩ = pure (ps.zip us))
    (body : ∀ (cdv : Value) (A : Around) (outer : List Env) (s : Shared) (H : Hp) (vs : List V) (Q : VK) (E : XK), Room k (A.deeper (envOfC q (defScope st) s.heap.objs.size f cdv)) → sp vs H Q E →
      ∃ t, PSs (cxOf CX0 P w K mg base N q (defScope st) f cdv A outer s H E).nox (defBody st) t ∧ t { nx := fun _ H' => Q .non H', rt := Q } (start N vs) H) : OkF P w K mg base CX0 (k + 1) f ps sp := by
  obtain ⟨fd, G⟩ := F
  exact ⟨⟨fd, G.ok S len fun cdv A outer s H vs Q E hr h => let ⟨t, a, b⟩ := body cdv A outer s H vs Q E hr h; ⟨t, a.nox, b⟩, G.bindsN hb⟩, G.kp⟩
theorem mkOkX {x q : Str} {st : Stmt} {f : Addr} {N ps : List Str} {k : Nat} {sp : Sp} (F : Fd K x q st f) (S : FnScope N ps (defScope st)) (len : ∀ vs H Q E, sp vs H Q E → vs.length = ps.length)
    (hb : ∀ (kV doc pm : Value) (an : Option Addr) (cdv ct : Value) (us : List Value), us.length = ps.length → bindArgs (PySem.W.fnOf x q (defArgs st) (defBody st) (defScope st) .none kV doc pm an cdv ct) ⟨us, []⟩ = pure (ps.zip us))
    (body : ∀ (cdv : Value) (A : Around) (outer : List Env) (s : Shared) (H : Hp) (vs : List V) (Q : VK) (E : XK), Room k (A.deeper (envOfC q (defScope st) s.heap.objs.size f cdv)) → sp vs H Q E →
      ∃ t, PSs (cxOf (L2.CX P w) P w K mg base N q (defScope st) f cdv A outer s H E) (defBody st) t ∧ t { nx := fun _ H' => Q .non H', rt := Q } (start N vs) H) : OkF P w K mg base (L2.CX P w) (k + 1) f ps sp := by
  obtain ⟨fd, G⟩ := F
  exact ⟨⟨fd, G.ok S len body, G.bindsN hb⟩, G.kp⟩
theorem OkF.mono {CX : CXT} {j k : Nat} {f : Addr} {ps : List Str} {sp : Sp} (G : OkF P w K mg base CX j f ps sp) (h : j ≤ k) : OkF P w K mg base CX k f ps sp := by
  obtain ⟨⟨fd, a, b⟩, c⟩ := G
  exact ⟨⟨fd, a.mono h, b⟩, c⟩
theorem OkF.imp {CX : CXT} {k : Nat} {f : Addr} {ps : List Str} {sp sp' : Sp} (G : OkF P w K mg base CX k f ps sp) (h : ∀ vs H Q E, sp' vs H Q E → sp vs H Q E) : OkF P w K mg base CX k f ps sp' := by
  obtain ⟨⟨fd, a, b⟩, c⟩ := G
  exact ⟨⟨fd, a.imp h, b⟩, c⟩
end
section
variable {X : Cx} {CX : CXT} {k : Nat} {f C : Addr} {ps : List Str} {sp : Sp} {x m : Str} {p pos apos : Pos} {e o : Expr} {es : List Expr} {ta : TE} {t : TA} {E : XK}
theorem pe_c (G : OkF X.prog X.w X.K X.mg X.base CX0 k f ps sp) (hr : Room k X.A) (hg : Gl X x) (hm : X.mg x = some (.ref f)) (ha : PA X (e :: es) t)
    (hdb : (x == ("__debug__" : Str)) = false := by decide) (he : starEach (e :: es) X.env = (false, eval e X.env) :: starEach es X.env := by rfl) (hpl : (backTo pos (starEach es X.env)).any (·.1) = false := by rfl) :
    PE X (.Call (.Name x p) (e :: es) [] pos) (tCall sp [] E0 t) := by
  obtain ⟨⟨fd, a, b⟩, c⟩ := G
  exact pe_call a hr hg hm c b .nil pass0 ha hdb he hpl
theorem pe_cX (G : OkF X.prog X.w X.K X.mg X.base CX k f ps sp) (hr : Room k X.A) (hg : Gl X x) (hm : X.mg x = some (.ref f)) (hx : Passes CX X E) (ha : PA X (e :: es) t)
    (hdb : (x == ("__debug__" : Str)) = false := by decide) (he : starEach (e :: es) X.env = (false, eval e X.env) :: starEach es X.env := by rfl) (hpl : (backTo pos (starEach es X.env)).any (·.1) = false := by rfl) :
    PE X (.Call (.Name x p) (e :: es) [] pos) (tCall sp [] E t) := by
  obtain ⟨⟨fd, a, b⟩, c⟩ := G
  exact pe_call a hr hg hm c b .nil hx ha hdb he hpl
theorem pe_m {pl : Sem Bool} (he : PE X o ta) (c : Cls X.K C) (G : OkM X.prog X.w X.K X.mg X.base CX0 C m k f ps sp) (hr : Room k X.A) (ha : PA X (e :: es) t)
    (hst : starEach (e :: es) X.env = (false, eval e X.env) :: starEach es X.env := by rfl) (hpl : (backTo pos (starEach es X.env)).any (·.1) = false := by rfl)
    (ht : eval (.Call (.Attribute o m apos) (e :: es) [] pos) X.env = (do
      let ov ← eval o X.env
      standAt apos.atName
      let (f, first) ← holding [ov] (getMethod ov m pl)
      callWith pos f first (backTo pos (starEach (e :: es) X.env)) (backToKw pos (keywordEach [] X.env))) := by rfl) :
    PE X (.Call (.Attribute o m apos) (e :: es) [] pos) (tMeth C m sp [] E0 ta t) := by
  obtain ⟨⟨⟨fd, a, b⟩, d⟩, g⟩ := G
  exact pe_meth he c g a hr b .nil pass0 ha hst hpl ht
theorem pe_mX {pl : Sem Bool} (he : PE X o ta) (c : Cls X.K C) (G : OkM X.prog X.w X.K X.mg X.base CX C m k f ps sp) (hr : Room k X.A) (hx : Passes CX X E) (ha : PA X (e :: es) t)
    (hst : starEach (e :: es) X.env = (false, eval e X.env) :: starEach es X.env := by rfl) (hpl : (backTo pos (starEach es X.env)).any (·.1) = false := by rfl)
    (ht : eval (.Call (.Attribute o m apos) (e :: es) [] pos) X.env = (do
      let ov ← eval o X.env
      standAt apos.atName
      let (f, first) ← holding [ov] (getMethod ov m pl)
      callWith pos f first (backTo pos (starEach (e :: es) X.env)) (backToKw pos (keywordEach [] X.env))) := by rfl) :
    PE X (.Call (.Attribute o m apos) (e :: es) [] pos) (tMeth C m sp [] E ta t) := by
  obtain ⟨⟨⟨fd, a, b⟩, d⟩, g⟩ := G
  exact pe_meth he c g a hr b .nil hx ha hst hpl ht
theorem pe_m0 {pl : Sem Bool} (he : PE X o ta) (c : Cls X.K C) (G : OkM X.prog X.w X.K X.mg X.base CX0 C m k f ps sp) (hr : Room k X.A)
    (ht : eval (.Call (.Attribute o m apos) [] [] pos) X.env = (do
      let ov ← eval o X.env
      standAt apos.atName
      let (f, first) ← holding [ov] (getMethod ov m pl)
      callWith pos f first (backTo pos (starEach [] X.env)) (backToKw pos (keywordEach [] X.env))) := by rfl) :
    PE X (.Call (.Attribute o m apos) [] [] pos) (tMeth C m sp [] E0 ta tNil) := by
  obtain ⟨⟨⟨fd, a, b⟩, d⟩, g⟩ := G
  exact pe_meth0 he c g a hr b .nil pass0 ht
end

/-! ### readings that leave the heap as it is -/
def At (te : TE) (σ : L2.St) (H : Hp) (v : V) : Prop := ∀ Q : VK, Q v H → te σ H Q
def AtT (tt : TT) (σ : L2.St) (H : Hp) (b : Bool) : Prop := ∀ Q : Bool → Hp → Prop, Q b H → tt σ H Q
def AtA (ta : TA) (σ : L2.St) (H : Hp) (vs : List V) : Prop := ∀ Q : List V → Hp → Prop, Q vs H → ta σ H Q
section
variable {K : PySem.W.Frag} {σ : L2.St} {H : Hp} {ta tb te td ty tx : TE} {t u : TT} {x y z v : V} {r : R2} {a C dx : Addr} {fs : List (Str × V)} {f m : Str} {b c : Bool} {tr : TA} {vs : List V} {i : Nat} {o : Option V}
theorem at_var (h : σ[i]? = some (some v)) : At (tVar i) σ H v := fun _ q => ⟨v, h, q⟩
theorem at_c : At (tC v) σ H v := fun _ q => q
theorem at_op (ha : At ta σ H x) (hb : At tb σ H y) (hr : ∀ Q : VK, Q z H → r x y H Q) : At (tOp r ta tb) σ H z := fun Q q => ha _ (hb _ (hr Q q))
theorem at_un {r : V → Hp → VK → Prop} (ha : At ta σ H x) (hr : ∀ Q : VK, Q z H → r x H Q) : At (tUn r ta) σ H z := fun Q q => ha _ (hr Q q)
theorem ata_nil : AtA tNil σ H [] := fun _ q => q
theorem ata_cons (h : At te σ H x) (hr : AtA tr σ H vs) : AtA (tCons te tr) σ H (x :: vs) := fun _ q => h _ (hr _ q)
theorem at_fld (ha : At ta σ H (.ref a)) (hi : H a = some (.ins C dx fs)) (cl : Cls K C) (n : NoAttr K C f) (l : fs.lookup f = some v) : At (tFld K ta f) σ H v := fun _ q => ha _ ⟨a, C, dx, fs, v, rfl, hi, cl, n, l, q⟩
theorem at_dget (hd : At td σ H (.ref a)) (hy : At ty σ H y) (g : DGet H a y (some v)) : At (tDGet td ty) σ H v := fun _ q => hd _ (hy _ ⟨a, v, rfl, g, q⟩)
theorem at_din (hy : At ty σ H y) (hd : At td σ H (.ref a)) (g : DGet H a y o) : At (tDIn ty td) σ H (.bl o.isSome) := fun _ q => hy _ (hd _ ⟨a, o, rfl, g, q⟩)
theorem at_dnin (hy : At ty σ H y) (hd : At td σ H (.ref a)) (g : DGet H a y o) : At (tDNotIn ty td) σ H (.bl (!o.isSome)) := fun _ q => hy _ (hd _ ⟨a, o, rfl, g, q⟩)
theorem at_cb {r : List V → Hp → VK → Prop} (h : AtA tr σ H vs) (hr : ∀ Q : VK, Q z H → r vs H Q) : At (tCB r tr) σ H z := fun Q q => h _ (hr Q q)
theorem at_call {sp : Sp} {E : XK} (h : AtA tr σ H vs) (hr : ∀ Q : VK, Q z H → sp vs H Q E) : At (tCall sp [] E tr) σ H z := fun Q q => h _ (by
  show sp (vs ++ []) H Q E
  rw [List.append_nil]
  exact hr Q q)
theorem at_isN (h : At ta σ H x) : At (tIsN ta) σ H (.bl (decide (x = .non))) := fun _ q => h _ q
theorem at_notN (h : At ta σ H x) : At (tNotN ta) σ H (.bl (!decide (x = .non))) := fun _ q => h _ q
theorem at_andT (h : At ta σ H (.bl true)) (h2 : At tb σ H v) : At (tAndV ta tb) σ H v := fun Q q => h _ ⟨true, rfl, h2 Q q⟩
theorem at_andF (h : At ta σ H (.bl false)) : At (tAndV ta tb) σ H (.bl false) := fun _ q => h _ ⟨false, rfl, q⟩
theorem at_orF (h : At ta σ H (.bl false)) (h2 : At tb σ H v) : At (tOrV ta tb) σ H v := fun Q q => h _ ⟨false, rfl, h2 Q q⟩
theorem at_orT (h : At ta σ H (.bl true)) : At (tOrV ta tb) σ H (.bl true) := fun _ q => h _ ⟨true, rfl, q⟩
theorem at_not (h : At ta σ H (.bl b)) : At (tNotV ta) σ H (.bl (!b)) := fun _ q => h _ ⟨b, rfl, q⟩
theorem at_is (h : At te σ H v) (e : v = z) : At te σ H z := e ▸ h
theorem att_B (h : At te σ H (.bl b)) : AtT (tB te) σ H b := fun _ q => h _ ⟨b, rfl, q⟩
theorem att_test (h : At te σ H (.bl b)) : AtT (tTest te) σ H b := fun _ q => h _ ⟨b, rfl, q⟩
theorem att_not (h : AtT t σ H b) : AtT (tNot t) σ H (!b) := fun _ q => h _ q
theorem att_andT (h : AtT t σ H true) (h2 : AtT u σ H b) : AtT (tAnd t u) σ H b := fun Q q => h _ (h2 Q q)
theorem att_andF (h : AtT t σ H false) : AtT (tAnd t u) σ H false := fun _ q => h _ q
theorem att_orF (h : AtT t σ H false) (h2 : AtT u σ H b) : AtT (tOr t u) σ H b := fun Q q => h _ (h2 Q q)
theorem att_orT (h : AtT t σ H true) : AtT (tOr t u) σ H true := fun _ q => h _ q
theorem att_is (h : AtT t σ H b) (e : b = c) : AtT t σ H c := e ▸ h
theorem att_and (h : AtT t σ H b) (h2 : b = true → AtT u σ H c) : AtT (tAnd t u) σ H (b && c) := by
  cases b with
  | true => exact att_andT h (h2 rfl)
  | false => exact att_andF h
theorem att_or (h : AtT t σ H b) (h2 : b = false → AtT u σ H c) : AtT (tOr t u) σ H (b || c) := by
  cases b with
  | true => exact att_orT h
  | false => exact att_orF h (h2 rfl)
/-! statements -/
variable {D : Ends} {s1 s2 : TS}
theorem st_set (h : At te σ H v) (k : D.nx (σ.set i (some v)) H) : tAsg te (gName i) D σ H := h _ k
theorem st_ret (h : At te σ H v) (k : D.rt v H) : tRet te D σ H := h _ k
theorem st_drop (h : At te σ H v) (k : D.nx σ H) : tDrop te D σ H := h _ k
theorem st_T (h : AtT t σ H true) (k : s1 D σ H) : tIfS t s1 s2 D σ H := h _ k
theorem st_F (h : AtT t σ H false) (k : s2 D σ H) : tIfS t s1 s2 D σ H := h _ k
theorem st_if (h : AtT t σ H b) (k1 : b = true → s1 D σ H) (k2 : b = false → s2 D σ H) : tIfS t s1 s2 D σ H := by
  cases b with
  | true => exact st_T h (k1 rfl)
  | false => exact st_F h (k2 rfl)
theorem wp_call {sp : Sp} {E : XK} {Q : VK} (h : AtA tr σ H vs) (k : sp vs H Q E) : tCall sp [] E tr σ H Q := h _ (by
  show sp (vs ++ []) H Q E
  rw [List.append_nil]
  exact k)
theorem wp_meth {sp : Sp} {E : XK} {Q : VK} (h : At ta σ H (.ref a)) (hi : H a = some (.ins C dx fs)) (hl : fs.lookup m = none) (h2 : AtA tr σ H vs) (k : sp (.ref a :: vs) H Q E) : tMeth C m sp [] E ta tr σ H Q :=
  h _ ⟨a, dx, fs, rfl, hi, hl, h2 _ (by
    show sp (.ref a :: (vs ++ [])) H Q E
    rw [List.append_nil]
    exact k)⟩
theorem at_meth {sp : Sp} {E : XK} (h : At ta σ H (.ref a)) (hi : H a = some (.ins C dx fs)) (hl : fs.lookup m = none) (h2 : AtA tr σ H vs) (k : ∀ Q : VK, Q z H → sp (.ref a :: vs) H Q E) : At (tMeth C m sp [] E ta tr) σ H z :=
  fun Q q => wp_meth h hi hl h2 (k Q q)
end

/-! ### data of numbers, texts and tuples -/
mutual
inductive Tp (H : Hp) : V → PyData → Prop
  | int (i : Int) : Tp H (.int i) (.int i)
  | str (x : Str) : Tp H (.str x) (.str x)
  | tup {a : Addr} {xs : List V} {ds : List PyData} : H a = some (.tup xs) → TpA H xs ds → Tp H (.ref a) (.tuple ds)
inductive TpA (H : Hp) : List V → List PyData → Prop
  | nil : TpA H [] []
  | cons {v : V} {vs : List V} {d : PyData} {ds : List PyData} : Tp H v d → TpA H vs ds → TpA H (v :: vs) (d :: ds)
end
/-- the tuples stay -/
def TK (H H' : Hp) : Prop := ∀ a xs, H a = some (.tup xs) → H' a = some (.tup xs)
theorem TK.refl (H : Hp) : TK H H := fun _ _ h => h
theorem TK.trans {H H1 H2 : Hp} (a : TK H H1) (b : TK H1 H2) : TK H H2 := fun c o h => b c o (a c o h)
theorem TK.same {H H' : Hp} (s : Same H H') : TK H H' := fun a xs h => s a _ h
theorem TK.new {H : Hp} {p : Addr} {o : HO} (h : H p = none) : TK H (upd H p o) := fun a xs e => by
  rw [upd_ne (ne_of_none e h)]
  exact e
theorem TK.upd {H : Hp} {p : Addr} {o u : HO} (h : H p = some u) (n : ∀ xs, u ≠ .tup xs) : TK H (upd H p o) := fun a xs e => by
  rw [upd_ne (ne_of e h fun z => n xs z.symm)]
  exact e
mutual
theorem Tp.mono {H H' : Hp} (k : TK H H') : ∀ (d : PyData) (v : V), Tp H v d → Tp H' v d
  | .int _, _, h => by cases h; exact .int _
  | .str _, _, h => by cases h; exact .str _
  | .tuple ds, _, h => by
    cases h with
    | tup h1 h2 => exact .tup (k _ _ h1) (TpA.mono k ds _ h2)
  | .none, _, h => by cases h
  | .bool _, _, h => by cases h
  | .list _, _, h => by cases h
  | .dict _, _, h => by cases h
theorem TpA.mono {H H' : Hp} (k : TK H H') : ∀ (ds : List PyData) (vs : List V), TpA H vs ds → TpA H' vs ds
  | [], _, h => by cases h; exact .nil
  | d :: ds, _, h => by
    cases h with
    | cons h1 h2 => exact .cons (Tp.mono k d _ h1) (TpA.mono k ds _ h2)
end
mutual
theorem Tp.dp {K : PySem.W.Frag} {H : Hp} : ∀ (d : PyData) (v : V), Tp H v d → Dp K H v d
  | .int _, _, h => by cases h; exact .int _
  | .str _, _, h => by cases h; exact .str _
  | .tuple ds, _, h => by
    cases h with
    | tup h1 h2 => exact .tup (SqT.of h1) (TpA.dp ds _ h2)
  | .none, _, h => by cases h
  | .bool _, _, h => by cases h
  | .list _, _, h => by cases h
  | .dict _, _, h => by cases h
theorem TpA.dp {K : PySem.W.Frag} {H : Hp} : ∀ (ds : List PyData) (vs : List V), TpA H vs ds → DpAll K H vs ds
  | [], _, h => by cases h; exact .nil
  | d :: ds, _, h => by
    cases h with
    | cons h1 h2 => exact .cons (Tp.dp d _ h1) (TpA.dp ds _ h2)
end
theorem TpA.length {H : Hp} : ∀ {ds : List PyData} {vs : List V}, TpA H vs ds → vs.length = ds.length
  | [], _, h => by cases h; rfl
  | d :: ds, _, h => by
    cases h with
    | cons h1 h2 => exact congrArg Nat.succ (TpA.length h2)
theorem TpA.get {H : Hp} : ∀ {ds : List PyData} {vs : List V} {i : Nat} {v : V}, TpA H vs ds → vs[i]? = some v → ∃ d, ds[i]? = some d ∧ Tp H v d
  | [], _, i, v, h, e => by cases h; simp at e
  | d :: ds, _, 0, v, h, e => by
    cases h with
    | cons h1 h2 =>
      simp at e
      subst e
      exact ⟨d, rfl, h1⟩
  | d :: ds, _, i + 1, v, h, e => by
    cases h with
    | cons h1 h2 =>
      obtain ⟨d', e1, e2⟩ := TpA.get (i := i) h2 (by simpa using e)
      exact ⟨d', by simpa using e1, e2⟩
theorem TpA.snoc {H : Hp} {v : V} {d : PyData} (h : Tp H v d) : ∀ {ds : List PyData} {vs : List V}, TpA H vs ds → TpA H (vs ++ [v]) (ds ++ [d])
  | [], _, q => by cases q; exact .cons h .nil
  | _ :: _, _, q => by
    cases q with
    | cons h1 h2 => exact .cons h1 (TpA.snoc h h2)
theorem Tp.tup_inv {H : Hp} {v : V} {ds : List PyData} (h : Tp H v (.tuple ds)) : ∃ a xs, v = .ref a ∧ H a = some (.tup xs) ∧ TpA H xs ds := by
  cases h with
  | tup h1 h2 => exact ⟨_, _, rfl, h1, h2⟩
theorem Tp.int_inv {H : Hp} {v : V} {i : Int} (h : Tp H v (.int i)) : v = .int i := by cases h; rfl
theorem Tp.str_inv {H : Hp} {v : V} {x : Str} (h : Tp H v (.str x)) : v = .str x := by cases h; rfl
/-- a value's kind, for isinstance -/
theorem Tp.ty {K : PySem.W.Frag} {H : Hp} {v : V} {d : PyData} (h : Tp H v d) : TyX K H v (.type (match d with | .int _ => "int" | .str _ => "str" | _ => "tuple")) := by
  cases h with
  | int i => exact .base (.int i)
  | str x => exact .base (.str x)
  | tup h1 h2 => exact .base (.tup h1)
/-- isinstance(v, T) of data -/
theorem at_isi {K : PySem.W.Frag} {σ : L2.St} {H : Hp} {tr : TA} {v : V} {T t : String} {b : Bool} (h : AtA tr σ H [v, .ty T]) (ty : TyX K H v (.type t)) (e : kitB t T = some b) : At (tCB (rIsi K) tr) σ H (.bl b) :=
  at_cb h fun Q q => ⟨v, .ty T, .type t, .type T, b, rfl, .ty T, ty, kit_ty e, q⟩

/-! ### a < b of data -/
section
variable {X : Cx}
def rLtD (K : PySem.W.Frag) : R2 := fun x y H Q => ∃ d e, Dp K H x d ∧ Dp K H y e ∧ PySem.W.alike d e = true ∧ d ≠ .none ∧ d.depth ≤ 32 ∧ Q (.bl (PySem.W.dataLt d e)) H
theorem op_ltD (hu : X.A.units + 64 < cLine) : OpR X (compareOp .Lt) (rLtD X.K) := by
  intro pins s σ H x y v u Q I rx ry h
  obtain ⟨d, e, hd, he, ha, hn, hz, q⟩ := h
  obtain ⟨as, r1⟩ := Dp.reads I d x v hd rx
  obtain ⟨bs, r2⟩ := Dp.reads I e y u he ry
  exact PySem.W.rcLt_alike d e X.A s v u as bs r1 r2 ha hn (by omega) X.prog X.w _ _ ⟨.bl _, H, I, rfl, q⟩
end
end Tw

set_option Elab.async false
set_option linter.all false
set_option maxRecDepth 100000
set_option maxHeartbeats 4000000
/-! Comprehensions that map; new objects. -/
namespace Tw
open PySem PySem.Spec PyProof.Rows L2
open He (ga ma)
theorem zl {n : Nat} (h : n ≤ 100000) : n ≤ sizeLine := Nat.le_trans h (by rw [sizeLine_eq]; decide)
theorem zlt {n : Nat} (h : n < 100000) : n < sizeLine := Nat.lt_of_lt_of_le h (by rw [sizeLine_eq]; decide)
theorem same_new {H : Hp} {p : Addr} {o : HO} (h : H p = none) : Same H (upd H p o) := fun a u e => by
  rw [upd_ne (ne_of_none e h)]
  exact e
/-- an object that H does not know may change -/
theorem same_mut {H H' : Hp} {p : Addr} {o : HO} (e : Same H H') (h : H p = none) : Same H (upd H' p o) := fun a u ha => by
  rw [upd_ne (ne_of_none ha h)]
  exact e a u ha
theorem fresh_of {H H' : Hp} {p : Addr} (e : Same H H') (h : H' p = none) : H p = none := e.free h
theorem Tp.mk {H : Hp} {p : Addr} {xs : List V} {ds : List PyData} (hp : H p = none) (h : TpA H xs ds) : Tp (upd H p (.tup xs)) (.ref p) (.tuple ds) := .tup upd_same (TpA.mono (TK.new hp) ds xs h)
theorem Tp.sm {H H' : Hp} {v : V} {d : PyData} (e : Same H H') (h : Tp H v d) : Tp H' v d := h.mono (TK.same e) d v
theorem TpA.sm {H H' : Hp} {v : List V} {d : List PyData} (e : Same H H') (h : TpA H v d) : TpA H' v d := h.mono (TK.same e) d v
theorem TpA.of_get {H : Hp} : ∀ {vs : List V} {ds : List PyData}, vs.length = ds.length → (∀ (i : Nat) (v : V) (d : PyData), vs[i]? = some v → ds[i]? = some d → Tp H v d) → TpA H vs ds
  | [], [], _, _ => .nil
  | v :: vs, d :: ds, hl, h => .cons (h 0 v d rfl rfl) (TpA.of_get (by simpa using hl) fun i v' d' a b => h (i + 1) v' d' (by simpa using a) (by simpa using b))
  | [], _ :: _, hl, _ => by simp at hl
  | _ :: _, [], hl, _ => by simp at hl
theorem wipe1 (σ : L2.St) (i : Nat) (x : Option V) : wipe ((wipe σ [i]).set i x) [i] = wipe σ [i] := by
  show (((σ.set i none).set i x).set i none) = σ.set i none
  rw [List.set_set, List.set_set]
section
variable {K : PySem.W.Frag} {σ : L2.St} {H : Hp} {Q : VK} {tl te : TE} {a : Addr} {xs : List V} {i : Nat} (R : Nat → V → Hp → Prop)
/-- one turn, by the list so far -/
def LcI (R : Nat → V → Hp → Prop) (H : Hp) (D : Addr) (j : Nat) (H' : Hp) : Prop := Same H H' ∧ ∃ us : List V, H' D = some (.lst us) ∧ us.length = j ∧ ∀ m y, us[m]? = some y → R m y H'
theorem lcI_turn {n : Nat} (hR : ∀ j y H H', TK H H' → R j y H → R j y H') (hn : n ≤ 10000) {D : Addr} (hD : H D = none) {j : Nat} (hj : j < n) {x : V} {H' : Hp} (I : LcI R H D j H')
    (turn : ∀ Q : VK, (∀ y H'', Same H' H'' → R j y H'' → Q y H'') → te ((wipe σ [i]).set i (some x)) H' Q) :
    gName i x (wipe σ [i]) H' fun σ2 H2 => wipe σ2 [i] = wipe σ [i] ∧ tYes σ2 H2 fun b H3 =>
      if b = true then te σ2 H3 fun y H4 => ∃ acc, H4 D = some (.lst acc) ∧ acc.length < sizeLine ∧ LcI R H D (j + 1) (upd H4 D (.lst (acc ++ [y]))) else LcI R H D (j + 1) H3 := by
  obtain ⟨sm, us, hu, hl, hr⟩ := I
  refine ⟨wipe1 σ i _, ?_⟩
  show te (List.set (wipe σ [i]) i (some x)) H' _
  refine turn _ fun y H4 s4 ry => ⟨us, s4 _ _ hu, zlt (by omega), same_mut (sm.trans s4) hD, us ++ [y], upd_same, by rw [List.length_append, hl]; rfl, fun m z hz => ?_⟩
  have tk : TK H4 (upd H4 D (.lst (us ++ [y]))) := TK.upd (s4 _ _ hu) fun _ q => by cases q
  by_cases hm : m < us.length
  · rw [List.getElem?_append_left hm] at hz
    exact hR _ _ _ _ ((TK.same s4).trans tk) (hr m z hz)
  · rw [List.getElem?_append_right (by omega)] at hz
    have e : m - us.length = 0 := by
      rcases Nat.eq_zero_or_pos (m - us.length) with q | q
      · exact q
      · rw [List.getElem?_eq_none (by simp; omega)] at hz
        cases hz
    rw [e] at hz
    simp at hz
    subst hz
    have e2 : m = j := by omega
    rw [e2]
    exact hR _ _ _ _ tk ry
theorem lcI_0 {D : Addr} (hD : H D = none) : LcI R H D 0 (upd H D (.lst [])) := ⟨same_new hD, [], upd_same, rfl, fun m y e => by simp at e⟩
theorem lcT (hR : ∀ j y H H', TK H H' → R j y H → R j y H') (hl : At tl σ H (.ref a)) (hx : H a = some (.tup xs)) (hn : xs.length ≤ 10000)
    (turn : ∀ j x H', xs[j]? = some x → Same H H' → ∀ Q : VK, (∀ y H'', Same H' H'' → R j y H'' → Q y H'') → te ((wipe σ [i]).set i (some x)) H' Q)
    (done : ∀ D H' us, H D = none → Same H H' → H' D = some (.lst us) → us.length = xs.length → (∀ j y, us[j]? = some y → R j y H') → Q (.ref D) H') : tLc (iTup K tl) (gName i) tYes te [i] σ H Q := by
  refine hl _ ⟨a, rfl, ⟨xs, SqT.of hx⟩, fun D hD => lc_tup (xs := xs) (LcI R H D) (lcI_0 R hD) (fun j H' _ I => SqT.of (I.1 _ _ hx)) (fun j x H' hj I => ?_) fun H' I => ?_⟩
  · have hjl : j < xs.length := (List.getElem?_eq_some_iff.mp hj).1
    exact lcI_turn R hR hn hD hjl I (turn j x H' hj I.1)
  · obtain ⟨sm, us, hu, hl, hr⟩ := I
    exact done D H' us hD sm hu hl hr
theorem lcL (hR : ∀ j y H H', TK H H' → R j y H → R j y H') (hl : At tl σ H (.ref a)) (hx : H a = some (.lst xs)) (hn : xs.length ≤ 10000)
    (turn : ∀ j x H', xs[j]? = some x → Same H H' → ∀ Q : VK, (∀ y H'', Same H' H'' → R j y H'' → Q y H'') → te ((wipe σ [i]).set i (some x)) H' Q)
    (done : ∀ D H' us, H D = none → Same H H' → H' D = some (.lst us) → us.length = xs.length → (∀ j y, us[j]? = some y → R j y H') → Q (.ref D) H') : tLc (iList K tl) (gName i) tYes te [i] σ H Q := by
  refine hl _ ⟨a, rfl, ⟨xs, SqL.of hx⟩, fun D hD => lc_list (xs := xs) (LcI R H D) (lcI_0 R hD) (fun j H' _ I => SqL.of (I.1 _ _ hx)) (fun j x H' hj I => ?_) fun H' I => ?_⟩
  · have hjl : j < xs.length := (List.getElem?_eq_some_iff.mp hj).1
    exact lcI_turn R hR hn hD hjl I (turn j x H' hj I.1)
  · obtain ⟨sm, us, hu, hl, hr⟩ := I
    exact done D H' us hD sm hu hl hr
/-- over range(n) -/
theorem lcR {ta : TA} {n : Nat} (hR : ∀ j y H H', TK H H' → R j y H → R j y H') (hl : AtA ta σ H [.int (n : Int)]) (hn : n ≤ 10000)
    (turn : ∀ (j : Nat) H', j < n → Same H H' → ∀ Q : VK, (∀ y H'', Same H' H'' → R j y H'' → Q y H'') → te ((wipe σ [i]).set i (some (.int (j : Int)))) H' Q)
    (done : ∀ D H' us, H D = none → Same H H' → H' D = some (.lst us) → us.length = n → (∀ j y, us[j]? = some y → R j y H') → Q (.ref D) H') : tLc (iRng1 ta) (gName i) tYes te [i] σ H Q := by
  refine hl _ ⟨(n : Int), rfl, by omega, by omega, fun D hD => ?_⟩
  have e : (n : Int).toNat = n := by omega
  rw [e]
  refine lc_range (lo := 0) (n := n) (LcI R H D) (lcI_0 R hD) (fun j H' hj I => ?_) fun H' I => ?_
  · have e0 : (0 : Int) + (j : Int) = (j : Int) := Int.zero_add _
    rw [e0]
    exact lcI_turn R hR hn hD hj I (turn j H' hj I.1)
  · obtain ⟨sm, us, hu, hl, hr⟩ := I
    exact done D H' us hD sm hu hl hr
end
/-- over a text, sign by sign -/
theorem lcS {σ : L2.St} {H : Hp} {Q : VK} {tl te : TE} {i : Nat} {z : Str} (R : Nat → V → Hp → Prop) (hR : ∀ j y H H', TK H H' → R j y H → R j y H') (hl : At tl σ H (.str z)) (hn : z.cps.size ≤ 10000)
    (turn : ∀ (j : Nat) (c : Nat) H', z.cps[j]? = some c → Same H H' → ∀ Q : VK, (∀ y H'', Same H' H'' → R j y H'' → Q y H'') → te ((wipe σ [i]).set i (some (.str ⟨#[c]⟩))) H' Q)
    (done : ∀ D H' us, H D = none → Same H H' → H' D = some (.lst us) → us.length = z.cps.size → (∀ j y, us[j]? = some y → R j y H') → Q (.ref D) H') : tLc (iStr tl) (gName i) tYes te [i] σ H Q := by
  refine hl _ ⟨z, rfl, fun D hD => ⟨fun i m H' => m = z.cps.size - i ∧ i ≤ z.cps.size ∧ LcI R H D i H', ⟨z.cps.size, by simp, Nat.zero_le _, lcI_0 R hD⟩, ?_⟩⟩
  rintro j m H' ⟨rfl, hj, I⟩
  by_cases hlt : j < z.cps.size
  · refine .inr ⟨hlt, LcI R H D (j + 1), fun H2 I2 => ⟨z.cps.size - (j + 1), by omega, rfl, hlt, I2⟩, fun x H2 hy => ?_⟩
    obtain ⟨e, c, hc, ex⟩ := hy
    subst e ex
    exact lcI_turn R hR hn hD hlt I (turn j c _ hc I.1)
  · have e : j = z.cps.size := by omega
    subst e
    obtain ⟨sm, us, hu, hl, hr⟩ := I
    exact .inl ⟨Nat.le_refl _, done D H' us hD sm hu hl hr⟩
section
variable {K : PySem.W.Frag} {σ : L2.St} {H : Hp} {ta tb tc : TE} {x y z v : V} {g : Int → Int → V} {C : Int → Int → Prop} {i j : Int} {p : Addr} {xs : List V} {r r' : R2} {b : Bool} {tr : TA}
theorem at_I0 (ha : At ta σ H (.int i)) (hb : At tb σ H (.int j)) (e : g i j = z) : At (tOp (rI0 g) ta tb) σ H z := at_op ha hb fun _ q => ⟨i, j, rfl, rfl, by rw [e]; exact q⟩
theorem at_I (ha : At ta σ H (.int i)) (hb : At tb σ H (.int j)) (hc : C i j) (e : g i j = z) : At (tOp (rI C g) ta tb) σ H z := at_op ha hb fun _ q => ⟨i, j, rfl, rfl, hc, by rw [e]; exact q⟩
theorem at_U {g : Int → V} (ha : At ta σ H (.int i)) (e : g i = z) : At (tUn (rU g) ta) σ H z := at_un ha fun _ q => ⟨i, rfl, by rw [e]; exact q⟩
theorem at_eq (ha : At ta σ H x) (hb : At tb σ H y) (hs : scal x y = true) (e : decide (x = y) = b) : At (tOp rEq ta tb) σ H (.bl b) := at_op ha hb fun _ q => ⟨hs, by rw [e]; exact q⟩
theorem at_ne (ha : At ta σ H x) (hb : At tb σ H y) (hs : scal x y = true) (e : decide (x = y) = b) : At (tOp rNe ta tb) σ H (.bl (!b)) := at_op ha hb fun _ q => ⟨hs, by rw [e]; exact q⟩
theorem at_ixL (ha : At ta σ H (.ref p)) (hb : At tb σ H (.int i)) (h : H p = some (.lst xs)) (e : atI xs i = some v) : At (tOp (rIxL K) ta tb) σ H v := at_op ha hb fun _ q => ⟨p, xs, i, v, rfl, rfl, SqL.of h, e, q⟩
theorem at_ixT (ha : At ta σ H (.ref p)) (hb : At tb σ H (.int i)) (h : H p = some (.tup xs)) (e : atI xs i = some v) : At (tOp (rIxT K) ta tb) σ H v := at_op ha hb fun _ q => ⟨p, xs, i, v, rfl, rfl, SqT.of h, e, q⟩
theorem at_chT (ha : At ta σ H x) (hb : At tb σ H y) (h1 : ∀ Q : VK, Q (.bl true) H → r x y H Q) (hc : At tc σ H z) (h2 : ∀ Q : VK, Q v H → r' y z H Q) : At (tChain r r' ta tb tc) σ H v :=
  fun Q q => ha _ (hb _ (h1 _ ⟨true, rfl, by rw [if_pos rfl]; exact hc _ (h2 Q q)⟩))
theorem at_chF (ha : At ta σ H x) (hb : At tb σ H y) (h1 : ∀ Q : VK, Q (.bl false) H → r x y H Q) : At (tChain r r' ta tb tc) σ H (.bl false) :=
  fun Q q => ha _ (hb _ (h1 _ ⟨false, rfl, by rw [if_neg Bool.false_ne_true]; exact q⟩))
theorem rI0_at {Q : VK} {H : Hp} (e : g i j = z) (q : Q z H) : rI0 g (.int i) (.int j) H Q := ⟨i, j, rfl, rfl, by rw [e]; exact q⟩
theorem at_lenL (h : AtA tr σ H [.ref p]) (hp : H p = some (.lst xs)) : At (tCB (fun vs H Q => ∃ p ys, vs = [V.ref p] ∧ (SqL K H p ys ∨ SqT K H p ys) ∧ Q (.int (ys.length : Int)) H) tr) σ H (.int (xs.length : Int)) :=
  at_cb h fun _ q => ⟨p, xs, rfl, .inl (SqL.of hp), q⟩
theorem at_lenT (h : AtA tr σ H [.ref p]) (hp : H p = some (.tup xs)) : At (tCB (fun vs H Q => ∃ p ys, vs = [V.ref p] ∧ (SqL K H p ys ∨ SqT K H p ys) ∧ Q (.int (ys.length : Int)) H) tr) σ H (.int (xs.length : Int)) :=
  at_cb h fun _ q => ⟨p, xs, rfl, .inr (SqT.of hp), q⟩
end
section
variable {σ : L2.St} {H : Hp} {t u : TT} {Q : Bool → Hp → Prop} {te : TE}
theorem att_nF (h : AtT t σ H false) : AtT (tNot t) σ H true := att_not h
theorem att_nT (h : AtT t σ H true) : AtT (tNot t) σ H false := att_not h
theorem at_nF (h : At te σ H (.bl false)) : At (tNotV te) σ H (.bl true) := at_not h
theorem at_nT (h : At te σ H (.bl true)) : At (tNotV te) σ H (.bl false) := at_not h
theorem tor_F (h : AtT t σ H false) (k : u σ H Q) : tOr t u σ H Q := h _ k
theorem tand_T (h : AtT t σ H true) (k : u σ H Q) : tAnd t u σ H Q := h _ k
theorem tB_of {b : Bool} (h : te σ H fun x H1 => x = .bl b ∧ Q b H1) (m : ∀ R S : VK, (∀ v H1, R v H1 → S v H1) → te σ H R → te σ H S) : tB te σ H Q := m _ _ (fun _ _ ⟨e, q⟩ => ⟨b, e, q⟩) h
end
theorem allT {us : List V} (h : ∀ (j : Nat) y, us[j]? = some y → y = V.bl true) : ∃ bs : List Bool, us = bs.map V.bl ∧ bs.all id = true := by
  refine ⟨List.replicate us.length true, List.ext_getElem? fun j => ?_, by simp⟩
  cases e : us[j]? with
  | none =>
    have := List.getElem?_eq_none_iff.mp e
    rw [List.getElem?_eq_none (by simpa using this)]
  | some y =>
    have hj := (List.getElem?_eq_some_iff.mp e).1
    rw [h j y e]
    simp [hj]
/-- all of a list whose items are all True -/
theorem rAll_T {K : PySem.W.Frag} {H : Hp} {a : Addr} {us : List V} {Q : VK} (ha : H a = some (.lst us)) (h : ∀ (j : Nat) y, us[j]? = some y → y = V.bl true) (q : Q (.bl true) H) : rAll K [.ref a] H Q := by
  obtain ⟨bs, e, e2⟩ := allT h
  exact ⟨a, bs, rfl, by rw [← e]; exact SqL.of ha, by rw [e2]; exact q⟩
section
variable {σ : L2.St} {H : Hp} {te : TE} {D : Ends} {i : Nat} {r : List V → Hp → VK → Prop} {Q : VK}
theorem rt_ (h : te σ H D.rt) : tRet te D σ H := h
theorem as_ (h : te σ H fun v H1 => D.nx (σ.set i (some v)) H1) : tAsg te (gName i) D σ H := h
theorem dr_ (h : te σ H fun _ H1 => D.nx σ H1) : tDrop te D σ H := h
theorem cb1 (h : te σ H fun x H1 => r [x] H1 Q) : tCB r (tCons te tNil) σ H Q := h
theorem sq_ {t u : TS} (h : t { D with nx := u D } σ H) : tSeq t u D σ H := h
end
section
variable {σ : L2.St} {H : Hp} {t : TT} {s1 : TS} {D : Ends}
theorem nx_ (h : D.nx σ H) : tNext D σ H := h
theorem st_Fn (h : AtT t σ H false) (k : D.nx σ H) : tIfS t s1 tNext D σ H := st_F h k
end
section
variable {σ : L2.St} {H : Hp} {t : TT} {s1 s2 u : TS} {D : Ends} {te : TE} {v : V} {i : Nat} {b : Bool}
theorem sq_Fn (h : AtT t σ H false) (k : u D σ H) : tSeq (tIfS t s1 tNext) u D σ H := st_F (t := t) h k
theorem sq_F (h : AtT t σ H false) (k : s2 { D with nx := u D } σ H) : tSeq (tIfS t s1 s2) u D σ H := st_F (t := t) h k
theorem sq_T (h : AtT t σ H true) (k : s1 { D with nx := u D } σ H) : tSeq (tIfS t s1 s2) u D σ H := st_T (t := t) h k
theorem sq_if (h : AtT t σ H b) (k1 : b = true → s1 { D with nx := u D } σ H) (k2 : b = false → s2 { D with nx := u D } σ H) : tSeq (tIfS t s1 s2) u D σ H := st_if (t := t) h k1 k2
theorem sq_ifn (h : AtT t σ H b) (k1 : b = true → s1 { D with nx := u D } σ H) (k2 : b = false → u D σ H) : tSeq (tIfS t s1 tNext) u D σ H := st_if (t := t) h k1 k2
theorem sq_set (h : At te σ H v) (k : u D (σ.set i (some v)) H) : tSeq (tAsg te (gName i)) u D σ H := st_set (te := te) h k
theorem sq_as (h : te σ H fun v H1 => u D (σ.set i (some v)) H1) : tSeq (tAsg te (gName i)) u D σ H := h
theorem sq_drop (h : At te σ H v) (k : u D σ H) : tSeq (tDrop te) u D σ H := st_drop (te := te) h k
theorem sq_dr (h : te σ H fun _ H1 => u D σ H1) : tSeq (tDrop te) u D σ H := h
/-- a test that may make objects -/
theorem sq_ifw (h : t σ H fun b H1 => if b = true then s1 { D with nx := u D } σ H1 else s2 { D with nx := u D } σ H1) : tSeq (tIfS t s1 s2) u D σ H := h
theorem sq_ifF (h : t σ H fun b H1 => b = false ∧ u D σ H1) (m : ∀ R S : Bool → Hp → Prop, (∀ v H1, R v H1 → S v H1) → t σ H R → t σ H S) : tSeq (tIfS t s1 tNext) u D σ H := m _ _ (fun b H1 ⟨e, q⟩ => by
  rw [e]
  exact q) h
end
theorem z1 : 1 ≤ sizeLine := zl (by decide)
theorem z2 : 2 ≤ sizeLine := zl (by decide)
theorem z3 : 3 ≤ sizeLine := zl (by decide)
theorem z4 : 4 ≤ sizeLine := zl (by decide)
theorem z0 : 0 ≤ sizeLine := Nat.zero_le _
theorem t4 {σ : L2.St} {H : Hp} {te : TE} {Q : VK} {a b c : V} (h : te σ H fun x H1 => ∀ p, H1 p = none → Q (.ref p) (upd H1 p (.tup [a, b, c, x]))) (m : ∀ R S : VK, (∀ v H1, R v H1 → S v H1) → te σ H R → te σ H S) :
    tTup (tCons (tC a) (tCons (tC b) (tCons (tC c) (tCons te tNil)))) σ H Q := m _ _ (fun v H1 h => ⟨z4, h⟩) h
theorem t4' {σ : L2.St} {H : Hp} {te : TE} {Q : VK} {a b c : V} (h : te σ H fun x H1 => 4 ≤ sizeLine ∧ ∀ p, H1 p = none → Q (.ref p) (upd H1 p (.tup [a, b, c, x]))) :
    tTup (tCons (tC a) (tCons (tC b) (tCons (tC c) (tCons te tNil)))) σ H Q := h
theorem sgnF {a b : Nat} (h : ¬ a < b) : decide (([a] : List Nat) < [b]) = false := decide_eq_false fun q => by
  cases q with
  | rel q => exact h q
  | cons q => cases q
/-! rules whose written part is named (for a comprehension's block) -/
section
variable {X : Cx} {K : PySem.W.Frag}
theorem ixT (h : X.K = K) : IxR X (rIxT K) := h ▸ ix_tup
theorem ixL (h : X.K = K) : IxR X (rIxL K) := h ▸ ix_list
theorem pe_fldK {e : Expr} {f : Str} {pos : Pos} {ta : TE} (h : X.K = K) (he : PE X e ta) (hb : attributeBase e f X.env (eval e X.env) = eval e X.env) : PE X (.Attribute e f pos) (tFld K ta f) := h ▸ pe_fld he hb
theorem call_lenK (h : X.K = K) : CallR X (.builtin "len") (fun xs H Q => ∃ p ys, xs = [.ref p] ∧ (SqL K H p ys ∨ SqT K H p ys) ∧ Q (.int ys.length) H) := h ▸ call_len_seq
theorem op_inK (h : X.K = K) : OpR X (compareOp .In) (rIn K false) := h ▸ op_in_seq
theorem op_ninK (h : X.K = K) : OpR X (compareOp .NotIn) (rIn K true) := h ▸ op_notIn_seq
end
/-- a promise that is never asked -/
theorem okFalse {P : Program} {w : World} {K : PySem.W.Frag} {mg : Str → Option Value} {base : Heap} {x q : Str} {st : Stmt} {f : Addr} {ps : List Str} (F : Fd K x q st f)
    (hb : ∀ (kV doc pm : Value) (an : Option Addr) (cdv ct : Value) (us : List Value), us.length = ps.length → bindArgs (PySem.W.fnOf x q (defArgs st) (defBody st) (defScope st) .none kV doc pm an cdv ct) ⟨us, []⟩ = pure (ps.zip us)) :
    OkF P w K mg base CX0 0 f ps (fun _ _ _ _ => False) := by
  obtain ⟨fd, G⟩ := F
  exact ⟨⟨fd, ⟨fun _ _ _ _ h => h.elim, fun _ _ _ _ _ _ _ _ _ _ _ _ _ h => h.elim⟩, G.bindsN hb⟩, G.kp⟩
theorem kb_int_int : kitB "int" "int" = some true := by decide +kernel
theorem kb_str_int : kitB "str" "int" = some false := by decide +kernel
theorem kb_tup_int : kitB "tuple" "int" = some false := by decide +kernel
theorem kb_int_str : kitB "int" "str" = some false := by decide +kernel
theorem kb_str_str : kitB "str" "str" = some true := by decide +kernel
theorem kb_tup_str : kitB "tuple" "str" = some false := by decide +kernel
theorem kb_int_bool : kitB "int" "bool" = some false := by decide +kernel
theorem kb_str_tup : kitB "str" "tuple" = some false := by decide +kernel
theorem kb_int_tup : kitB "int" "tuple" = some false := by decide +kernel
theorem kb_tup_tup : kitB "tuple" "tuple" = some true := by decide +kernel
theorem kb_lst_lst : kitB "list" "list" = some true := by decide +kernel
end Tw

set_option Elab.async false
set_option linter.all false
set_option maxRecDepth 100000
set_option maxHeartbeats 4000000
/-! Rules of our own: sorted of a dict of any size. -/
namespace Tw
open PySem PySem.Spec PyProof.Rows L2
section
variable {X : Cx}
/-- sorted(d), the keys ints, any number of them -/
def rSortedK : List V → Hp → VK → Prop := fun xs H Q => ∃ (a : Addr) (kvs : List (Key × V)) (ks : List Int), xs = [.ref a] ∧ Rd H a (.dK kvs) ∧ kvs.map (·.1) = ks.map Sum.inl ∧
    ∀ (ys : List Int) (p : Addr), ys.Perm ks → ys.Pairwise (· ≤ ·) → H p = none → Q (.ref p) (upd H p (.lst (ys.map V.int)))
theorem cr_sortedK (hcalm : X.calm = true) : CallR X (.builtin "sorted") rSortedK := by
  intro pins s0 σ H xs us Q J r hq
  obtain ⟨a, kvs, ks, ex, hd, hks, hq⟩ := hq
  subst ex
  obtain ⟨u, eu, rx⟩ := vals1 r
  subst eu
  cases rx
  obtain ⟨z0, lo, vs, rel, dd⟩ := dk_rd J.hok hd
  obtain ⟨ep, hat⟩ := dd.dictAt
  have hkeys : vs.map (·.1) = ks.map Sum.inl := (rel.keys).symm.trans hks
  have hl0 : vs.length = ks.length := by
    have e0 := congrArg List.length hkeys
    simpa using e0
  have h16 : vs.length ≤ sizeLine := by
    have e0 : kvs.length = vs.length := Paired.length rel
    omega
  refine Calls.call_function_entry kind_sorted plain_sorted entry_sorted (args_sorted1 _) ?_
  unfold Builtin.«sorted»
  refine wpAny_bind (m := checkCount "sorted" 1 1 _) (wpAny_pure (wpAny_bind (PySem.W.kdu_collect (A := X.A.in1) (PySem.W.kdl_dict (knd := mixKind X.prog X.w) (kvs := vs) (ep := ep) lo) (J.ok.hd hcalm) hat h16 fun h1 tk1 acc hk1 hacc => ?_)))
  have hal : acc.toList.length = ks.length := by
    rw [Array.length_toList, hacc.1, hl0]
  have hz1 : acc.toList.length ≤ sizeLine := by omega
  have hS1 : IntsAre acc.toList ks := ints_each hal fun j v e => by
    obtain ⟨k, x, e1, e2⟩ := hacc.2 j v (by rw [← Array.getElem?_toList]; exact e)
    have e3 : (vs.map (·.1))[j]? = some k := by rw [List.getElem?_map, e1]; rfl
    rw [hkeys, List.getElem?_map] at e3
    cases e4 : ks[j]? with
    | none =>
      rw [e4] at e3
      cases e3
    | some y =>
      rw [e4] at e3
      have e5 : Sum.inl y = k := Option.some.inj e3
      subst e5
      rcases keyIs_shape (show keyIs (Sum.inl y) v = true from e2) with ⟨i, t, ek, ev⟩ | ⟨z, t, ek, ev⟩
      · cases ek
        exact ⟨y, t, rfl, ev⟩
      · cases ek
  have J1 : Inv X pins σ H { s0 with heap := h1, toks := tk1 } := J.kept hk1
  refine wpAny_bind (wpAny_newList ?_ hz1)
  have hoL : (h1.push (seqObj "list" acc.toList.toArray 0)).get? h1.objs.size = some (seqObj "list" acc.toList.toArray 0) := Heap.get?_push_size _ rfl
  show wpAny _ _ _ _ _ { s0 with heap := h1.push (seqObj "list" acc.toList.toArray 0), toks := tk1 }
  refine wpAny_bind (wpAny_holding (wpAny_call_entry slot_list_sort ⟨_, hoL, rfl⟩ entry_list_sort
    (SrtO.list_sort_ord SrtO.swo_int (s := { s0 with heap := h1.push (seqObj "list" acc.toList.toArray 0), toks := tk1 }) hoL hz1 (fun h2 => SrtO.ints_sortable hS1 h2) fun out g0 g0' => ⟨_, rfl, ?_⟩) (args_list_sort _)))
  obtain ⟨g1, g2, g3⟩ := SrtO.ints_out hS1 g0 g0'
  obtain ⟨e', he'⟩ := sortedHeap_at (vs := acc.toList) (out := out.toArray) hoL
  have hlen : ((out.map SrtO.iv).map V.int).length ≤ sizeLine := by
    rw [List.length_map, g2.length_eq]
    omega
  refine wpAny_pure ⟨_, rfl, .ref h1.objs.size, upd H h1.objs.size (.lst ((out.map SrtO.iv).map V.int)), J1.laid (t' := tk1) (fun b u e => ?_) (Nat.le_refl _)
    (show ObjOk X.prog X.w _ _ _ (.lst ((out.map SrtO.iv).map V.int)) from ⟨hlen, out, e', vals_of_ints g1, he'⟩), rfl, hq _ _ g2 g3 (J1.hok.fresh (Nat.le_refl _))⟩
  have hb : b < h1.objs.size := Heap.lt_size e
  rw [sortedHeap_old (Nat.ne_of_lt hb) (by rw [size_push']; exact Nat.lt_succ_of_lt hb)]
  exact Heap.get?_push_of_some _ e
end
/-- a rising list is its own sorting -/
theorem sorted_same {xs ys : List Int} (h : ys.Perm xs) (h1 : ys.Pairwise (· ≤ ·)) (h2 : xs.Pairwise (· ≤ ·)) : ys = xs :=
  h.eq_of_pairwise (fun a b _ _ h3 h4 => Int.le_antisymm h3 h4) h1 h2
end Tw

set_option Elab.async false
set_option linter.all false
set_option maxRecDepth 100000
set_option maxHeartbeats 4000000
/-! The keys: is_key, checked, rank, ahead; the law's rank, less, alike. -/
namespace Tw
open PySem PySem.Spec PyProof.Rows L2
open He (ga ma)
/-- what is a key of at most n tuples within one another -/
def okD : Nat → PyData → Bool
  | _, .int i => decide (-(10 ^ 60) < i) && decide (i < 10 ^ 60)
  | _, .str s => decide (s.length ≤ 40) && s.cps.toList.all fun c => decide (32 ≤ c) && decide (c ≤ 126)
  | n + 1, .tuple ds => decide (ds.length ≤ 4) && ds.all (okD n)
  | _, _ => false
def isI : PyData → Bool
  | .int _ => true
  | _ => false
def isS : PyData → Bool
  | .str _ => true
  | _ => false
theorem decT {p : Prop} [Decidable p] (h : p) : decide p = true := decide_eq_true h
theorem decF {p : Prop} [Decidable p] (h : ¬ p) : decide p = false := decide_eq_false h
def spIsNumber : Sp := fun vs H Q _ => ∃ v d, vs = [v] ∧ Tp H v d ∧ (∃ n, okD n d = true) ∧ Q (.bl (isI d)) H
def spIsText : Sp := fun vs H Q _ => ∃ v d, vs = [v] ∧ Tp H v d ∧ (∃ n, okD n d = true) ∧ ∀ H', Same H H' → Q (.bl (isS d)) H'
def spIsWithin : Nat → Sp
  | 0 => fun _ _ _ _ => False
  | n + 1 => fun vs H Q _ => ∃ v d, vs = [v, .int (n : Int)] ∧ Tp H v d ∧ okD n d = true ∧ n ≤ 10 ∧ ∀ H', Same H H' → Q (.bl true) H'
section
variable {P : Program} {w : World} {K : PySem.W.Frag} {mg : Str → Option Value} {base : Heap}
theorem sc_is_number : FnScope ["thing"] ["thing"] (defScope (top 13)) := ⟨rfl, rfl, rfl, by decide +kernel, rfl, by decide +kernel, by decide +kernel⟩
theorem ok_is_number (T : TX K mg) (F : Fd K "is_number" "is_number" (top 13) (ga K "is_number")) : OkF P w K mg base CX0 1 (ga K "is_number") ["thing"] spIsNumber := by
  refine mkOk F sc_is_number (fun vs H Q E h => ?_) (fun _ _ _ _ _ _ us hl => match us, hl with | [_], _ => rfl) (fun cdv A outer s H vs Q E hr h => ?_)
  · obtain ⟨v, d, rfl, _⟩ := h
    rfl
  · obtain ⟨v, d, rfl, hv, ⟨n, ho⟩, k⟩ := h
    have nd := sc_is_number.nd
    obtain ⟨t, c_BOUND⟩ := T.c_BOUND
    refine ⟨_, (pss_one (ps_ret (pe_and (pe_callB (call_isi) rfl T.f_isinstance bt_isinstance (pa_cons (pv 0) (pa_cons (pe_bltn rfl T.f_int bt_int (v := .ty "int") rfl) pa_nil))) (pe_and (pe_not (pe_callB (call_isi) rfl T.f_isinstance bt_isinstance (pa_cons (pv 0) (pa_cons (pe_bltn rfl T.f_bool bt_bool (v := .ty "bool") rfl) pa_nil)))) (pe_one (pe_chain op_lt op_lt (pe_un un_neg (pe_glob rfl c_BOUND (v := .int _) ⟨_, rfl⟩)) (pv 0) (pe_glob rfl c_BOUND (v := .int _) ⟨_, rfl⟩))))))), ?_⟩
    cases d with
    | int i =>
      obtain rfl := hv.int_inv
      have h1 : -(10 ^ 60) < i ∧ i < 10 ^ 60 := by simpa [okD] using ho
      refine st_ret (at_andT (at_isi (ata_cons (at_var rfl) (ata_cons at_c ata_nil)) hv.ty kb_int_int) (at_andT (at_is (at_not (at_isi (ata_cons (at_var rfl) (ata_cons at_c ata_nil)) hv.ty kb_int_bool)) rfl) ?_)) k
      exact at_chT (at_U at_c rfl) (at_var rfl) (fun _ q => rI0_at (by rw [decT h1.1]) q) at_c (fun _ q => rI0_at (by rw [decT h1.2]; rfl) q)
    | str x =>
      obtain rfl := hv.str_inv
      exact st_ret (at_andF (at_isi (ata_cons (at_var rfl) (ata_cons at_c ata_nil)) hv.ty kb_str_int)) k
    | tuple ds => exact st_ret (at_andF (at_isi (ata_cons (at_var rfl) (ata_cons at_c ata_nil)) hv.ty kb_tup_int)) k
    | _ => cases hv
theorem sc_is_text : FnScope ["thing", "sign"] ["thing"] (defScope (top 14)) := ⟨rfl, rfl, rfl, by decide +kernel, rfl, by decide +kernel, by decide +kernel⟩
theorem ok_is_text (T : TX K mg) (F : Fd K "is_text" "is_text" (top 14) (ga K "is_text")) : OkF P w K mg base CX0 1 (ga K "is_text") ["thing"] spIsText := by
  refine mkOk F sc_is_text (fun vs H Q E h => ?_) (fun _ _ _ _ _ _ us hl => match us, hl with | [_], _ => rfl) (fun cdv A outer s H vs Q E hr h => ?_)
  · obtain ⟨v, d, rfl, _⟩ := h
    rfl
  · obtain ⟨v, d, rfl, hv, ⟨n, ho⟩, k⟩ := h
    have nd := sc_is_text.nd
    obtain ⟨t, c_SIGNS⟩ := T.c_SIGNS
    refine ⟨_, (pss_cons (ps_if (PW.pt (pw_or (pt_not (pt_val (pe_callB (call_isi) rfl T.f_isinstance bt_isinstance (pa_cons (pv 0) (pa_cons (pe_bltn rfl T.f_str bt_str (v := .ty "str") rfl) pa_nil))))) (pw_or1 (pt_cmpR op_gt (pe_callB (call_len_str) rfl T.f_len bt_len (pa_cons (pv 0) pa_nil)) (pe_glob rfl c_SIGNS (v := .int _) ⟨_, rfl⟩) (nomark _))))) (pss_one (ps_ret pe_bl)) pss_nil)
      (pss_one (ps_ret (pe_callB (cr_all rfl) rfl T.f_all bt_all (pa_cons (pe_lc (own := [("sign", 1)]) (by rfl) nd (pi_str (pv 0)) (blkOk_by (N := ["thing", "sign"]) (sc := defScope (top 14)) (own := [("sign", 1)]) (by decide +kernel)) (fun _ _ _ _ _ => (pg_name (i := 1) nd rfl (by first | exact Or.inl rfl | exact Or.inr rfl))) (fun _ _ _ _ _ => pts_nil) (fun _ _ _ _ _ => pe_chain op_le_str op_le_str pe_str (pv 1) pe_str)) pa_nil))))), ?_⟩
    cases d with
    | int i => exact sq_T (att_orT (att_nF (att_B (at_isi (ata_cons (at_var rfl) (ata_cons at_c ata_nil)) hv.ty kb_int_str)))) (st_ret at_c (k H (Same.refl H)))
    | tuple ds => exact sq_T (att_orT (att_nF (att_B (at_isi (ata_cons (at_var rfl) (ata_cons at_c ata_nil)) hv.ty kb_tup_str)))) (st_ret at_c (k H (Same.refl H)))
    | str x =>
      have e := hv.str_inv
      subst e
      have h1 : x.length ≤ 40 ∧ ∀ c ∈ x.cps.toList, 32 ≤ c ∧ c ≤ 126 := by
        unfold okD at ho
        rw [Bool.and_eq_true, decide_eq_true_eq, List.all_eq_true] at ho
        exact ⟨ho.1, fun c hc => by simpa using ho.2 c hc⟩
      have hz : x.cps.size ≤ 40 := h1.1
      refine sq_Fn (att_orF (att_nT (att_B (at_isi (ata_cons (at_var rfl) (ata_cons at_c ata_nil)) hv.ty kb_str_str))) (att_test (at_I0 (at_cb (z := .int x.length) (ata_cons (at_var rfl) ata_nil) fun _ q => ⟨x, rfl, zl (by omega), q⟩) at_c ?_))) ?_
      · exact congrArg V.bl (decF (by omega))
      refine rt_ (cb1 ?_)
      refine lcS (fun _ y _ => y = V.bl true) (fun _ _ _ _ _ h => h) (at_var rfl) (by omega) (fun j c H' hj sm Q q => ?_) fun D H' us hD sm hu hl hr => rAll_T hu hr (k H' sm)
      have hc := h1.2 c (List.mem_of_getElem? (by rw [Array.getElem?_toList]; exact hj))
      refine at_chT (v := .bl true) at_c (at_var rfl) (fun Q q => ⟨_, _, rfl, rfl, ?_⟩) at_c (fun Q q => ⟨_, _, rfl, rfl, ?_⟩) _ (q _ _ (Same.refl _) rfl)
      · have e : decide (([c] : List Nat) < [32]) = false := sgnF (by omega)
        show Q (.bl (!decide (([c] : List Nat) < [32]))) H'
        rw [e]
        exact q
      · have e : decide (([126] : List Nat) < [c]) = false := sgnF (by omega)
        show Q (.bl (!decide (([126] : List Nat) < [c]))) H'
        rw [e]
        exact q
    | _ => cases hv
theorem sc_is_within : FnScope ["thing", "room", "part"] ["thing", "room"] (defScope (top 15)) := ⟨rfl, rfl, rfl, by decide +kernel, rfl, by decide +kernel, by decide +kernel⟩
theorem ok_is_within (T : TX K mg) (F : Fd K "is_within" "is_within" (top 15) (ga K "is_within")) (G_is_number : OkF P w K mg base CX0 1 (ga K "is_number") ["thing"] spIsNumber) (G_is_text : OkF P w K mg base CX0 1 (ga K "is_text") ["thing"] spIsText) :
    ∀ n, OkF P w K mg base CX0 (n + 1) (ga K "is_within") ["thing", "room"] (spIsWithin n)
  | 0 => (okFalse F (fun _ _ _ _ _ _ us hl => match us, hl with | [_, _], _ => rfl)).mono (Nat.zero_le _)
  | n + 1 => by
    have G_is_within := ok_is_within T F G_is_number G_is_text n
    refine mkOk F sc_is_within (fun vs H Q E h => ?_) (fun _ _ _ _ _ _ us hl => match us, hl with | [_, _], _ => rfl) (fun cdv A outer s H vs Q E hr h => ?_)
    · obtain ⟨v, d, rfl, _⟩ := h
      rfl
    · obtain ⟨v, d, rfl, hv, ho, hn, k⟩ := h
      have nd := sc_is_within.nd
      have hr1 := hr.mono (show 1 ≤ n + 1 by omega)
      obtain ⟨t, c_WIDE⟩ := T.c_WIDE
      refine ⟨_, (pss_cons (ps_if (PW.pt (pw_or (pt_val (pe_c G_is_number hr1 rfl T.g_is_number (pa_cons (pv 0) pa_nil))) (pw_or1 (pt_val (pe_c G_is_text hr1 rfl T.g_is_text (pa_cons (pv 0) pa_nil)))))) (pss_one (ps_ret pe_bl)) pss_nil)
      (pss_cons (ps_if (PW.pt (pw_or (pt_not (pt_val (pe_callB (call_isi) rfl T.f_isinstance bt_isinstance (pa_cons (pv 0) (pa_cons (pe_bltn rfl T.f_tuple bt_tuple (v := .ty "tuple") rfl) pa_nil))))) (pw_or (pt_cmpR op_eq (pv 1) pe_int (nomark _)) (pw_or1 (pt_cmpR op_gt (pe_callB (call_len_seq) rfl T.f_len bt_len (pa_cons (pv 0) pa_nil)) (pe_glob rfl c_WIDE (v := .int _) ⟨_, rfl⟩) (nomark _)))))) (pss_one (ps_ret pe_bl)) pss_nil)
      (pss_one (ps_ret (pe_callB (cr_all rfl) rfl T.f_all bt_all (pa_cons (pe_lc (own := [("part", 2)]) (by rfl) nd (pi_tup (pv 0)) (blkOk_by (N := ["thing", "room", "part"]) (sc := defScope (top 15)) (own := [("part", 2)]) (by decide +kernel)) (fun _ _ _ _ _ => (pg_name (i := 2) nd rfl (by first | exact Or.inl rfl | exact Or.inr rfl))) (fun _ _ _ _ _ => pts_nil) (fun _ _ _ _ _ => pe_c G_is_within hr rfl T.g_is_within (pa_cons (pv 2) (pa_cons (pe_op op_sub (pv 1) pe_int) pa_nil)))) pa_nil)))))), ?_⟩
      cases d with
      | int i => exact sq_T (att_orT (att_B (at_call (ata_cons (at_var rfl) ata_nil) fun Q q => ⟨_, _, rfl, hv, ⟨_, ho⟩, q⟩))) (st_ret at_c (k H (Same.refl H)))
      | str x => exact tor_F (att_B (at_call (ata_cons (at_var rfl) ata_nil) fun Q q => ⟨_, _, rfl, hv, ⟨_, ho⟩, q⟩)) (wp_call (ata_cons (at_var rfl) ata_nil) ⟨_, _, rfl, hv, ⟨_, ho⟩, fun H' sm => ⟨true, rfl, k H' sm⟩⟩)
      | tuple ds =>
        obtain ⟨a, xs, rfl, ha, hxs⟩ := hv.tup_inv
        refine tor_F (att_B (at_call (ata_cons (at_var rfl) ata_nil) fun Q q => ⟨_, _, rfl, hv, ⟨_, ho⟩, q⟩)) (wp_call (ata_cons (at_var rfl) ata_nil) ⟨_, _, rfl, hv, ⟨_, ho⟩, fun H1 sm => ⟨false, rfl, ?_⟩⟩)
        have hv1 := hv.sm sm
        have ha1 := sm _ _ ha
        cases n with
        | zero => simp [okD] at ho
        | succ m =>
          have ho2 : ds.length ≤ 4 ∧ ∀ d ∈ ds, okD m d = true := by simpa [okD] using ho
          have hl := hxs.length
          refine sq_Fn (att_orF (att_nT (att_B (at_isi (ata_cons (at_var rfl) (ata_cons at_c ata_nil)) hv1.ty kb_tup_tup))) (att_orF (att_test (at_eq (at_var rfl) at_c rfl (decF fun q => ?_))) (att_test (at_I0 (at_lenT (ata_cons (at_var rfl) ata_nil) ha1) at_c (congrArg V.bl (decF (by omega))))))) ?_
          · have q := V.int.inj q
            omega
          refine rt_ (cb1 ?_)
          refine lcT (fun _ y _ => y = V.bl true) (fun _ _ _ _ _ h => h) (at_var rfl) ha1 (by omega) (fun j x H' hj sm2 Q q => ?_) fun D H' us hD sm2 hu hl hr => rAll_T hu hr (k H' (sm.trans sm2))
          obtain ⟨d, hd, hxd⟩ := (hxs.sm (sm.trans sm2)).get hj
          exact wp_call (vs := [x, .int (m : Int)]) (ata_cons (at_var rfl) (ata_cons (at_I0 (at_var rfl) at_c (congrArg V.int (by omega))) ata_nil)) ⟨x, d, rfl, hxd, ho2.2 d (List.mem_of_getElem? hd), by omega, fun H2 sm3 => q _ _ sm3 rfl⟩
      | _ => cases hv
def spIsKey : Sp := fun vs H Q _ => ∃ v d, vs = [v] ∧ Tp H v d ∧ okD 3 d = true ∧ ∀ H', Same H H' → Q (.bl true) H'
theorem sc_is_key : FnScope ["thing"] ["thing"] (defScope (top 16)) := ⟨rfl, rfl, rfl, by decide +kernel, rfl, by decide +kernel, by decide +kernel⟩
theorem ok_is_key (T : TX K mg) (F : Fd K "is_key" "is_key" (top 16) (ga K "is_key")) (G_is_within : OkF P w K mg base CX0 5 (ga K "is_within") ["thing", "room"] (spIsWithin 4)) : OkF P w K mg base CX0 6 (ga K "is_key") ["thing"] spIsKey := by
  refine mkOk F sc_is_key (fun vs H Q E h => ?_) (fun _ _ _ _ _ _ us hl => match us, hl with | [_], _ => rfl) (fun cdv A outer s H vs Q E hr h => ?_)
  · obtain ⟨v, d, rfl, _⟩ := h
    rfl
  · obtain ⟨v, d, rfl, hv, ho, k⟩ := h
    have nd := sc_is_key.nd
    obtain ⟨t, c_DEEP⟩ := T.c_DEEP
    refine ⟨_, (pss_one (ps_ret (pe_c G_is_within (hr.mono (by decide)) rfl T.g_is_within (pa_cons (pv 0) (pa_cons (pe_glob rfl c_DEEP (v := .int _) ⟨_, rfl⟩) pa_nil))))), ?_⟩
    exact wp_call (ata_cons (at_var rfl) (ata_cons at_c ata_nil)) ⟨v, d, rfl, hv, ho, by decide, k⟩
def spChecked : Sp := fun vs H Q _ => ∃ v d, vs = [v] ∧ Tp H v d ∧ okD 3 d = true ∧ ∀ H', Same H H' → Q v H'
theorem sc_checked : FnScope ["thing"] ["thing"] (defScope (top 17)) := ⟨rfl, rfl, rfl, by decide +kernel, rfl, by decide +kernel, by decide +kernel⟩
theorem ok_checked (T : TX K mg) (F : Fd K "checked" "checked" (top 17) (ga K "checked")) (G_is_key : OkF P w K mg base CX0 6 (ga K "is_key") ["thing"] spIsKey) : OkF P w K mg base CX0 7 (ga K "checked") ["thing"] spChecked := by
  refine mkOk F sc_checked (fun vs H Q E h => ?_) (fun _ _ _ _ _ _ us hl => match us, hl with | [_], _ => rfl) (fun cdv A outer s H vs Q E hr h => ?_)
  · obtain ⟨v, d, rfl, _⟩ := h
    rfl
  · obtain ⟨v, d, rfl, hv, ho, k⟩ := h
    have nd := sc_checked.nd
    refine ⟨_, (pss_cons (ps_if (pt_not (pt_val (pe_c G_is_key (hr.mono (by decide)) rfl T.g_is_key (pa_cons (pv 0) pa_nil)))) (pss_one ps_never) pss_nil)
      (pss_one (ps_ret (pv 0)))), ?_⟩
    exact wp_call (ata_cons (at_var rfl) ata_nil) ⟨v, d, rfl, hv, ho, fun H' sm => ⟨true, rfl, st_ret (at_var rfl) (k H' sm)⟩⟩
/-- data of at most n tuples within one another -/
def okS : Nat → PyData → Bool
  | _, .int _ => true
  | _, .str _ => true
  | n + 1, .tuple ds => ds.all (okS n)
  | _, _ => false
def rankD : Nat → PyData → PyData
  | _, .int i => .tuple [.int 0, .int i, .str "", .tuple []]
  | _, .str x => .tuple [.int 1, .int 0, .str x, .tuple []]
  | n + 1, .tuple ds => .tuple [.int 2, .int 0, .str "", .tuple (ds.map (rankD n))]
  | _, _ => .none
/-- few things in each tuple -/
def few : Nat → PyData → Bool
  | n + 1, .tuple ds => decide (ds.length ≤ 100) && ds.all (few n)
  | _, _ => true
theorem rankD_int (n : Nat) (i : Int) : rankD n (.int i) = .tuple [.int 0, .int i, .str "", .tuple []] := by cases n <;> rfl
theorem rankD_str (n : Nat) (x : Str) : rankD n (.str x) = .tuple [.int 1, .int 0, .str x, .tuple []] := by cases n <;> rfl
def spRank : Nat → Sp
  | 0 => fun _ _ _ _ => False
  | n + 1 => fun vs H Q _ => ∃ v d, vs = [v] ∧ Tp H v d ∧ okS n d = true ∧ few n d = true ∧ ∀ u H', Same H H' → Tp H' u (rankD n d) → Q u H'
theorem sc_rank : FnScope ["key", "part"] ["key"] (defScope (top 18)) := ⟨rfl, rfl, rfl, by decide +kernel, rfl, by decide +kernel, by decide +kernel⟩
theorem ok_rank (T : TX K mg) (F : Fd K "rank" "rank" (top 18) (ga K "rank")) : ∀ n, OkF P w K mg base CX0 n (ga K "rank") ["key"] (spRank n)
  | 0 => okFalse F (fun _ _ _ _ _ _ us hl => match us, hl with | [_], _ => rfl)
  | n + 1 => by
    have G_rank := ok_rank T F n
    refine mkOk F sc_rank (fun vs H Q E h => ?_) (fun _ _ _ _ _ _ us hl => match us, hl with | [_], _ => rfl) (fun cdv A outer s H vs Q E hr h => ?_)
    · obtain ⟨v, d, rfl, _⟩ := h
      rfl
    · obtain ⟨v, d, rfl, hv, ho, hz, k⟩ := h
      have nd := sc_rank.nd
      refine ⟨_, (pss_cons (ps_if (pt_val (pe_callB (call_isi) rfl T.f_isinstance bt_isinstance (pa_cons (pv 0) (pa_cons (pe_bltn rfl T.f_int bt_int (v := .ty "int") rfl) pa_nil)))) (pss_one (ps_ret (pe_tup (pa_cons pe_int (pa_cons (pv 0) (pa_cons pe_str (pa_cons (pe_tup pa_nil) pa_nil))))))) pss_nil)
      (pss_cons (ps_if (pt_val (pe_callB (call_isi) rfl T.f_isinstance bt_isinstance (pa_cons (pv 0) (pa_cons (pe_bltn rfl T.f_str bt_str (v := .ty "str") rfl) pa_nil)))) (pss_one (ps_ret (pe_tup (pa_cons pe_int (pa_cons pe_int (pa_cons (pv 0) (pa_cons (pe_tup pa_nil) pa_nil))))))) pss_nil)
      (pss_one (ps_ret (pe_tup (pa_cons pe_int (pa_cons pe_int (pa_cons pe_str (pa_cons (pe_callTy (call_tuple_of) rfl T.f_tuple bt_tuple (pa_cons (pe_lc (own := [("part", 1)]) (by rfl) nd (pi_tup (pv 0)) (blkOk_by (N := ["key", "part"]) (sc := defScope (top 18)) (own := [("part", 1)]) (by decide +kernel)) (fun _ _ _ _ _ => (pg_name (i := 1) nd rfl (by first | exact Or.inl rfl | exact Or.inr rfl))) (fun _ _ _ _ _ => pts_nil) (fun _ _ _ _ _ => pe_c G_rank hr rfl T.g_rank (pa_cons (pv 1) pa_nil))) pa_nil)) pa_nil))))))))), ?_⟩
      cases d with
      | int i =>
        obtain rfl := hv.int_inv
        refine sq_T (att_B (at_isi (ata_cons (at_var rfl) (ata_cons at_c ata_nil)) hv.ty kb_int_int)) ?_
        exact ⟨_, rfl, z0, fun p hp => ⟨z4, fun q hq => k _ _ ((same_new hp).trans (same_new hq)) (rankD_int n i ▸ Tp.mk hq (.cons (.int 0) (.cons (.int i) (.cons (.str _) (.cons (Tp.mk hp .nil) .nil)))))⟩⟩
      | str x =>
        obtain rfl := hv.str_inv
        refine sq_Fn (att_B (at_isi (ata_cons (at_var rfl) (ata_cons at_c ata_nil)) hv.ty kb_str_int)) (sq_T (att_B (at_isi (ata_cons (at_var rfl) (ata_cons at_c ata_nil)) hv.ty kb_str_str)) ?_)
        exact ⟨_, rfl, z0, fun p hp => ⟨z4, fun q hq => k _ _ ((same_new hp).trans (same_new hq)) (rankD_str n x ▸ Tp.mk hq (.cons (.int 1) (.cons (.int 0) (.cons (.str _) (.cons (Tp.mk hp .nil) .nil)))))⟩⟩
      | tuple ds =>
        obtain ⟨a, xs, rfl, ha, hxs⟩ := hv.tup_inv
        have hl := hxs.length
        refine sq_Fn (att_B (at_isi (ata_cons (at_var rfl) (ata_cons at_c ata_nil)) hv.ty kb_tup_int)) (sq_Fn (att_B (at_isi (ata_cons (at_var rfl) (ata_cons at_c ata_nil)) hv.ty kb_tup_str)) (rt_ ?_))
        cases n with
        | zero => simp [okS] at ho
        | succ m =>
          have ho2 : ∀ d ∈ ds, okS m d = true := by simpa [okS] using ho
          have hf2 : ds.length ≤ 100 ∧ ∀ d ∈ ds, few m d = true := by simpa [few] using hz
          refine t4' (cb1 ?_)
          refine lcT (fun j y H' => ∃ d, ds[j]? = some d ∧ Tp H' y (rankD m d)) (fun j y H1 H2 tk ⟨d, e, h⟩ => ⟨d, e, h.mono tk _ _⟩) (at_var rfl) ha (by omega) (fun j x H' hj sm Q q => ?_) fun D H' us hD sm hu hl2 hr => ?_
          · obtain ⟨d, hd, hxd⟩ := (hxs.sm sm).get hj
            exact wp_call (ata_cons (at_var rfl) ata_nil) ⟨x, d, rfl, hxd, ho2 d (List.mem_of_getElem? hd), hf2.2 d (List.mem_of_getElem? hd), fun u H2 sm2 hu => q _ _ sm2 ⟨d, hd, hu⟩⟩
          · refine ⟨D, us, rfl, .inl ⟨SqL.of hu, fun l hl => ⟨z4, fun p hp => k _ _ ((sm.trans (same_new hl)).trans (same_new hp)) ?_⟩⟩⟩
            refine Tp.mk hp (.cons (.int 2) (.cons (.int 0) (.cons (.str _) (.cons (Tp.mk hl (TpA.of_get (by rw [List.length_map]; omega) fun i v d e1 e2 => ?_)) .nil))))
            obtain ⟨d', e3, e4⟩ := hr i v e1
            rw [List.getElem?_map, e3] at e2
            cases e2
            exact e4
      | _ => cases hv
theorem sc__law_rank : FnScope ["_law_key", "_law_part"] ["_law_key"] (defScope (top 32)) := ⟨rfl, rfl, rfl, by decide +kernel, rfl, by decide +kernel, by decide +kernel⟩
theorem ok__law_rank (T : TX K mg) (F : Fd K "_law_rank" "_law_rank" (top 32) (ga K "_law_rank")) : ∀ n, OkF P w K mg base CX0 n (ga K "_law_rank") ["_law_key"] (spRank n)
  | 0 => okFalse F (fun _ _ _ _ _ _ us hl => match us, hl with | [_], _ => rfl)
  | n + 1 => by
    have G__law_rank := ok__law_rank T F n
    refine mkOk F sc__law_rank (fun vs H Q E h => ?_) (fun _ _ _ _ _ _ us hl => match us, hl with | [_], _ => rfl) (fun cdv A outer s H vs Q E hr h => ?_)
    · obtain ⟨v, d, rfl, _⟩ := h
      rfl
    · obtain ⟨v, d, rfl, hv, ho, hz, k⟩ := h
      have nd := sc__law_rank.nd
      refine ⟨_, (pss_cons (ps_if (pt_val (pe_callB (call_isi) rfl T.f_isinstance bt_isinstance (pa_cons (pv 0) (pa_cons (pe_bltn rfl T.f_int bt_int (v := .ty "int") rfl) pa_nil)))) (pss_one (ps_ret (pe_tup (pa_cons pe_int (pa_cons (pv 0) (pa_cons pe_str (pa_cons (pe_tup pa_nil) pa_nil))))))) pss_nil)
      (pss_cons (ps_if (pt_val (pe_callB (call_isi) rfl T.f_isinstance bt_isinstance (pa_cons (pv 0) (pa_cons (pe_bltn rfl T.f_str bt_str (v := .ty "str") rfl) pa_nil)))) (pss_one (ps_ret (pe_tup (pa_cons pe_int (pa_cons pe_int (pa_cons (pv 0) (pa_cons (pe_tup pa_nil) pa_nil))))))) pss_nil)
      (pss_one (ps_ret (pe_tup (pa_cons pe_int (pa_cons pe_int (pa_cons pe_str (pa_cons (pe_callTy (call_tuple_of) rfl T.f_tuple bt_tuple (pa_cons (pe_lc (own := [("_law_part", 1)]) (by rfl) nd (pi_tup (pv 0)) (blkOk_by (N := ["_law_key", "_law_part"]) (sc := defScope (top 32)) (own := [("_law_part", 1)]) (by decide +kernel)) (fun _ _ _ _ _ => (pg_name (i := 1) nd rfl (by first | exact Or.inl rfl | exact Or.inr rfl))) (fun _ _ _ _ _ => pts_nil) (fun _ _ _ _ _ => pe_c G__law_rank hr rfl T.g__law_rank (pa_cons (pv 1) pa_nil))) pa_nil)) pa_nil))))))))), ?_⟩
      cases d with
      | int i =>
        obtain rfl := hv.int_inv
        refine sq_T (att_B (at_isi (ata_cons (at_var rfl) (ata_cons at_c ata_nil)) hv.ty kb_int_int)) ?_
        exact ⟨_, rfl, z0, fun p hp => ⟨z4, fun q hq => k _ _ ((same_new hp).trans (same_new hq)) (rankD_int n i ▸ Tp.mk hq (.cons (.int 0) (.cons (.int i) (.cons (.str _) (.cons (Tp.mk hp .nil) .nil)))))⟩⟩
      | str x =>
        obtain rfl := hv.str_inv
        refine sq_Fn (att_B (at_isi (ata_cons (at_var rfl) (ata_cons at_c ata_nil)) hv.ty kb_str_int)) (sq_T (att_B (at_isi (ata_cons (at_var rfl) (ata_cons at_c ata_nil)) hv.ty kb_str_str)) ?_)
        exact ⟨_, rfl, z0, fun p hp => ⟨z4, fun q hq => k _ _ ((same_new hp).trans (same_new hq)) (rankD_str n x ▸ Tp.mk hq (.cons (.int 1) (.cons (.int 0) (.cons (.str _) (.cons (Tp.mk hp .nil) .nil)))))⟩⟩
      | tuple ds =>
        obtain ⟨a, xs, rfl, ha, hxs⟩ := hv.tup_inv
        have hl := hxs.length
        refine sq_Fn (att_B (at_isi (ata_cons (at_var rfl) (ata_cons at_c ata_nil)) hv.ty kb_tup_int)) (sq_Fn (att_B (at_isi (ata_cons (at_var rfl) (ata_cons at_c ata_nil)) hv.ty kb_tup_str)) (rt_ ?_))
        cases n with
        | zero => simp [okS] at ho
        | succ m =>
          have ho2 : ∀ d ∈ ds, okS m d = true := by simpa [okS] using ho
          have hf2 : ds.length ≤ 100 ∧ ∀ d ∈ ds, few m d = true := by simpa [few] using hz
          refine t4' (cb1 ?_)
          refine lcT (fun j y H' => ∃ d, ds[j]? = some d ∧ Tp H' y (rankD m d)) (fun j y H1 H2 tk ⟨d, e, h⟩ => ⟨d, e, h.mono tk _ _⟩) (at_var rfl) ha (by omega) (fun j x H' hj sm Q q => ?_) fun D H' us hD sm hu hl2 hr => ?_
          · obtain ⟨d, hd, hxd⟩ := (hxs.sm sm).get hj
            exact wp_call (ata_cons (at_var rfl) ata_nil) ⟨x, d, rfl, hxd, ho2 d (List.mem_of_getElem? hd), hf2.2 d (List.mem_of_getElem? hd), fun u H2 sm2 hu => q _ _ sm2 ⟨d, hd, hu⟩⟩
          · refine ⟨D, us, rfl, .inl ⟨SqL.of hu, fun l hl => ⟨z4, fun p hp => k _ _ ((sm.trans (same_new hl)).trans (same_new hp)) ?_⟩⟩⟩
            refine Tp.mk hp (.cons (.int 2) (.cons (.int 0) (.cons (.str _) (.cons (Tp.mk hl (TpA.of_get (by rw [List.length_map]; omega) fun i v d e1 e2 => ?_)) .nil))))
            obtain ⟨d', e3, e4⟩ := hr i v e1
            rw [List.getElem?_map, e3] at e2
            cases e2
            exact e4
      | _ => cases hv
end
theorem aA_nil (xs : List PyData) : PySem.W.alikeAll xs [] = true := by cases xs <;> simp [PySem.W.alikeAll]
theorem rankD_alike : ∀ (n : Nat) (d e : PyData), okS n d = true → okS n e = true → PySem.W.alike (rankD n d) (rankD n e) = true := by
  intro n
  induction n with
  | zero =>
    intro d e h1 h2
    cases d <;> simp [okS] at h1 <;> cases e <;> simp [okS] at h2 <;> simp [rankD, PySem.W.alike, PySem.W.alikeAll]
  | succ n ih =>
    have all : ∀ xs ys : List PyData, (∀ d ∈ xs, okS n d = true) → (∀ d ∈ ys, okS n d = true) → PySem.W.alikeAll (xs.map (rankD n)) (ys.map (rankD n)) = true := by
      intro xs
      induction xs with
      | nil => intro ys _ _; simp [PySem.W.alikeAll]
      | cons x xs ihx =>
        intro ys h1 h2
        cases ys with
        | nil => simp [PySem.W.alikeAll]
        | cons y ys =>
          rw [List.map_cons, List.map_cons, PySem.W.alikeAll, ih x y (h1 x List.mem_cons_self) (h2 y List.mem_cons_self), ihx ys (fun d hd => h1 d (List.mem_cons_of_mem _ hd)) fun d hd => h2 d (List.mem_cons_of_mem _ hd)]
          rfl
    intro d e h1 h2
    cases d <;> simp [okS] at h1 <;> cases e <;> simp [okS] at h2 <;> simp [rankD, PySem.W.alike, PySem.W.alikeAll, aA_nil]
    exact all _ _ h1 h2
theorem rankD_depth : ∀ (n : Nat) (d : PyData), (rankD n d).depth ≤ 2 * n + 2 := by
  intro n
  induction n with
  | zero => intro d; cases d <;> simp [rankD, PyData.depth, PyData.depthAll]
  | succ n ih =>
    have all : ∀ xs : List PyData, PyData.depthAll (xs.map (rankD n)) ≤ 2 * n + 2 := by
      intro xs
      induction xs with
      | nil => simp [PyData.depthAll]
      | cons x xs ihx =>
        rw [List.map_cons, PyData.depthAll]
        have := ih x
        omega
    intro d
    cases d <;> simp [rankD, PyData.depth, PyData.depthAll]
    rename_i xs
    have := all xs
    omega
theorem rankD_ne : ∀ (n : Nat) (d : PyData), okS n d = true → rankD n d ≠ .none := by
  intro n d h
  cases n <;> cases d <;> simp [okS] at h <;> simp [rankD]
/-- the order of keys -/
def ltK (d e : PyData) : Bool := PySem.W.dataLt (rankD 3 d) (rankD 3 e)
def spAhead : Sp := fun vs H Q _ => ∃ v u d e, vs = [v, u] ∧ Tp H v d ∧ Tp H u e ∧ okS 3 d = true ∧ okS 3 e = true ∧ few 3 d = true ∧ few 3 e = true ∧ ∀ H', Same H H' → Q (.bl (ltK d e)) H'
section
variable {P : Program} {w : World} {K : PySem.W.Frag} {mg : Str → Option Value} {base : Heap}
theorem sc_ahead : FnScope ["one", "other"] ["one", "other"] (defScope (top 19)) := ⟨rfl, rfl, rfl, by decide +kernel, rfl, by decide +kernel, by decide +kernel⟩
theorem ok_ahead (T : TX K mg) (F : Fd K "ahead" "ahead" (top 19) (ga K "ahead")) (G_rank : OkF P w K mg base CX0 4 (ga K "rank") ["key"] (spRank 4)) : OkF P w K mg base CX0 5 (ga K "ahead") ["one", "other"] spAhead := by
  refine mkOk F sc_ahead (fun vs H Q E h => ?_) (fun _ _ _ _ _ _ us hl => match us, hl with | [_, _], _ => rfl) (fun cdv A outer s H vs Q E hr h => ?_)
  · obtain ⟨v, u, d, e, rfl, _⟩ := h
    rfl
  · obtain ⟨v, u, d, e, rfl, hv, hu, od, oe, fd, fe, k⟩ := h
    have nd := sc_ahead.nd
    refine ⟨_, (pss_one (ps_ret (pe_cmpR (op_ltD hr.units) (pe_c G_rank (hr.mono (by decide)) rfl T.g_rank (pa_cons (pv 0) pa_nil)) (pe_c G_rank (hr.mono (by decide)) rfl T.g_rank (pa_cons (pv 1) pa_nil)) (nomark _)))), ?_⟩
    refine rt_ (wp_call (ata_cons (at_var rfl) ata_nil) ⟨v, d, rfl, hv, od, fd, fun x H1 sm hx => ?_⟩)
    refine wp_call (ata_cons (at_var rfl) ata_nil) ⟨u, e, rfl, hu.sm sm, oe, fe, fun y H2 sm2 hy => ?_⟩
    exact ⟨_, _, (hx.sm sm2).dp _ _, hy.dp _ _, rankD_alike 3 d e od oe, rankD_ne 3 d od, Nat.le_trans (rankD_depth 3 d) (by decide), k H2 (sm.trans sm2)⟩
theorem sc__law_less : FnScope ["_law_one", "_law_other"] ["_law_one", "_law_other"] (defScope (top 33)) := ⟨rfl, rfl, rfl, by decide +kernel, rfl, by decide +kernel, by decide +kernel⟩
theorem ok__law_less (T : TX K mg) (F : Fd K "_law_less" "_law_less" (top 33) (ga K "_law_less")) (G__law_rank : OkF P w K mg base CX0 4 (ga K "_law_rank") ["_law_key"] (spRank 4)) : OkF P w K mg base CX0 5 (ga K "_law_less") ["_law_one", "_law_other"] spAhead := by
  refine mkOk F sc__law_less (fun vs H Q E h => ?_) (fun _ _ _ _ _ _ us hl => match us, hl with | [_, _], _ => rfl) (fun cdv A outer s H vs Q E hr h => ?_)
  · obtain ⟨v, u, d, e, rfl, _⟩ := h
    rfl
  · obtain ⟨v, u, d, e, rfl, hv, hu, od, oe, fd, fe, k⟩ := h
    have nd := sc__law_less.nd
    refine ⟨_, (pss_one (ps_ret (pe_cmpR (op_ltD hr.units) (pe_c G__law_rank (hr.mono (by decide)) rfl T.g__law_rank (pa_cons (pv 0) pa_nil)) (pe_c G__law_rank (hr.mono (by decide)) rfl T.g__law_rank (pa_cons (pv 1) pa_nil)) (nomark _)))), ?_⟩
    refine rt_ (wp_call (ata_cons (at_var rfl) ata_nil) ⟨v, d, rfl, hv, od, fd, fun x H1 sm hx => ?_⟩)
    refine wp_call (ata_cons (at_var rfl) ata_nil) ⟨u, e, rfl, hu.sm sm, oe, fe, fun y H2 sm2 hy => ?_⟩
    exact ⟨_, _, (hx.sm sm2).dp _ _, hy.dp _ _, rankD_alike 3 d e od oe, rankD_ne 3 d od, Nat.le_trans (rankD_depth 3 d) (by decide), k H2 (sm.trans sm2)⟩
/-- two alike ones -/
def spAlike : Nat → Sp
  | 0 => fun _ _ _ _ => False
  | n + 1 => fun vs H Q _ => ∃ v u d, vs = [v, u] ∧ Tp H v d ∧ Tp H u d ∧ okS n d = true ∧ few n d = true ∧ ∀ H', Same H H' → Q (.bl true) H'
theorem sc__law_alike : FnScope ["_law_found", "_law_due", "_law_j"] ["_law_found", "_law_due"] (defScope (top 34)) := ⟨rfl, rfl, rfl, by decide +kernel, rfl, by decide +kernel, by decide +kernel⟩
theorem ok__law_alike (T : TX K mg) (F : Fd K "_law_alike" "_law_alike" (top 34) (ga K "_law_alike")) : ∀ n, OkF P w K mg base CX0 n (ga K "_law_alike") ["_law_found", "_law_due"] (spAlike n)
  | 0 => okFalse F (fun _ _ _ _ _ _ us hl => match us, hl with | [_, _], _ => rfl)
  | n + 1 => by
    have G__law_alike := ok__law_alike T F n
    refine mkOk F sc__law_alike (fun vs H Q E h => ?_) (fun _ _ _ _ _ _ us hl => match us, hl with | [_, _], _ => rfl) (fun cdv A outer s H vs Q E hr h => ?_)
    · obtain ⟨v, u, d, rfl, _⟩ := h
      rfl
    · obtain ⟨v, u, d, rfl, hv, hu, ho, hf, k⟩ := h
      have nd := sc__law_alike.nd
      refine ⟨_, (pss_cons (ps_if (pt_val (pe_callB (call_isi) rfl T.f_isinstance bt_isinstance (pa_cons (pv 1) (pa_cons (pe_bltn rfl T.f_tuple bt_tuple (v := .ty "tuple") rfl) pa_nil)))) (pss_cons (ps_if (PW.pt (pw_or (pt_not (pt_val (pe_callB (call_isi) rfl T.f_isinstance bt_isinstance (pa_cons (pv 0) (pa_cons (pe_bltn rfl T.f_tuple bt_tuple (v := .ty "tuple") rfl) pa_nil))))) (pw_or1 (pt_cmpR op_ne (pe_callB (call_len_seq) rfl T.f_len bt_len (pa_cons (pv 0) pa_nil)) (pe_callB (call_len_seq) rfl T.f_len bt_len (pa_cons (pv 1) pa_nil)) (nomark _))))) (pss_one (ps_ret pe_bl)) pss_nil)
      (pss_one (ps_ret (pe_callB (cr_all rfl) rfl T.f_all bt_all (pa_cons (pe_lc (own := [("_law_j", 2)]) (by rfl) nd (pi_range1 rfl T.f_range (pa_cons (pe_callB (call_len_seq) rfl T.f_len bt_len (pa_cons (pv 1) pa_nil)) pa_nil)) (blkOk_by (N := ["_law_found", "_law_due", "_law_j"]) (sc := defScope (top 34)) (own := [("_law_j", 2)]) (by decide +kernel)) (fun _ _ _ _ _ => (pg_name (i := 2) nd rfl (by first | exact Or.inl rfl | exact Or.inr rfl))) (fun _ _ _ _ _ => pts_nil) (fun _ _ _ _ _ => pe_c G__law_alike hr rfl T.g__law_alike (pa_cons (pe_ix (ixT (K := K) rfl) (pv 0) (pv 2) (fun _ _ => rfl)) (pa_cons (pe_ix (ixT (K := K) rfl) (pv 1) (pv 2) (fun _ _ => rfl)) pa_nil)))) pa_nil))))) pss_nil)
      (pss_cons (ps_if (pt_val (pe_callB (call_isi) rfl T.f_isinstance bt_isinstance (pa_cons (pv 1) (pa_cons (pe_bltn rfl T.f_str bt_str (v := .ty "str") rfl) pa_nil)))) (pss_one (ps_ret (pe_and (pe_callB (call_isi) rfl T.f_isinstance bt_isinstance (pa_cons (pv 0) (pa_cons (pe_bltn rfl T.f_str bt_str (v := .ty "str") rfl) pa_nil))) (pe_one (pe_cmpR op_eq (pv 0) (pv 1) (nomark _)))))) pss_nil)
      (pss_one (ps_ret (pe_and (pe_callB (call_isi) rfl T.f_isinstance bt_isinstance (pa_cons (pv 0) (pa_cons (pe_bltn rfl T.f_int bt_int (v := .ty "int") rfl) pa_nil))) (pe_and (pe_not (pe_callB (call_isi) rfl T.f_isinstance bt_isinstance (pa_cons (pv 0) (pa_cons (pe_bltn rfl T.f_bool bt_bool (v := .ty "bool") rfl) pa_nil)))) (pe_one (pe_cmpR op_eq (pv 0) (pv 1) (nomark _))))))))), ?_⟩
      cases d with
      | int i =>
        obtain rfl := hv.int_inv
        obtain rfl := hu.int_inv
        refine sq_Fn (att_B (at_isi (ata_cons (at_var rfl) (ata_cons at_c ata_nil)) hv.ty kb_int_tup)) (sq_Fn (att_B (at_isi (ata_cons (at_var rfl) (ata_cons at_c ata_nil)) hv.ty kb_int_str)) ?_)
        exact st_ret (at_andT (at_isi (ata_cons (at_var rfl) (ata_cons at_c ata_nil)) hv.ty kb_int_int) (at_andT (at_nF (at_isi (ata_cons (at_var rfl) (ata_cons at_c ata_nil)) hv.ty kb_int_bool)) (at_eq (at_var rfl) (at_var rfl) rfl (decT rfl)))) (k H (Same.refl H))
      | str x =>
        obtain rfl := hv.str_inv
        obtain rfl := hu.str_inv
        refine sq_Fn (att_B (at_isi (ata_cons (at_var rfl) (ata_cons at_c ata_nil)) hv.ty kb_str_tup)) (sq_T (att_B (at_isi (ata_cons (at_var rfl) (ata_cons at_c ata_nil)) hv.ty kb_str_str)) ?_)
        exact st_ret (at_andT (at_isi (ata_cons (at_var rfl) (ata_cons at_c ata_nil)) hv.ty kb_str_str) (at_eq (at_var rfl) (at_var rfl) rfl (decT rfl))) (k H (Same.refl H))
      | tuple ds =>
        obtain ⟨a, xs, rfl, ha, hxs⟩ := hv.tup_inv
        obtain ⟨b, ys, rfl, hb, hys⟩ := hu.tup_inv
        have hl := hxs.length
        have hl2 := hys.length
        cases n with
        | zero => simp [okS] at ho
        | succ m =>
          have ho2 : ∀ d ∈ ds, okS m d = true := by simpa [okS] using ho
          have hf2 : ds.length ≤ 100 ∧ ∀ d ∈ ds, few m d = true := by simpa [few] using hf
          refine sq_T (att_B (at_isi (ata_cons (at_var rfl) (ata_cons at_c ata_nil)) hu.ty kb_tup_tup)) ?_
          refine sq_Fn (att_orF (att_nT (att_B (at_isi (ata_cons (at_var rfl) (ata_cons at_c ata_nil)) hv.ty kb_tup_tup))) (att_test (at_is (at_ne (b := true) (at_lenT (ata_cons (at_var rfl) ata_nil) ha) (at_lenT (ata_cons (at_var rfl) ata_nil) hb) rfl (decT (by rw [hl, hl2]))) rfl))) ?_
          refine rt_ (cb1 ?_)
          refine lcR (n := ys.length) (fun _ y _ => y = V.bl true) (fun _ _ _ _ _ h => h) (ata_cons (at_lenT (ata_cons (at_var rfl) ata_nil) hb) ata_nil) (by omega) (fun j H' hj sm Q q => ?_) fun D H' us hD sm hu hl2 hr => rAll_T hu hr (k H' sm)
          have e1 : xs[j]? = some xs[j] := List.getElem?_eq_getElem (by omega)
          have e2 : ys[j]? = some ys[j] := List.getElem?_eq_getElem (by omega)
          obtain ⟨d, hd, hxd⟩ := (hxs.sm sm).get e1
          obtain ⟨d', hd', hyd⟩ := (hys.sm sm).get e2
          rw [hd] at hd'
          cases hd'
          have hm := List.mem_of_getElem? hd
          exact wp_call (ata_cons (at_ixT (at_var rfl) (at_var rfl) (sm _ _ ha) (atI_nat e1)) (ata_cons (at_ixT (at_var rfl) (at_var rfl) (sm _ _ hb) (atI_nat e2)) ata_nil)) ⟨_, _, d, rfl, hxd, hyd, ho2 d hm, hf2.2 d hm, fun H2 sm2 => q _ _ sm2 rfl⟩
      | _ => cases hv
end
end Tw

set_option Elab.async false
set_option linter.all false
set_option maxRecDepth 100000
set_option maxHeartbeats 4000000
/-! The state: ghost twigs, the shelf in the heap. -/
namespace Tw
open PySem PySem.Spec PyProof.Rows L2
open He (ga ma)

/-! ### ghosts -/
inductive Twg where
  | leaf (rows : List (Nat × PyData))
  | stem (bs : List Nat)
structure Lb where
  ht : Nat
  lo : Nat
  hi : Nat
  cnt : Nat
/-- twigs by numbers: what each has, its holds from without, its label, who has it; the next number -/
structure Gs where
  ns : List Nat
  t : Nat → Twg
  h : Nat → Int
  l : Nat → Lb
  ab : Nat → List Nat
  nx : Nat
def setF {α : Type} (F : Nat → α) (n : Nat) (x : α) : Nat → α := fun m => if m = n then x else F m
theorem setF_same {α : Type} {F : Nat → α} {n : Nat} {x : α} : setF F n x n = x := if_pos rfl
theorem setF_ne {α : Type} {F : Nat → α} {n m : Nat} {x : α} (h : m ≠ n) : setF F n x m = F m := if_neg h
def kindS : Twg → Str
  | .leaf _ => "leaf"
  | .stem _ => "stem"
def rowD (g : Nat → PyData) (r : Nat × PyData) : PyData := .tuple [g r.1, r.2]
def whatD (g : Nat → PyData) : Twg → List PyData
  | .leaf rows => rows.map (rowD g)
  | .stem bs => bs.map fun (b : Nat) => .int (b : Int)
def keptD (g : Nat → PyData) (t : Twg) : PyData := .tuple [.str (kindS t), .tuple (whatD g t)]
def labD (g : Nat → PyData) (l : Lb) : PyData := .tuple [.int (l.ht : Int), g l.lo, g l.hi, .int (l.cnt : Int)]
def iV (n : Nat) : V := .int (n : Int)

/-! ### dicts by numbers -/
def nK (n : Nat) : Key := Sum.inl (n : Int)
def dM (ns : List Nat) (F : Nat → V) : List (Key × V) := ns.map fun n => (nK n, F n)
theorem nK_inj {n m : Nat} (h : nK n = nK m) : n = m := by
  have := Sum.inl.inj h
  omega
theorem dM_length (ns : List Nat) (F : Nat → V) : (dM ns F).length = ns.length := List.length_map _
theorem dM_keys (ns : List Nat) (F : Nat → V) : (dM ns F).map (·.1) = ns.map nK := by
  unfold dM
  rw [List.map_map]
  rfl
theorem valV_dM {n : Nat} {F : Nat → V} : ∀ {ns : List Nat}, n ∈ ns → valV (dM ns F) (nK n) = some (F n)
  | m :: r, h => by
    by_cases e : m = n
    · subst e
      exact valV_pos rfl
    · rcases List.mem_cons.mp h with q | q
      · exact absurd q.symm e
      · exact (valV_neg (fun z => e (nK_inj z))).trans (valV_dM q)
theorem valV_dM_none {n : Nat} {F : Nat → V} : ∀ {ns : List Nat}, n ∉ ns → valV (dM ns F) (nK n) = none
  | [], _ => rfl
  | m :: r, h => by
    have e : ¬ m = n := fun z => h (z ▸ List.mem_cons_self)
    exact (valV_neg (fun z => e (nK_inj z))).trans (valV_dM_none fun q => h (List.mem_cons_of_mem _ q))
theorem dM_congr {F F' : Nat → V} {ns : List Nat} (h : ∀ n ∈ ns, F n = F' n) : dM ns F = dM ns F' := List.map_congr_left fun n hn => by rw [h n hn]
theorem putK_dM_new {n : Nat} {F : Nat → V} {ns : List Nat} {v : V} (h : n ∉ ns) : putK (dM ns F) (nK n) v = dM (ns ++ [n]) (setF F n v) := by
  rw [putK_new _ (valV_dM_none h)]
  unfold dM
  rw [List.map_append]
  have e1 : ns.map (fun m => (nK m, F m)) = ns.map fun m => (nK m, setF F n v m) := List.map_congr_left fun m hm => by rw [setF_ne fun z => h (by rw [← z]; exact hm)]
  rw [e1]
  show _ = _ ++ [(nK n, setF F n v n)]
  rw [setF_same]
theorem putK_dM_old {n : Nat} {F : Nat → V} {ns : List Nat} {v : V} (h : n ∈ ns) : putK (dM ns F) (nK n) v = dM ns (setF F n v) := by
  have e : ((dM ns F).any fun kv => decide (kv.1 = nK n)) = true := by
    rw [valV_any, valV_dM h]
    rfl
  unfold putK
  rw [if_pos e]
  unfold dM
  rw [List.map_map]
  refine List.map_congr_left fun m hm => ?_
  by_cases q : m = n
  · subst q
    show (if nK m = nK m then (nK m, v) else (nK m, F m)) = _
    rw [if_pos rfl, setF_same]
  · show (if nK m = nK n then (nK m, v) else (nK m, F m)) = _
    rw [if_neg fun z => q (nK_inj z), setF_ne q]
theorem dropK_dM {n : Nat} {F : Nat → V} : ∀ {ns : List Nat}, dropK (dM ns F) (nK n) = dM (ns.filter (· ≠ n)) F
  | [] => rfl
  | m :: r => by
    by_cases e : m = n
    · subst e
      rw [List.filter_cons_of_neg (by simp)]
      exact (dropK_pos rfl).trans dropK_dM
    · rw [List.filter_cons_of_pos (by simpa using e)]
      exact (dropK_neg fun z => e (nK_inj z)).trans (congrArg _ dropK_dM)
theorem dget_dM {H : Hp} {a : Addr} {ns : List Nat} {F : Nat → V} {n : Nat} (h : H a = some (.dK (dM ns F))) (hn : n ∈ ns) : DGet H a (.int (n : Int)) (some (F n)) := by
  have q := DGet.k (k := nK n) h
  rw [valV_dM hn] at q
  exact q
theorem dnone_dM {H : Hp} {a : Addr} {ns : List Nat} {F : Nat → V} {n : Nat} (h : H a = some (.dK (dM ns F))) (hn : n ∉ ns) : DGet H a (.int (n : Int)) none := by
  have q := DGet.k (k := nK n) h
  rw [valV_dM_none hn] at q
  exact q
theorem dput_new {H : Hp} {a : Addr} {ns : List Nat} {F : Nat → V} {n : Nat} {v : V} (h : H a = some (.dK (dM ns F))) (hn : n ∉ ns) (hz : ns.length ≤ 1000) : DPut H a (.int (n : Int)) v (upd H a (.dK (dM (ns ++ [n]) (setF F n v)))) := by
  have q := DPut.k (k := nK n) (v := v) h (by rw [dM_length]; exact zlt (by omega))
  rw [putK_dM_new hn] at q
  exact q
theorem dput_old {H : Hp} {a : Addr} {ns : List Nat} {F : Nat → V} {n : Nat} {v : V} (h : H a = some (.dK (dM ns F))) (hn : n ∈ ns) (hz : ns.length ≤ 1000) : DPut H a (.int (n : Int)) v (upd H a (.dK (dM ns (setF F n v)))) := by
  have q := DPut.k (k := nK n) (v := v) h (by rw [dM_length]; exact zlt (by omega))
  rw [putK_dM_old hn] at q
  exact q

/-! ### frames -/
/-- all outside of F stays -/
def Fr (F : Addr → Prop) (H H' : Hp) : Prop := ∀ a o, H a = some o → ¬ F a → H' a = some o
theorem Fr.refl (F : Addr → Prop) (H : Hp) : Fr F H H := fun _ _ h _ => h
theorem Fr.trans {F : Addr → Prop} {H H1 H2 : Hp} (a : Fr F H H1) (b : Fr F H1 H2) : Fr F H H2 := fun c o h n => b c o (a c o h n) n
theorem Fr.same {F : Addr → Prop} {H H' : Hp} (s : Same H H') : Fr F H H' := fun a o h _ => s a o h
theorem Fr.upd {F : Addr → Prop} {H : Hp} {p : Addr} {o : HO} (h : F p) : Fr F H (upd H p o) := fun a u e n => by
  rw [upd_ne (fun z => n (by rw [z]; exact h))]
  exact e
theorem Fr.mono {F F' : Addr → Prop} {H H' : Hp} (a : Fr F H H') (h : ∀ x, F x → F' x) : Fr F' H H' := fun c o e n => a c o e fun q => n (h c q)
/-- lists stay -/
def LK (H H' : Hp) : Prop := ∀ a xs, H a = some (.lst xs) → H' a = some (.lst xs)
theorem LK.refl (H : Hp) : LK H H := fun _ _ h => h
theorem LK.trans {H H1 H2 : Hp} (a : LK H H1) (b : LK H1 H2) : LK H H2 := fun c o h => b c o (a c o h)
theorem LK.same {H H' : Hp} (s : Same H H') : LK H H' := fun a xs h => s a _ h
theorem LK.upd {H : Hp} {p : Addr} {o u : HO} (h : H p = some u) (n : ∀ xs, u ≠ .lst xs) : LK H (upd H p o) := fun a xs e => by
  rw [upd_ne (ne_of e h fun z => n xs z.symm)]
  exact e

/-! ### the shelf in the heap -/
structure ShA where
  p : Addr
  k : Addr
  tg : Addr
  a : Addr
  f : Addr
  s : Addr
  al : Nat → Addr
  kv : Nat → V
  tv : Nat → V
def flds (S : ShA) (nx : Nat) : List (Str × V) := [("kept", .ref S.k), ("tags", .ref S.tg), ("above", .ref S.a), ("freely", .ref S.f), ("seen", .ref S.s), ("given", .int (nx : Int))]
theorem l_kept (S : ShA) (n : Nat) : (flds S n).lookup ("kept" : Str) = some (.ref S.k) := rfl
theorem l_tags (S : ShA) (n : Nat) : (flds S n).lookup ("tags" : Str) = some (.ref S.tg) := rfl
theorem l_above (S : ShA) (n : Nat) : (flds S n).lookup ("above" : Str) = some (.ref S.a) := rfl
theorem l_freely (S : ShA) (n : Nat) : (flds S n).lookup ("freely" : Str) = some (.ref S.f) := rfl
theorem l_seen (S : ShA) (n : Nat) : (flds S n).lookup ("seen" : Str) = some (.ref S.s) := rfl
theorem l_given (S : ShA) (n : Nat) : (flds S n).lookup ("given" : Str) = some (.int (n : Int)) := rfl
theorem put_given (S : ShA) (n m : Nat) : putF ("given" : Str) (.int (m : Int)) (flds S n) = flds S m := rfl
theorem put_seen (S : ShA) (n : Nat) (q : Addr) : putF ("seen" : Str) (.ref q) (flds S n) = flds { S with s := q } n := rfl
/-- the object and its four dicts -/
structure Core (K : PySem.W.Frag) (H : Hp) (S : ShA) (dk dt da df : List (Key × V)) (nx : Nat) : Prop where
  ob : ∃ dx, H S.p = some (.ins (ga K "Shelf") dx (flds S nx))
  k : H S.k = some (.dK dk)
  tg : H S.tg = some (.dK dt)
  a : H S.a = some (.dK da)
  f : H S.f = some (.dK df)
  kt : S.k ≠ S.tg
  ka : S.k ≠ S.a
  kf : S.k ≠ S.f
  ta : S.tg ≠ S.a
  tf : S.tg ≠ S.f
  af : S.a ≠ S.f
section
variable {K : PySem.W.Frag} {H H' : Hp} {S : ShA} {dk dt da df d : List (Key × V)} {nx : Nat}
theorem Core.pne (c : Core K H S dk dt da df nx) : S.k ≠ S.p ∧ S.tg ≠ S.p ∧ S.a ≠ S.p ∧ S.f ≠ S.p := by
  obtain ⟨dx, o⟩ := c.ob
  exact ⟨ne_of c.k o (by intro z; cases z), ne_of c.tg o (by intro z; cases z), ne_of c.a o (by intro z; cases z), ne_of c.f o (by intro z; cases z)⟩
theorem Core.uk (c : Core K H S dk dt da df nx) : Core K (upd H S.k (.dK d)) S d dt da df nx := by
  obtain ⟨dx, o⟩ := c.ob
  obtain ⟨h1, h2, h3, h4⟩ := c.pne
  exact ⟨⟨dx, by rw [upd_ne h1.symm]; exact o⟩, upd_same, by rw [upd_ne c.kt.symm]; exact c.tg, by rw [upd_ne c.ka.symm]; exact c.a, by rw [upd_ne c.kf.symm]; exact c.f, c.kt, c.ka, c.kf, c.ta, c.tf, c.af⟩
theorem Core.ut (c : Core K H S dk dt da df nx) : Core K (upd H S.tg (.dK d)) S dk d da df nx := by
  obtain ⟨dx, o⟩ := c.ob
  obtain ⟨h1, h2, h3, h4⟩ := c.pne
  exact ⟨⟨dx, by rw [upd_ne h2.symm]; exact o⟩, by rw [upd_ne c.kt]; exact c.k, upd_same, by rw [upd_ne c.ta.symm]; exact c.a, by rw [upd_ne c.tf.symm]; exact c.f, c.kt, c.ka, c.kf, c.ta, c.tf, c.af⟩
theorem Core.ua (c : Core K H S dk dt da df nx) : Core K (upd H S.a (.dK d)) S dk dt d df nx := by
  obtain ⟨dx, o⟩ := c.ob
  obtain ⟨h1, h2, h3, h4⟩ := c.pne
  exact ⟨⟨dx, by rw [upd_ne h3.symm]; exact o⟩, by rw [upd_ne c.ka]; exact c.k, by rw [upd_ne c.ta]; exact c.tg, upd_same, by rw [upd_ne c.af.symm]; exact c.f, c.kt, c.ka, c.kf, c.ta, c.tf, c.af⟩
theorem Core.uf (c : Core K H S dk dt da df nx) : Core K (upd H S.f (.dK d)) S dk dt da d nx := by
  obtain ⟨dx, o⟩ := c.ob
  obtain ⟨h1, h2, h3, h4⟩ := c.pne
  exact ⟨⟨dx, by rw [upd_ne h4.symm]; exact o⟩, by rw [upd_ne c.kf]; exact c.k, by rw [upd_ne c.tf]; exact c.tg, by rw [upd_ne c.af]; exact c.a, upd_same, c.kt, c.ka, c.kf, c.ta, c.tf, c.af⟩
theorem Core.up {dx : Addr} {m : Nat} (c : Core K H S dk dt da df nx) : Core K (upd H S.p (.ins (ga K "Shelf") dx (flds S m))) S dk dt da df m := by
  obtain ⟨h1, h2, h3, h4⟩ := c.pne
  exact ⟨⟨dx, upd_same⟩, by rw [upd_ne h1]; exact c.k, by rw [upd_ne h2]; exact c.tg, by rw [upd_ne h3]; exact c.a, by rw [upd_ne h4]; exact c.f, c.kt, c.ka, c.kf, c.ta, c.tf, c.af⟩
theorem Core.same (c : Core K H S dk dt da df nx) (s : Same H H') : Core K H' S dk dt da df nx := by
  obtain ⟨dx, o⟩ := c.ob
  exact ⟨⟨dx, s _ _ o⟩, s _ _ c.k, s _ _ c.tg, s _ _ c.a, s _ _ c.f, c.kt, c.ka, c.kf, c.ta, c.tf, c.af⟩
/-- a list's change leaves the core -/
theorem Core.ul {x : Addr} {xs ys : List V} (c : Core K H S dk dt da df nx) (hx : H x = some (.lst xs)) : Core K (upd H x (.lst ys)) S dk dt da df nx := by
  obtain ⟨dx, o⟩ := c.ob
  exact ⟨⟨dx, by rw [upd_ne (ne_of o hx (by intro z; cases z))]; exact o⟩, by rw [upd_ne (ne_of c.k hx (by intro z; cases z))]; exact c.k, by rw [upd_ne (ne_of c.tg hx (by intro z; cases z))]; exact c.tg, by rw [upd_ne (ne_of c.a hx (by intro z; cases z))]; exact c.a,
    by rw [upd_ne (ne_of c.f hx (by intro z; cases z))]; exact c.f, c.kt, c.ka, c.kf, c.ta, c.tf, c.af⟩
/-- the core's writes leave lists and tuples -/
theorem Core.tk (c : Core K H S dk dt da df nx) {x : Addr} {o : HO} (h : x = S.p ∨ x = S.k ∨ x = S.tg ∨ x = S.a ∨ x = S.f) : TK H (upd H x o) := by
  obtain ⟨dx, ob⟩ := c.ob
  rcases h with h | h | h | h | h <;> subst h
  · exact TK.upd ob fun _ z => by cases z
  · exact TK.upd c.k fun _ z => by cases z
  · exact TK.upd c.tg fun _ z => by cases z
  · exact TK.upd c.a fun _ z => by cases z
  · exact TK.upd c.f fun _ z => by cases z
theorem Core.lk (c : Core K H S dk dt da df nx) {x : Addr} {o : HO} (h : x = S.p ∨ x = S.k ∨ x = S.tg ∨ x = S.a ∨ x = S.f) : LK H (upd H x o) := by
  obtain ⟨dx, ob⟩ := c.ob
  rcases h with h | h | h | h | h <;> subst h
  · exact LK.upd ob fun _ z => by cases z
  · exact LK.upd c.k fun _ z => by cases z
  · exact LK.upd c.tg fun _ z => by cases z
  · exact LK.upd c.a fun _ z => by cases z
  · exact LK.upd c.f fun _ z => by cases z
end
/-- what a shelf writes -/
def shF (S : ShA) (ns : List Nat) (x : Addr) : Prop := x = S.p ∨ x = S.k ∨ x = S.tg ∨ x = S.a ∨ x = S.f ∨ x = S.s ∨ ∃ n ∈ ns, x = S.al n
structure ShAt (K : PySem.W.Frag) (g : Nat → PyData) (H : Hp) (S : ShA) (G : Gs) (sn : List Nat) : Prop where
  c : Core K H S (dM G.ns S.kv) (dM G.ns S.tv) (dM G.ns fun n => .ref (S.al n)) (dM G.ns fun n => .int (G.h n)) G.nx
  s : H S.s = some (.lst (sn.map iV))
  al : ∀ n ∈ G.ns, H (S.al n) = some (.lst ((G.ab n).map iV))
  kd : ∀ n ∈ G.ns, Tp H (S.kv n) (keptD g (G.t n))
  td : ∀ n ∈ G.ns, Tp H (S.tv n) (labD g (G.l n))
  sal : ∀ n ∈ G.ns, S.s ≠ S.al n
  ali : ∀ n ∈ G.ns, ∀ m ∈ G.ns, S.al n = S.al m → n = m
/-- from one state of the shelf to another -/
structure ShTo (K : PySem.W.Frag) (g : Nat → PyData) (H : Hp) (S : ShA) (G : Gs) (H' : Hp) (S' : ShA) (G' : Gs) (sn' : List Nat) : Prop where
  at_ : ShAt K g H' S' G' sn'
  p : S'.p = S.p
  fr : Fr (shF S G.ns) H H'
  ft : ∀ a, shF S' G'.ns a → shF S G.ns a ∨ H a = none
section
variable {K : PySem.W.Frag} {mg : Str → Option Value} {g : Nat → PyData} {H H' : Hp} {S : ShA} {G : Gs} {sn : List Nat} {σ : L2.St} {ta : TE} {n : Nat} {dk dt da df : List (Key × V)} {nx : Nat}
theorem Core.fld {f : Str} {v : V} (c : Core K H S dk dt da df nx) (cl : Cls K (ga K "Shelf")) (no : NoAttr K (ga K "Shelf") f) (l : (flds S nx).lookup f = some v) (h : At ta σ H (.ref S.p)) : At (tFld K ta f) σ H v := by
  obtain ⟨dx, o⟩ := c.ob
  exact at_fld h o cl no l
theorem Core.kept (c : Core K H S dk dt da df nx) (T : TX K mg) (h : At ta σ H (.ref S.p)) : At (tFld K ta "kept") σ H (.ref S.k) := c.fld T.cl T.n_kept rfl h
theorem Core.tags (c : Core K H S dk dt da df nx) (T : TX K mg) (h : At ta σ H (.ref S.p)) : At (tFld K ta "tags") σ H (.ref S.tg) := c.fld T.cl T.n_tags rfl h
theorem Core.above (c : Core K H S dk dt da df nx) (T : TX K mg) (h : At ta σ H (.ref S.p)) : At (tFld K ta "above") σ H (.ref S.a) := c.fld T.cl T.n_above rfl h
theorem Core.freely (c : Core K H S dk dt da df nx) (T : TX K mg) (h : At ta σ H (.ref S.p)) : At (tFld K ta "freely") σ H (.ref S.f) := c.fld T.cl T.n_freely rfl h
theorem Core.seen (c : Core K H S dk dt da df nx) (T : TX K mg) (h : At ta σ H (.ref S.p)) : At (tFld K ta "seen") σ H (.ref S.s) := c.fld T.cl T.n_seen rfl h
theorem Core.given (c : Core K H S dk dt da df nx) (T : TX K mg) (h : At ta σ H (.ref S.p)) : At (tFld K ta "given") σ H (.int (nx : Int)) := c.fld T.cl T.n_given rfl h
theorem ShAt.tk (A : ShAt K g H S G sn) (f : Fr (shF S G.ns) H H') : TK H H' := fun a xs e => f a _ e fun z => by
  obtain ⟨dx, o⟩ := A.c.ob
  rcases z with z | z | z | z | z | z | ⟨n, hn, z⟩ <;> subst z
  · rw [o] at e; cases e
  · rw [A.c.k] at e; cases e
  · rw [A.c.tg] at e; cases e
  · rw [A.c.a] at e; cases e
  · rw [A.c.f] at e; cases e
  · rw [A.s] at e; cases e
  · rw [A.al n hn] at e; cases e
theorem ShAt.same (A : ShAt K g H S G sn) (s : Same H H') : ShAt K g H' S G sn :=
  ⟨A.c.same s, s _ _ A.s, fun n hn => s _ _ (A.al n hn), fun n hn => (A.kd n hn).sm s, fun n hn => (A.td n hn).sm s, A.sal, A.ali⟩
/-- outside of the shelf's own something happens -/
theorem ShAt.away {F : Addr → Prop} (A : ShAt K g H S G sn) (f : Fr F H H') (tk : TK H H') (hF : ∀ a, shF S G.ns a → ¬ F a) : ShAt K g H' S G sn := by
  obtain ⟨dx, o⟩ := A.c.ob
  have go : ∀ a o, shF S G.ns a → H a = some o → H' a = some o := fun a o h e => f a o e (hF a h)
  refine ⟨⟨⟨dx, go _ _ (.inl rfl) o⟩, go _ _ (.inr (.inl rfl)) A.c.k, go _ _ (.inr (.inr (.inl rfl))) A.c.tg, go _ _ (.inr (.inr (.inr (.inl rfl)))) A.c.a, go _ _ (.inr (.inr (.inr (.inr (.inl rfl))))) A.c.f, A.c.kt, A.c.ka, A.c.kf, A.c.ta, A.c.tf, A.c.af⟩,
    go _ _ (.inr (.inr (.inr (.inr (.inr (.inl rfl)))))) A.s, fun n hn => go _ _ (.inr (.inr (.inr (.inr (.inr (.inr ⟨n, hn, rfl⟩)))))) (A.al n hn), fun n hn => (A.kd n hn).mono tk _ _, fun n hn => (A.td n hn).mono tk _ _, A.sal, A.ali⟩
theorem ShAt.dga (A : ShAt K g H S G sn) (hn : n ∈ G.ns) : DGet H S.a (.int (n : Int)) (some (.ref (S.al n))) := dget_dM (F := fun n => .ref (S.al n)) A.c.a hn
theorem ShAt.dgf (A : ShAt K g H S G sn) (hn : n ∈ G.ns) : DGet H S.f (.int (n : Int)) (some (.int (G.h n))) := dget_dM (F := fun n => .int (G.h n)) A.c.f hn
theorem ShAt.dgk (A : ShAt K g H S G sn) (hn : n ∈ G.ns) : DGet H S.k (.int (n : Int)) (some (S.kv n)) := dget_dM A.c.k hn
theorem ShAt.dgt (A : ShAt K g H S G sn) (hn : n ∈ G.ns) : DGet H S.tg (.int (n : Int)) (some (S.tv n)) := dget_dM A.c.tg hn
end
end Tw

set_option Elab.async false
set_option linter.all false
set_option maxRecDepth 100000
set_option maxHeartbeats 4000000
/-! Loops as statements of a block; readings that make objects alone; lists of numbers against []. -/
namespace Tw
open PySem PySem.Spec PyProof.Rows L2
open He (ga ma)
/-- an expression, a test that makes new objects alone -/
def Sm (te : TE) (σ : L2.St) (H : Hp) (v : V) : Prop := ∀ Q : VK, (∀ H', Same H H' → Q v H') → te σ H Q
def SmT (tt : TT) (σ : L2.St) (H : Hp) (b : Bool) : Prop := ∀ Q : Bool → Hp → Prop, (∀ H', Same H H' → Q b H') → tt σ H Q
section
variable {K : PySem.W.Frag} {σ : L2.St} {H : Hp} {ta tb te tl : TE} {t c : TT} {v : V} {b d : Bool} {p : Addr} {ns : List Nat} {D : Ends} {s1 s2 u tbd : TS} {i j : Nat} {a : Addr} {xs : List V}
theorem At.sm (h : At te σ H v) : Sm te σ H v := fun Q q => h Q (q H (Same.refl H))
theorem AtT.sm (h : AtT t σ H b) : SmT t σ H b := fun Q q => h Q (q H (Same.refl H))
theorem smt_B (h : Sm te σ H (.bl b)) : SmT (tB te) σ H b := fun _ q => h _ fun H' s => ⟨b, rfl, q H' s⟩
theorem smt_test (h : Sm te σ H (.bl b)) : SmT (tTest te) σ H b := fun _ q => h _ fun H' s => ⟨b, rfl, q H' s⟩
theorem smt_not (h : SmT t σ H b) : SmT (tNot t) σ H (!b) := fun _ q => h _ q
theorem smt_andT (h : AtT t σ H true) (h2 : SmT c σ H d) : SmT (tAnd t c) σ H d := fun Q q => h _ (h2 Q q)
theorem smt_andF (h : AtT t σ H false) : SmT (tAnd t c) σ H false := (att_andF h).sm
theorem smt_orF (h : AtT t σ H false) (h2 : SmT c σ H d) : SmT (tOr t c) σ H d := fun Q q => h _ (h2 Q q)
theorem smt_is (h : SmT t σ H b) (e : b = d) : SmT t σ H d := e ▸ h
theorem sq_ifS (h : SmT t σ H b) (k1 : b = true → ∀ H', Same H H' → s1 { D with nx := u D } σ H') (k2 : b = false → ∀ H', Same H H' → s2 { D with nx := u D } σ H') : tSeq (tIfS t s1 s2) u D σ H := h _ fun H' s => by
  cases b with
  | true => exact k1 rfl H' s
  | false => exact k2 rfl H' s
theorem st_ifS (h : SmT t σ H b) (k1 : b = true → ∀ H', Same H H' → s1 D σ H') (k2 : b = false → ∀ H', Same H H' → s2 D σ H') : tIfS t s1 s2 D σ H := h _ fun H' s => by
  cases b with
  | true => exact k1 rfl H' s
  | false => exact k2 rfl H' s
theorem sq_ifSn (h : SmT t σ H b) (k1 : b = true → ∀ H', Same H H' → s1 { D with nx := u D } σ H') (k2 : b = false → ∀ H', Same H H' → u D σ H') : tSeq (tIfS t s1 tNext) u D σ H := sq_ifS h k1 k2
theorem ints_dp : ∀ ns : List Nat, DpAll K H (ns.map iV) (ns.map fun (n : Nat) => .int (n : Int))
  | [] => .nil
  | n :: r => .cons (.int _) (ints_dp r)
theorem ints_tp : ∀ ns : List Nat, TpA H (ns.map iV) (ns.map fun (n : Nat) => .int (n : Int))
  | [] => .nil
  | n :: r => .cons (.int _) (ints_tp r)
theorem tp_ints : ∀ {ns : List Nat} {vs : List V}, TpA H vs (ns.map fun (n : Nat) => .int (n : Int)) → vs = ns.map iV
  | [], _, h => by cases h; rfl
  | n :: r, _, h => by
    cases h with
    | cons h1 h2 =>
      cases h1
      rw [tp_ints h2]
      rfl
theorem ints_lay : ∀ ns : List Nat, PyData.canLayAll0 (ns.map fun (n : Nat) => .int (n : Int)) = true
  | [] => by simp [PyData.canLayAll0]
  | n :: r => by simp only [List.map_cons, PyData.canLayAll0, PyData.canLay0, Bool.true_and]; exact ints_lay r
theorem ints_depth : ∀ ns : List Nat, PyData.depthAll (ns.map fun (n : Nat) => .int (n : Int)) = 0
  | [] => by simp [PyData.depthAll]
  | n :: r => by simp only [List.map_cons, PyData.depthAll, PyData.depth, ints_depth r]; rfl
theorem ints_shaped (ns : List Nat) : SeqAt.shaped (.list (ns.map fun (n : Nat) => .int (n : Int))) = true := by
  show (PyData.canLay0 (.list (ns.map fun (n : Nat) => .int (n : Int))) && decide (PyData.depth (.list (ns.map fun (n : Nat) => .int (n : Int))) ≤ 64)) = true
  rw [Bool.and_eq_true]
  refine ⟨by simp only [PyData.canLay0]; exact ints_lay ns, decide_eq_true ?_⟩
  simp only [PyData.depth, ints_depth]
  omega
theorem eqv_nil (ns : List Nat) : PyData.eqv (.list (ns.map fun (n : Nat) => .int (n : Int))) (.list []) = ns.isEmpty := by
  cases ns <;> simp [PyData.eqv, PyData.eqvAll]
theorem sm_eqNil (ha : At ta σ H (.ref p)) (hp : H p = some (.lst (ns.map iV))) : Sm (tOp (rEqD K) ta (tLst tNil)) σ H (.bl ns.isEmpty) := fun Q q => ha _ ⟨z0, fun r hr => by
  have h2 : upd H r (.lst []) p = some (.lst (ns.map iV)) := by
    rw [upd_ne (ne_of_none hp hr)]
    exact hp
  refine ⟨_, _, .lst (SqL.of h2) (ints_dp ns), .lst (SqL.of upd_same) .nil, ints_shaped ns, ints_shaped [], ?_⟩
  rw [eqv_nil]
  exact q _ (same_new hr)⟩
theorem sm_neNil (ha : At ta σ H (.ref p)) (hp : H p = some (.lst (ns.map iV))) : Sm (tOp (rNeD K) ta (tLst tNil)) σ H (.bl (!ns.isEmpty)) := fun Q q => ha _ ⟨z0, fun r hr => by
  have h2 : upd H r (.lst []) p = some (.lst (ns.map iV)) := by
    rw [upd_ne (ne_of_none hp hr)]
    exact hp
  refine ⟨_, _, .lst (SqL.of h2) (ints_dp ns), .lst (SqL.of upd_same) .nil, ints_shaped ns, ints_shaped [], ?_⟩
  rw [eqv_nil]
  exact q _ (same_new hr)⟩
/-! loops -/
theorem sq_forL (ha : At tl σ H (.ref a)) (hx : H a = some (.lst xs)) (Pv : Nat → L2.St → Hp → Prop) (h0 : Pv 0 σ H) (hl : ∀ i σ' H', Pv i σ' H' → H' a = some (.lst xs))
    (hs : ∀ i x σ' H', xs[i]? = some x → Pv i σ' H' → tbd ⟨Pv (i + 1), D.rt, u D, Pv (i + 1)⟩ (σ'.set j (some x)) H') (hd : ∀ σ' H', Pv xs.length σ' H' → u D σ' H') : tSeq (tFor (iList K tl) (gName j) tbd) u D σ H :=
  ha _ ⟨a, rfl, ⟨xs, SqL.of hx⟩, for_list (D := { D with nx := u D }) (xs := xs) Pv h0 (fun i σ' H' _ p => SqL.of (hl i σ' H' p)) hs hd⟩
theorem st_forL (ha : At tl σ H (.ref a)) (hx : H a = some (.lst xs)) (Pv : Nat → L2.St → Hp → Prop) (h0 : Pv 0 σ H) (hl : ∀ i σ' H', Pv i σ' H' → H' a = some (.lst xs))
    (hs : ∀ i x σ' H', xs[i]? = some x → Pv i σ' H' → tbd ⟨Pv (i + 1), D.rt, D.nx, Pv (i + 1)⟩ (σ'.set j (some x)) H') (hd : ∀ σ' H', Pv xs.length σ' H' → D.nx σ' H') : tFor (iList K tl) (gName j) tbd D σ H :=
  ha _ ⟨a, rfl, ⟨xs, SqL.of hx⟩, for_list (D := D) (xs := xs) Pv h0 (fun i σ' H' _ p => SqL.of (hl i σ' H' p)) hs hd⟩
theorem st_forT (ha : At tl σ H (.ref a)) (hx : H a = some (.tup xs)) (Pv : Nat → L2.St → Hp → Prop) (h0 : Pv 0 σ H) (hl : ∀ i σ' H', Pv i σ' H' → H' a = some (.tup xs))
    (hs : ∀ i x σ' H', xs[i]? = some x → Pv i σ' H' → tbd ⟨Pv (i + 1), D.rt, D.nx, Pv (i + 1)⟩ (σ'.set j (some x)) H') (hd : ∀ σ' H', Pv xs.length σ' H' → D.nx σ' H') : tFor (iTup K tl) (gName j) tbd D σ H :=
  ha _ ⟨a, rfl, ⟨xs, SqT.of hx⟩, for_tup (D := D) (xs := xs) Pv h0 (fun i σ' H' _ p => SqT.of (hl i σ' H' p)) hs hd⟩
theorem sq_forR1 {ta : TA} {n : Nat} (ha : AtA ta σ H [.int (n : Int)]) (hn : n ≤ 10000) (Pv : Nat → L2.St → Hp → Prop) (h0 : Pv 0 σ H)
    (hs : ∀ (i : Nat) σ' H', i < n → Pv i σ' H' → tbd ⟨Pv (i + 1), D.rt, u D, Pv (i + 1)⟩ (σ'.set j (some (iV i))) H') (hd : ∀ σ' H', Pv n σ' H' → u D σ' H') : tSeq (tFor (iRng1 ta) (gName j) tbd) u D σ H := by
  refine ha _ ⟨(n : Int), rfl, by omega, by omega, ?_⟩
  have e : (n : Int).toNat = n := by omega
  rw [e]
  refine for_range (D := { D with nx := u D }) (lo := 0) (n := n) Pv h0 (fun i σ' H' hi p => ?_) hd
  have e0 : (0 : Int) + (i : Int) = (i : Int) := Int.zero_add _
  rw [e0]
  exact hs i σ' H' hi p
/-- range(lo, hi) -/
theorem sq_forR2 {ta : TA} {lo n : Nat} (ha : AtA ta σ H [.int (lo : Int), .int (n : Int)]) (hn : n ≤ 10000 ∧ lo ≤ 10000) (Pv : Nat → L2.St → Hp → Prop) (h0 : Pv lo σ H)
    (hs : ∀ (i : Nat) σ' H', lo ≤ i → i < n → Pv i σ' H' → tbd ⟨Pv (i + 1), D.rt, u D, Pv (i + 1)⟩ (σ'.set j (some (iV i))) H') (hd : ∀ m σ' H', lo ≤ m → n ≤ m → Pv m σ' H' → u D σ' H') : tSeq (tFor (iRng2 ta) (gName j) tbd) u D σ H := by
  refine ha _ ⟨(lo : Int), (n : Int), rfl, ⟨by omega, by omega, by omega, by omega⟩, ?_⟩
  have e : ((n : Int) - (lo : Int)).toNat = n - lo := by omega
  rw [e]
  refine for_range (D := { D with nx := u D }) (lo := (lo : Int)) (n := n - lo) (fun i => Pv (lo + i)) h0 (fun i σ' H' hi p => ?_) (fun σ' H' p => hd _ σ' H' (by omega) (by omega) p)
  have e0 : (lo : Int) + (i : Int) = ((lo + i : Nat) : Int) := by omega
  rw [e0]
  exact hs (lo + i) σ' H' (by omega) (by omega) p
theorem sq_while (W : Nat → L2.St → Hp → Prop) (m0 : Nat) (h0 : W m0 σ H)
    (hs : ∀ m σ' H', W m σ' H' → ∃ b, SmT c σ' H' b ∧ (b = true → ∀ H1, Same H' H1 → tbd ⟨fun σ2 H2 => ∃ m', m' < m ∧ W m' σ2 H2, D.rt, u D, fun σ2 H2 => ∃ m', m' < m ∧ W m' σ2 H2⟩ σ' H1) ∧ (b = false → ∀ H1, Same H' H1 → u D σ' H1)) : tSeq (tWhile c tbd) u D σ H := by
  refine ⟨W, ⟨m0, h0⟩, fun m σ' H' w => ?_⟩
  obtain ⟨b, hb, h1, h2⟩ := hs m σ' H' w
  refine hb _ fun H1 s => ?_
  cases b with
  | true => exact ⟨_, fun _ _ q => q, h1 rfl H1 s⟩
  | false => exact h2 rfl H1 s
theorem st_while (W : Nat → L2.St → Hp → Prop) (m0 : Nat) (h0 : W m0 σ H)
    (hs : ∀ m σ' H', W m σ' H' → ∃ b, SmT c σ' H' b ∧ (b = true → ∀ H1, Same H' H1 → tbd ⟨fun σ2 H2 => ∃ m', m' < m ∧ W m' σ2 H2, D.rt, D.nx, fun σ2 H2 => ∃ m', m' < m ∧ W m' σ2 H2⟩ σ' H1) ∧ (b = false → ∀ H1, Same H' H1 → D.nx σ' H1)) : tWhile c tbd D σ H := by
  refine ⟨W, ⟨m0, h0⟩, fun m σ' H' w => ?_⟩
  obtain ⟨b, hb, h1, h2⟩ := hs m σ' H' w
  refine hb _ fun H1 s => ?_
  cases b with
  | true => exact ⟨_, fun _ _ q => q, h1 rfl H1 s⟩
  | false => exact h2 rfl H1 s
/-- x, y = a pair -/
theorem gPair {v1 v2 : V} {i1 i2 : Nat} {R : L2.St → Hp → Prop} (ha : H a = some (.tup [v1, v2])) (k : R ((σ.set i1 (some v1)).set i2 (some v2)) H) : gTup K 2 (gCons (gName i1) (gCons (gName i2) gNil)) (.ref a) σ H R :=
  ⟨a, _, rfl, SqT.of ha, rfl, v1, _, rfl, v2, _, rfl, rfl, k⟩
theorem tup_ {ta : TA} {vs : List V} {Q : VK} (h : AtA ta σ H vs) (hz : vs.length ≤ sizeLine) (k : ∀ p, H p = none → Q (.ref p) (upd H p (.tup vs))) : tTup ta σ H Q := h _ ⟨hz, k⟩
theorem lst_ {ta : TA} {vs : List V} {Q : VK} (h : AtA ta σ H vs) (hz : vs.length ≤ sizeLine) (k : ∀ p, H p = none → Q (.ref p) (upd H p (.lst vs))) : tLst ta σ H Q := h _ ⟨hz, k⟩
end
theorem hp_eq {H : Hp} {a b : Addr} {o : Option HO} (e : a = b) (h : H b = o) : H a = o := e ▸ h
end Tw

set_option Elab.async false
set_option linter.all false
set_option maxRecDepth 100000
set_option maxHeartbeats 4000000
/-! The shelf's methods, the first ones. -/
namespace Tw
open PySem PySem.Spec PyProof.Rows L2
open He (ga ma)
theorem upd_none {H : Hp} {x q : Addr} {o : HO} (h : upd H x o q = none) : q ≠ x ∧ H q = none := by
  by_cases e : q = x
  · subst e
    rw [upd_same] at h
    cases h
  · exact ⟨e, by rw [upd_ne e] at h; exact h⟩
section
variable {K : PySem.W.Frag} {σ : L2.St} {H H' : Hp} {D : Ends} {u : TS} {td ty tv ta : TE} {a p C dx : Addr} {y v : V} {f : Str} {fs : List (Str × V)} {R : Hp → Prop}
theorem dputK (hd : At td σ H (.ref a)) (hy : At ty σ H y) (hp : DPut H a y v H') (k : R H') : td σ H fun x H2 => ty σ H2 fun y H3 => ∃ a H4, x = .ref a ∧ DPut H3 a y v H4 ∧ R H4 := hd _ (hy _ ⟨a, H', rfl, hp, k⟩)
theorem sq_dput (hv : At tv σ H v) (hd : At td σ H (.ref a)) (hy : At ty σ H y) (hp : DPut H a y v H') (k : u D σ H') : tSeq (sDPut td ty tv) u D σ H := hv _ (dputK (R := u D σ) hd hy hp k)
theorem st_dput (hv : At tv σ H v) (hd : At td σ H (.ref a)) (hy : At ty σ H y) (hp : DPut H a y v H') (k : D.nx σ H') : sDPut td ty tv D σ H := hv _ (dputK (R := D.nx σ) hd hy hp k)
theorem fldK (ha : At ta σ H (.ref p)) (hp : H p = some (.ins C dx fs)) (cl : Cls K C) (no : NoAttr K C f) (hz : fs.length < 1000) (k : R (upd H p (.ins C dx (putF f y fs)))) :
    ta σ H fun x H2 => ∃ a C dx fs, x = .ref a ∧ H2 a = some (.ins C dx fs) ∧ Cls K C ∧ NoAttr K C f ∧ fs.length < 1000 ∧ R (upd H2 a (.ins C dx (putF f y fs))) := ha _ ⟨p, C, dx, fs, rfl, hp, cl, no, hz, k⟩
theorem sq_fld (hv : At tv σ H y) (ha : At ta σ H (.ref p)) (hp : H p = some (.ins C dx fs)) (cl : Cls K C) (no : NoAttr K C f) (hz : fs.length < 1000) (k : u D σ (upd H p (.ins C dx (putF f y fs)))) : tSeq (sFld K ta tv f) u D σ H := hv _ (fldK (R := u D σ) ha hp cl no hz k)
theorem st_fld (hv : At tv σ H y) (ha : At ta σ H (.ref p)) (hp : H p = some (.ins C dx fs)) (cl : Cls K C) (no : NoAttr K C f) (hz : fs.length < 1000) (k : D.nx σ (upd H p (.ins C dx (putF f y fs)))) : sFld K ta tv f D σ H := hv _ (fldK (R := D.nx σ) ha hp cl no hz k)
/-- self.f = a new object -/
theorem sq_fldN {o : HO} (hv : ∀ Q : VK, (∀ d, H d = none → Q (.ref d) (upd H d o)) → tv σ H Q) (ha : ∀ H, At ta σ H (.ref p)) (hp : H p = some (.ins C dx fs)) (cl : Cls K C) (no : NoAttr K C f) (hz : fs.length < 1000)
    (k : ∀ d H', H d = none → H' p = some (.ins C dx (putF f (.ref d) fs)) → H' d = some o → (∀ x u, H x = some u → x ≠ p → H' x = some u) → (∀ x, H' x = none → H x = none) → u D σ H') : tSeq (sFld K ta tv f) u D σ H := hv _ fun d hd =>
  fldK (R := u D σ) (ha _) (by rw [upd_ne (ne_of_none hp hd)]; exact hp) cl no hz (k d _ hd upd_same (by rw [upd_ne (ne_of_none hp hd).symm, upd_same]) (fun x w e n => by rw [upd_ne n, upd_ne (ne_of_none e hd)]; exact e) fun x e => (upd_none (upd_none e).2).2)
end
theorem Core.re {K : PySem.W.Frag} {H : Hp} {S S' : ShA} {dk dt da df : List (Key × V)} {nx : Nat} (c : Core K H S dk dt da df nx) (e : S'.p = S.p ∧ S'.k = S.k ∧ S'.tg = S.tg ∧ S'.a = S.a ∧ S'.f = S.f ∧ S'.s = S.s) : Core K H S' dk dt da df nx := by
  obtain ⟨p, k, tg, a, f, s, al, kv, tv⟩ := S
  obtain ⟨p', k', tg', a', f', s', al', kv', tv'⟩ := S'
  obtain ⟨e1, e2, e3, e4, e5, e6⟩ := e
  dsimp only at e1 e2 e3 e4 e5 e6
  subst e1 e2 e3 e4 e5 e6
  exact ⟨c.ob, c.k, c.tg, c.a, c.f, c.kt, c.ka, c.kf, c.ta, c.tf, c.af⟩
/-! ### __init__ -/
def G0 : Gs := ⟨[], fun _ => .stem [], fun _ => 0, fun _ => ⟨0, 0, 0, 0⟩, fun _ => [], 0⟩
def spInit (K : PySem.W.Frag) : Sp := fun vs H Q _ => ∃ p dx, vs = [.ref p] ∧ H p = some (.ins (ga K "Shelf") dx []) ∧ ∀ S H', S.p = p → (∀ g, ShAt K g H' S G0 []) → (∀ a o, H a = some o → a ≠ p → H' a = some o) → (∀ a, shF S [] a → a = p ∨ H a = none) → Q .non H'
section
variable {P : Program} {w : World} {K : PySem.W.Frag} {mg : Str → Option Value} {base : Heap}
theorem sc_init : FnScope ["self"] ["self"] (defScope (shm 0)) := ⟨rfl, rfl, rfl, by decide +kernel, rfl, by decide +kernel, by decide +kernel⟩
theorem ok_init (T : TX K mg) (F : Fd K "__init__" "Shelf.__init__" (shm 0) (ma K (ga K "Shelf") "__init__")) : OkF P w K mg base CX0 1 (ma K (ga K "Shelf") "__init__") ["self"] (spInit K) := by
  refine mkOk F sc_init (fun vs H Q E h => ?_) (fun _ _ _ _ _ _ us hl => match us, hl with | [_], _ => rfl) (fun cdv A outer s H vs Q E hr h => ?_)
  · obtain ⟨p, dx, rfl, _⟩ := h
    rfl
  · obtain ⟨p, dx, rfl, hp, k⟩ := h
    have nd := sc_init.nd
    refine ⟨_, (pss_cons (ps_fld (pv 0) pe_dnewK rfl)
      (pss_cons (ps_fld (pv 0) pe_dnewK rfl)
      (pss_cons (ps_fld (pv 0) pe_dnewK rfl)
      (pss_cons (ps_fld (pv 0) pe_dnewK rfl)
      (pss_cons (ps_fld (pv 0) (pe_lst pa_nil) rfl)
      (pss_one (ps_fld (pv 0) pe_int rfl))))))), ?_⟩
    have v0 : ∀ H, At (tVar 0) (L2.start ["self"] [V.ref p]) H (.ref p) := fun H => at_var rfl
    refine sq_fldN (fun Q q => q) v0 hp T.cl T.n_kept (by decide) fun d1 H1 n1 p1 e1 k1 b1 => ?_
    refine sq_fldN (fun Q q => q) v0 p1 T.cl T.n_tags (Nat.lt_of_lt_of_le (show 1 < 2 by decide) (by decide)) fun d2 H2 n2 p2 e2 k2 b2 => ?_
    refine sq_fldN (fun Q q => q) v0 p2 T.cl T.n_above (Nat.lt_of_lt_of_le (show 2 < 3 by decide) (by decide)) fun d3 H3 n3 p3 e3 k3 b3 => ?_
    refine sq_fldN (fun Q q => q) v0 p3 T.cl T.n_freely (Nat.lt_of_lt_of_le (show 3 < 4 by decide) (by decide)) fun d4 H4 n4 p4 e4 k4 b4 => ?_
    refine sq_fldN (fun Q q => ⟨z0, q⟩) v0 p4 T.cl T.n_seen (Nat.lt_of_lt_of_le (show 4 < 5 by decide) (by decide)) fun d5 H5 n5 p5 e5 k5 b5 => ?_
    refine st_fld at_c (v0 _) p5 T.cl T.n_given (Nat.lt_of_lt_of_le (show 5 < 6 by decide) (by decide)) ?_
    have m1 : d1 ≠ p := (ne_of_none hp n1).symm
    have m2 : d2 ≠ p := (ne_of_none p1 n2).symm
    have m3 : d3 ≠ p := (ne_of_none p2 n3).symm
    have m4 : d4 ≠ p := (ne_of_none p3 n4).symm
    have m5 : d5 ≠ p := (ne_of_none p4 n5).symm
    have f1 : H5 d1 = some (.dK []) := k5 _ _ (k4 _ _ (k3 _ _ (k2 _ _ e1 m1) m1) m1) m1
    have f2 : H5 d2 = some (.dK []) := k5 _ _ (k4 _ _ (k3 _ _ e2 m2) m2) m2
    have f3 : H5 d3 = some (.dK []) := k5 _ _ (k4 _ _ e3 m3) m3
    have f4 : H5 d4 = some (.dK []) := k5 _ _ e4 m4
    have x12 : d1 ≠ d2 := ne_of_none e1 n2
    have x13 : d1 ≠ d3 := ne_of_none (k2 _ _ e1 m1) n3
    have x14 : d1 ≠ d4 := ne_of_none (k3 _ _ (k2 _ _ e1 m1) m1) n4
    have x23 : d2 ≠ d3 := ne_of_none e2 n3
    have x24 : d2 ≠ d4 := ne_of_none (k3 _ _ e2 m2) n4
    have x34 : d3 ≠ d4 := ne_of_none e3 n4
    refine k ⟨p, d1, d2, d3, d4, d5, fun _ => 0, fun _ => .non, fun _ => .non⟩ _ rfl (fun g => ⟨⟨⟨dx, upd_same⟩, by rw [upd_ne m1]; exact f1, by rw [upd_ne m2]; exact f2, by rw [upd_ne m3]; exact f3, by rw [upd_ne m4]; exact f4, x12, x13, x14, x23, x24, x34⟩, by rw [upd_ne m5]; exact e5, fun n hn => absurd hn List.not_mem_nil, fun n hn => absurd hn List.not_mem_nil, fun n hn => absurd hn List.not_mem_nil, fun n hn => absurd hn List.not_mem_nil, fun n hn => absurd hn List.not_mem_nil⟩)
      (fun a o ha hn => by rw [upd_ne hn]; exact k5 _ _ (k4 _ _ (k3 _ _ (k2 _ _ (k1 _ _ ha hn) hn) hn) hn) hn) fun a ha => ?_
    rcases ha with h | h | h | h | h | h | ⟨n, hn, _⟩
    · exact .inl h
    · exact .inr (h ▸ n1)
    · exact .inr (h ▸ b1 _ n2)
    · exact .inr (h ▸ b1 _ (b2 _ n3))
    · exact .inr (h ▸ b1 _ (b2 _ (b3 _ n4)))
    · exact .inr (h ▸ b1 _ (b2 _ (b3 _ (b4 _ n5))))
    · exact absurd hn List.not_mem_nil
end
/-! ### need, of a twig that is there; what is told of it -/
def spNeed0 (K : PySem.W.Frag) : Sp := fun vs H Q _ => ∃ g S G sn n, vs = [.ref S.p, iV n] ∧ ShAt K g H S G sn ∧ n ∈ G.ns ∧ Q .non H
def spOutside (K : PySem.W.Frag) : Sp := fun vs H Q _ => ∃ g S G sn n, vs = [.ref S.p, iV n] ∧ ShAt K g H S G sn ∧ n ∈ G.ns ∧ Q (.int (G.h n)) H
def spHolders (K : PySem.W.Frag) : Sp := fun vs H Q _ => ∃ g S G sn n, vs = [.ref S.p, iV n] ∧ ShAt K g H S G sn ∧ n ∈ G.ns ∧ Q (.int ((G.ab n).length + G.h n)) H
def spLabel (K : PySem.W.Frag) : Sp := fun vs H Q _ => ∃ g S G sn n, vs = [.ref S.p, iV n] ∧ ShAt K g H S G sn ∧ n ∈ G.ns ∧ ∀ v, Tp H v (labD g (G.l n)) → Q v H
def spMany (K : PySem.W.Frag) : Sp := fun vs H Q _ => ∃ g S G sn, vs = [.ref S.p] ∧ ShAt K g H S G sn ∧ Q (.int (G.ns.length : Int)) H
def spNumbers (K : PySem.W.Frag) : Sp := fun vs H Q _ => ∃ g S G sn, vs = [.ref S.p] ∧ ShAt K g H S G sn ∧ G.ns.Pairwise (· < ·) ∧ ∀ p, H p = none → Q (.ref p) (upd H p (.lst (G.ns.map iV)))
def spLooked (K : PySem.W.Frag) : Sp := fun vs H Q _ => ∃ g S G sn, vs = [.ref S.p] ∧ ShAt K g H S G sn ∧ ∀ p, H p = none → Q (.ref p) (upd H p (.lst (sn.map iV)))
theorem rising_int {ns : List Nat} (h : ns.Pairwise (· < ·)) : (ns.map fun (n : Nat) => (n : Int)).Pairwise (· ≤ ·) := List.pairwise_map.mpr (h.imp fun q => by omega)
section
variable {P : Program} {w : World} {K : PySem.W.Frag} {mg : Str → Option Value} {base : Heap}
theorem sc_need : FnScope ["self", "number"] ["self", "number"] (defScope (shm 1)) := ⟨rfl, rfl, rfl, by decide +kernel, rfl, by decide +kernel, by decide +kernel⟩
theorem ok_need (T : TX K mg) (F : Fd K "need" "Shelf.need" (shm 1) (ma K (ga K "Shelf") "need")) : OkF P w K mg base CX0 1 (ma K (ga K "Shelf") "need") ["self", "number"] (spNeed0 K) := by
  refine mkOk F sc_need (fun vs H Q E h => ?_) (fun _ _ _ _ _ _ us hl => match us, hl with | [_, _], _ => rfl) (fun cdv A outer s H vs Q E hr h => ?_)
  · obtain ⟨g, S, G, sn, n, rfl, _⟩ := h
    rfl
  · obtain ⟨g, S, G, sn, n, rfl, A0, hn, k⟩ := h
    have hu := hu_of hr
    have nd := sc_need.nd
    refine ⟨_, (pss_one (ps_if (pt_cmp (pc_dnotin hu (pv 1) (pe_fld (pv 0) rfl))) (pss_one ps_never) pss_nil)), ?_⟩
    exact st_Fn (att_B (at_is (at_dnin (at_var rfl) (A0.c.kept T (at_var rfl)) (A0.dgk hn)) rfl)) k
theorem sc_outside : FnScope ["self", "number"] ["self", "number"] (defScope (shm 10)) := ⟨rfl, rfl, rfl, by decide +kernel, rfl, by decide +kernel, by decide +kernel⟩
theorem ok_outside (T : TX K mg) (F : Fd K "outside" "Shelf.outside" (shm 10) (ma K (ga K "Shelf") "outside")) (G_need : OkM P w K mg base CX0 (ga K "Shelf") "need" 1 (ma K (ga K "Shelf") "need") ["self", "number"] (spNeed0 K)) : OkF P w K mg base CX0 2 (ma K (ga K "Shelf") "outside") ["self", "number"] (spOutside K) := by
  refine mkOk F sc_outside (fun vs H Q E h => ?_) (fun _ _ _ _ _ _ us hl => match us, hl with | [_, _], _ => rfl) (fun cdv A outer s H vs Q E hr h => ?_)
  · obtain ⟨g, S, G, sn, n, rfl, _⟩ := h
    rfl
  · obtain ⟨g, S, G, sn, n, rfl, A0, hn, k⟩ := h
    have hu := hu_of hr
    have nd := sc_outside.nd
    refine ⟨_, (pss_cons (ps_expr (pe_m (pv 0) T.cl G_need (hr.mono (by decide)) (pa_cons (pv 1) pa_nil)))
      (pss_one (ps_ret (pe_dget hu (pe_fld (pv 0) rfl) (pv 1) (fun _ _ => rfl))))), ?_⟩
    obtain ⟨dx, ob⟩ := A0.c.ob
    refine sq_drop (at_meth (at_var rfl) ob rfl (ata_cons (at_var rfl) ata_nil) fun Q q => ⟨g, S, G, sn, n, rfl, A0, hn, q⟩) ?_
    exact st_ret (at_dget (A0.c.freely T (at_var rfl)) (at_var rfl) (A0.dgf hn)) k
theorem sc_holders : FnScope ["self", "number"] ["self", "number"] (defScope (shm 11)) := ⟨rfl, rfl, rfl, by decide +kernel, rfl, by decide +kernel, by decide +kernel⟩
theorem ok_holders (T : TX K mg) (F : Fd K "holders" "Shelf.holders" (shm 11) (ma K (ga K "Shelf") "holders")) (G_need : OkM P w K mg base CX0 (ga K "Shelf") "need" 1 (ma K (ga K "Shelf") "need") ["self", "number"] (spNeed0 K)) : OkF P w K mg base CX0 2 (ma K (ga K "Shelf") "holders") ["self", "number"] (spHolders K) := by
  refine mkOk F sc_holders (fun vs H Q E h => ?_) (fun _ _ _ _ _ _ us hl => match us, hl with | [_, _], _ => rfl) (fun cdv A outer s H vs Q E hr h => ?_)
  · obtain ⟨g, S, G, sn, n, rfl, _⟩ := h
    rfl
  · obtain ⟨g, S, G, sn, n, rfl, A0, hn, k⟩ := h
    have hu := hu_of hr
    have nd := sc_holders.nd
    refine ⟨_, (pss_cons (ps_expr (pe_m (pv 0) T.cl G_need (hr.mono (by decide)) (pa_cons (pv 1) pa_nil)))
      (pss_one (ps_ret (pe_op op_add (pe_callB (call_len_seq) rfl T.f_len bt_len (pa_cons (pe_dget hu (pe_fld (pv 0) rfl) (pv 1) (fun _ _ => rfl)) pa_nil)) (pe_dget hu (pe_fld (pv 0) rfl) (pv 1) (fun _ _ => rfl)))))), ?_⟩
    obtain ⟨dx, ob⟩ := A0.c.ob
    refine sq_drop (at_meth (at_var rfl) ob rfl (ata_cons (at_var rfl) ata_nil) fun Q q => ⟨g, S, G, sn, n, rfl, A0, hn, q⟩) ?_
    refine st_ret (at_I0 (at_lenL (ata_cons (at_dget (A0.c.above T (at_var rfl)) (at_var rfl) (A0.dga hn)) ata_nil) (A0.al n hn)) (at_dget (A0.c.freely T (at_var rfl)) (at_var rfl) (A0.dgf hn)) rfl) ?_
    rw [List.length_map]
    exact k
theorem sc_label : FnScope ["self", "number"] ["self", "number"] (defScope (shm 19)) := ⟨rfl, rfl, rfl, by decide +kernel, rfl, by decide +kernel, by decide +kernel⟩
theorem ok_label (T : TX K mg) (F : Fd K "label" "Shelf.label" (shm 19) (ma K (ga K "Shelf") "label")) (G_need : OkM P w K mg base CX0 (ga K "Shelf") "need" 1 (ma K (ga K "Shelf") "need") ["self", "number"] (spNeed0 K)) : OkF P w K mg base CX0 2 (ma K (ga K "Shelf") "label") ["self", "number"] (spLabel K) := by
  refine mkOk F sc_label (fun vs H Q E h => ?_) (fun _ _ _ _ _ _ us hl => match us, hl with | [_, _], _ => rfl) (fun cdv A outer s H vs Q E hr h => ?_)
  · obtain ⟨g, S, G, sn, n, rfl, _⟩ := h
    rfl
  · obtain ⟨g, S, G, sn, n, rfl, A0, hn, k⟩ := h
    have hu := hu_of hr
    have nd := sc_label.nd
    refine ⟨_, (pss_cons (ps_expr (pe_m (pv 0) T.cl G_need (hr.mono (by decide)) (pa_cons (pv 1) pa_nil)))
      (pss_one (ps_ret (pe_dget hu (pe_fld (pv 0) rfl) (pv 1) (fun _ _ => rfl))))), ?_⟩
    obtain ⟨dx, ob⟩ := A0.c.ob
    refine sq_drop (at_meth (at_var rfl) ob rfl (ata_cons (at_var rfl) ata_nil) fun Q q => ⟨g, S, G, sn, n, rfl, A0, hn, q⟩) ?_
    exact st_ret (at_dget (A0.c.tags T (at_var rfl)) (at_var rfl) (A0.dgt hn)) (k _ (A0.td n hn))
theorem sc_many : FnScope ["self"] ["self"] (defScope (shm 23)) := ⟨rfl, rfl, rfl, by decide +kernel, rfl, by decide +kernel, by decide +kernel⟩
theorem ok_many (T : TX K mg) (F : Fd K "many" "Shelf.many" (shm 23) (ma K (ga K "Shelf") "many")) : OkF P w K mg base CX0 1 (ma K (ga K "Shelf") "many") ["self"] (spMany K) := by
  refine mkOk F sc_many (fun vs H Q E h => ?_) (fun _ _ _ _ _ _ us hl => match us, hl with | [_], _ => rfl) (fun cdv A outer s H vs Q E hr h => ?_)
  · obtain ⟨g, S, G, sn, rfl, _⟩ := h
    rfl
  · obtain ⟨g, S, G, sn, rfl, A0, k⟩ := h
    have hu := hu_of hr
    have nd := sc_many.nd
    refine ⟨_, (pss_one (ps_ret (pe_callB (call_lenD) rfl T.f_len bt_len (pa_cons (pe_fld (pv 0) rfl) pa_nil)))), ?_⟩
    refine st_ret (at_cb (z := .int ((dM G.ns S.kv).length : Int)) (ata_cons (A0.c.kept T (at_var rfl)) ata_nil) fun Q q => ⟨_, _, rfl, A0.c.k, q⟩) ?_
    rw [dM_length]
    exact k
theorem sc_looked : FnScope ["self"] ["self"] (defScope (shm 20)) := ⟨rfl, rfl, rfl, by decide +kernel, rfl, by decide +kernel, by decide +kernel⟩
theorem ok_looked (T : TX K mg) (F : Fd K "looked" "Shelf.looked" (shm 20) (ma K (ga K "Shelf") "looked")) : OkF P w K mg base CX0 1 (ma K (ga K "Shelf") "looked") ["self"] (spLooked K) := by
  refine mkOk F sc_looked (fun vs H Q E h => ?_) (fun _ _ _ _ _ _ us hl => match us, hl with | [_], _ => rfl) (fun cdv A outer s H vs Q E hr h => ?_)
  · obtain ⟨g, S, G, sn, rfl, _⟩ := h
    rfl
  · obtain ⟨g, S, G, sn, rfl, A0, k⟩ := h
    have hu := hu_of hr
    have nd := sc_looked.nd
    refine ⟨_, (pss_one (ps_ret (pe_callTy (call_list_of) rfl T.f_list bt_list (pa_cons (pe_fld (pv 0) rfl) pa_nil)))), ?_⟩
    exact rt_ (cb1 (A0.c.seen T (at_var rfl) _ ⟨_, _, rfl, .inl (SqL.of A0.s), k⟩))
theorem sc_numbers : FnScope ["self"] ["self"] (defScope (shm 22)) := ⟨rfl, rfl, rfl, by decide +kernel, rfl, by decide +kernel, by decide +kernel⟩
theorem ok_numbers (T : TX K mg) (F : Fd K "numbers" "Shelf.numbers" (shm 22) (ma K (ga K "Shelf") "numbers")) : OkF P w K mg base CX0 1 (ma K (ga K "Shelf") "numbers") ["self"] (spNumbers K) := by
  refine mkOk F sc_numbers (fun vs H Q E h => ?_) (fun _ _ _ _ _ _ us hl => match us, hl with | [_], _ => rfl) (fun cdv A outer s H vs Q E hr h => ?_)
  · obtain ⟨g, S, G, sn, rfl, _⟩ := h
    rfl
  · obtain ⟨g, S, G, sn, rfl, A0, hs, k⟩ := h
    have hu := hu_of hr
    have nd := sc_numbers.nd
    refine ⟨_, (pss_one (ps_ret (pe_callB (cr_sortedK rfl) rfl T.f_sorted bt_sorted (pa_cons (pe_fld (pv 0) rfl) pa_nil)))), ?_⟩
    refine rt_ (cb1 (A0.c.kept T (at_var rfl) _ ⟨S.k, dM G.ns S.kv, G.ns.map fun (n : Nat) => (n : Int), rfl, .inl A0.c.k, by rw [dM_keys, List.map_map]; rfl, fun ys p h1 h2 hp => ?_⟩))
    rw [sorted_same h1 h2 (rising_int hs), List.map_map]
    exact k p hp
end
end Tw

set_option Elab.async false
set_option linter.all false
set_option maxRecDepth 100000
set_option maxHeartbeats 4000000
/-! The shelf's methods that change one thing. -/
namespace Tw
open PySem PySem.Spec PyProof.Rows L2
open He (ga ma)
section
variable {K : PySem.W.Frag} {σ : L2.St} {H H' : Hp} {D : Ends} {u : TS} {td ty tv ta to : TE} {a p C dx l : Addr} {y v : V} {f : Str} {fs : List (Str × V)} {R : Hp → Prop} {xs : List V} {g : TG}
def DpK (td ty : TE) (σ : L2.St) (R : Hp → Prop) (v : V) (H1 : Hp) : Prop := td σ H1 fun x H2 => ty σ H2 fun y H3 => ∃ a H4, x = .ref a ∧ DPut H3 a y v H4 ∧ R H4
theorem sq_dp (h : tv σ H fun v H1 => DpK td ty σ (u D σ) v H1) : tSeq (sDPut td ty tv) u D σ H := h
theorem st_dp (h : tv σ H fun v H1 => DpK td ty σ (D.nx σ) v H1) : sDPut td ty tv D σ H := h
theorem dpk (hd : At td σ H (.ref a)) (hy : At ty σ H y) (hp : DPut H a y v H') (k : R H') : DpK td ty σ R v H := hd _ (hy _ ⟨a, H', rfl, hp, k⟩)
def FdK (K : PySem.W.Frag) (ta : TE) (f : Str) (σ : L2.St) (R : Hp → Prop) (y : V) (H1 : Hp) : Prop := ta σ H1 fun x H2 => ∃ a C dx fs, x = .ref a ∧ H2 a = some (.ins C dx fs) ∧ Cls K C ∧ NoAttr K C f ∧ fs.length < 1000 ∧ R (upd H2 a (.ins C dx (putF f y fs)))
theorem st_fd (h : tv σ H fun v H1 => FdK K ta f σ (D.nx σ) v H1) : sFld K ta tv f D σ H := h
theorem fdk (ha : At ta σ H (.ref p)) (hp : H p = some (.ins C dx fs)) (cl : Cls K C) (no : NoAttr K C f) (hz : fs.length < 1000) (k : R (upd H p (.ins C dx (putF f y fs)))) : FdK K ta f σ R y H := ha _ ⟨p, C, dx, fs, rfl, hp, cl, no, hz, k⟩
theorem sq_asg (h : tv σ H fun v H1 => g v σ H1 (u D)) : tSeq (tAsg tv g) u D σ H := h
theorem sq_app (ha : At to σ H (.ref l)) (hl : H l = some (.lst xs)) (hv : At tv σ H v) (hz : xs.length < 100000) (k : u D σ (upd H l (.lst (xs ++ [v])))) : tSeq (tDrop (tBM K "list" rAppend to (tCons tv tNil))) u D σ H :=
  ha _ ⟨.inl ⟨rfl, _, SqL.of hl⟩, hv _ ⟨l, xs, v, rfl, rfl, hl, zlt hz, k⟩⟩
theorem st_app (ha : At to σ H (.ref l)) (hl : H l = some (.lst xs)) (hv : At tv σ H v) (hz : xs.length < 100000) (k : D.nx σ (upd H l (.lst (xs ++ [v])))) : tDrop (tBM K "list" rAppend to (tCons tv tNil)) D σ H :=
  ha _ ⟨.inl ⟨rfl, _, SqL.of hl⟩, hv _ ⟨l, xs, v, rfl, rfl, hl, zlt hz, k⟩⟩
end
theorem setF_int {F : Nat → Int} {b : Nat} {x : Int} : (setF (fun n => V.int (F n)) b (.int x)) = fun n => V.int (setF F b x n) := by
  funext n
  unfold setF
  split <;> rfl
theorem setF_ref {F : Nat → Addr} {b : Nat} {x : Addr} : (setF (fun n => V.ref (F n)) b (.ref x)) = fun n => V.ref (setF F b x n) := by
  funext n
  unfold setF
  split <;> rfl
section
variable {K : PySem.W.Frag} {mg : Str → Option Value} {g : Nat → PyData} {H H' : Hp} {S : ShA} {G : Gs} {sn : List Nat}
theorem shF_p : shF S G.ns S.p := .inl rfl
theorem shF_k : shF S G.ns S.k := .inr (.inl rfl)
theorem shF_tg : shF S G.ns S.tg := .inr (.inr (.inl rfl))
theorem shF_a : shF S G.ns S.a := .inr (.inr (.inr (.inl rfl)))
theorem shF_f : shF S G.ns S.f := .inr (.inr (.inr (.inr (.inl rfl))))
theorem shF_s : shF S G.ns S.s := .inr (.inr (.inr (.inr (.inr (.inl rfl)))))
theorem shF_al {n : Nat} (h : n ∈ G.ns) : shF S G.ns (S.al n) := .inr (.inr (.inr (.inr (.inr (.inr ⟨n, h, rfl⟩)))))
/-- the foot is what stands, no tuple -/
theorem ShAt.some_ (A : ShAt K g H S G sn) {a : Addr} (h : shF S G.ns a) : ∃ o, H a = some o ∧ (∀ xs, o ≠ .tup xs) ∧ ∀ ps, o ≠ .tbl ps := by
  obtain ⟨dx, o⟩ := A.c.ob
  rcases h with h | h | h | h | h | h | ⟨n, hn, h⟩ <;> subst h
  · exact ⟨_, o, (fun _ z => by cases z), fun _ z => by cases z⟩
  · exact ⟨_, A.c.k, (fun _ z => by cases z), fun _ z => by cases z⟩
  · exact ⟨_, A.c.tg, (fun _ z => by cases z), fun _ z => by cases z⟩
  · exact ⟨_, A.c.a, (fun _ z => by cases z), fun _ z => by cases z⟩
  · exact ⟨_, A.c.f, (fun _ z => by cases z), fun _ z => by cases z⟩
  · exact ⟨_, A.s, (fun _ z => by cases z), fun _ z => by cases z⟩
  · exact ⟨_, A.al n hn, (fun _ z => by cases z), fun _ z => by cases z⟩
theorem ShAt.setH {h' : Nat → Int} (A : ShAt K g H S G sn) : ShAt K g (upd H S.f (.dK (dM G.ns fun n => .int (h' n)))) S { G with h := h' } sn :=
  have tk := A.c.tk (o := .dK (dM G.ns fun n => .int (h' n))) (.inr (.inr (.inr (.inr rfl))))
  have lk := A.c.lk (o := .dK (dM G.ns fun n => .int (h' n))) (.inr (.inr (.inr (.inr rfl))))
  ⟨A.c.uf, lk _ _ A.s, fun n hn => lk _ _ (A.al n hn), fun n hn => (A.kd n hn).mono tk _ _, fun n hn => (A.td n hn).mono tk _ _, A.sal, A.ali⟩
theorem ShAt.setAb {b : Nat} {bs : List Nat} (A : ShAt K g H S G sn) (hb : b ∈ G.ns) : ShAt K g (upd H (S.al b) (.lst (bs.map iV))) S { G with ab := setF G.ab b bs } sn := by
  have h := A.al b hb
  have tk : TK H (upd H (S.al b) (.lst (bs.map iV))) := TK.upd h fun _ z => by cases z
  refine ⟨A.c.ul h, by rw [upd_ne (A.sal b hb)]; exact A.s, fun n hn => ?_, fun n hn => (A.kd n hn).mono tk _ _, fun n hn => (A.td n hn).mono tk _ _, A.sal, A.ali⟩
  by_cases e : n = b
  · subst e
    rw [upd_same]
    show _ = some (HO.lst ((setF G.ab n bs n).map iV))
    rw [setF_same]
  · rw [upd_ne fun z => e (A.ali n hn b hb z)]
    show H (S.al n) = some (HO.lst ((setF G.ab b bs n).map iV))
    rw [setF_ne e]
    exact A.al n hn
theorem ShAt.setSn {sn' : List Nat} (A : ShAt K g H S G sn) : ShAt K g (upd H S.s (.lst (sn'.map iV))) S G sn' := by
  have tk : TK H (upd H S.s (.lst (sn'.map iV))) := TK.upd A.s fun _ z => by cases z
  exact ⟨A.c.ul A.s, upd_same, fun n hn => by rw [upd_ne (A.sal n hn).symm]; exact A.al n hn, fun n hn => (A.kd n hn).mono tk _ _, fun n hn => (A.td n hn).mono tk _ _, A.sal, A.ali⟩
theorem ShTo.of {G' : Gs} {sn' : List Nat} (A : ShAt K g H' S G' sn') (e : G'.ns = G.ns) (fr : Fr (shF S G.ns) H H') : ShTo K g H S G H' S G' sn' := ⟨A, rfl, fr, fun a h => .inl (by rw [e] at h; exact h)⟩
end
/-! ### hold, hand_over, look, forget -/
def holdG (G : Gs) (n : Nat) (d : Int) : Gs := { G with h := setF G.h n (G.h n + d) }
def hand1 (m : Nat) (G : Gs) (b : Nat) : Gs := { G with h := setF G.h b (G.h b - 1), ab := setF G.ab b (G.ab b ++ [m]) }
def handO (G : Gs) (bs : List Nat) (m : Nat) : Gs := bs.foldl (hand1 m) G
theorem handO_ns (m : Nat) : ∀ (bs : List Nat) (G : Gs), (handO G bs m).ns = G.ns
  | [], _ => rfl
  | b :: r, G => handO_ns m r (hand1 m G b)
theorem handO_snoc (G : Gs) (bs : List Nat) (b m : Nat) : handO G (bs ++ [b]) m = hand1 m (handO G bs m) b := by
  unfold handO
  rw [List.foldl_append]
  rfl
def spHold (K : PySem.W.Frag) : Sp := fun vs H Q _ => ∃ g S G sn n, vs = [.ref S.p, iV n] ∧ ShAt K g H S G sn ∧ n ∈ G.ns ∧ G.ns.length ≤ 1000 ∧ ∀ H', ShTo K g H S G H' S (holdG G n 1) sn → Q .non H'
def spHandOver (K : PySem.W.Frag) : Sp := fun vs H Q _ => ∃ g S G sn wl bs m, vs = [.ref S.p, .ref wl, iV m] ∧ ShAt K g H S G sn ∧ H wl = some (.lst (bs.map iV)) ∧ ¬ shF S G.ns wl ∧ (∀ b ∈ bs, b ∈ G.ns) ∧ G.ns.length ≤ 1000 ∧ (∀ n ∈ G.ns, (G.ab n).length + bs.length ≤ 50000) ∧
  ∀ H', ShTo K g H S G H' S (handO G bs m) sn → Q .non H'
def spNeedHeld0 : Sp := fun vs H Q _ => ∃ p wl, vs = [.ref p, .ref wl] ∧ H wl = some (.lst []) ∧ Q .non H
def spLook (K : PySem.W.Frag) : Sp := fun vs H Q _ => ∃ g S G sn n, vs = [.ref S.p, iV n] ∧ ShAt K g H S G sn ∧ n ∈ G.ns ∧ sn.length ≤ 1000 ∧
  ∀ H' q wl xs, ShTo K g H S G H' S G (sn ++ [n]) → H q = none → H wl = none → H' q = some (.tup [.str (kindS (G.t n)), .ref wl]) → H' wl = some (.lst xs) → TpA H' xs (whatD g (G.t n)) → Q (.ref q) H'
def spForget (K : PySem.W.Frag) : Sp := fun vs H Q _ => ∃ g S G sn, vs = [.ref S.p] ∧ ShAt K g H S G sn ∧ ∀ H' q, ShTo K g H S G H' { S with s := q } G [] → Q .non H'
section
variable {P : Program} {w : World} {K : PySem.W.Frag} {mg : Str → Option Value} {base : Heap}
theorem sc_hold : FnScope ["self", "number"] ["self", "number"] (defScope (shm 7)) := ⟨rfl, rfl, rfl, by decide +kernel, rfl, by decide +kernel, by decide +kernel⟩
theorem ok_hold (T : TX K mg) (F : Fd K "hold" "Shelf.hold" (shm 7) (ma K (ga K "Shelf") "hold")) (G_need : OkM P w K mg base CX0 (ga K "Shelf") "need" 1 (ma K (ga K "Shelf") "need") ["self", "number"] (spNeed0 K)) : OkF P w K mg base CX0 2 (ma K (ga K "Shelf") "hold") ["self", "number"] (spHold K) := by
  refine mkOk F sc_hold (fun vs H Q E h => ?_) (fun _ _ _ _ _ _ us hl => match us, hl with | [_, _], _ => rfl) (fun cdv A outer s H vs Q E hr h => ?_)
  · obtain ⟨g, S, G, sn, n, rfl, _⟩ := h
    rfl
  · obtain ⟨g, S, G, sn, n, rfl, A0, hn, hz, k⟩ := h
    have hu := hu_of hr
    have nd := sc_hold.nd
    refine ⟨_, (pss_cons (ps_expr (pe_m (pv 0) T.cl G_need (hr.mono (by decide)) (pa_cons (pv 1) pa_nil)))
      (pss_one (ps_dput hu (pe_fld (pv 0) rfl) (pv 1) (pe_op op_add (pe_dget hu (pe_fld (pv 0) rfl) (pv 1) (fun _ _ => rfl)) pe_int) rfl))), ?_⟩
    obtain ⟨dx, ob⟩ := A0.c.ob
    refine sq_drop (at_meth (at_var rfl) ob rfl (ata_cons (at_var rfl) ata_nil) fun Q q => ⟨g, S, G, sn, n, rfl, A0, hn, q⟩) ?_
    refine st_dput (at_I0 (at_dget (A0.c.freely T (at_var rfl)) (at_var rfl) (A0.dgf hn)) at_c rfl) (A0.c.freely T (at_var rfl)) (at_var rfl) (dput_old A0.c.f hn hz) (k _ (ShTo.of ?_ rfl (Fr.upd shF_f)))
    rw [setF_int]
    exact A0.setH
theorem sc_hand_over : FnScope ["self", "branches", "number", "branch"] ["self", "branches", "number"] (defScope (shm 6)) := ⟨rfl, rfl, rfl, by decide +kernel, rfl, by decide +kernel, by decide +kernel⟩
theorem ok_hand_over (T : TX K mg) (F : Fd K "hand_over" "Shelf.hand_over" (shm 6) (ma K (ga K "Shelf") "hand_over")) : OkF P w K mg base CX0 1 (ma K (ga K "Shelf") "hand_over") ["self", "branches", "number"] (spHandOver K) := by
  refine mkOk F sc_hand_over (fun vs H Q E h => ?_) (fun _ _ _ _ _ _ us hl => match us, hl with | [_, _, _], _ => rfl) (fun cdv A outer s H vs Q E hr h => ?_)
  · obtain ⟨g, S, G, sn, wl, bs, m, rfl, _⟩ := h
    rfl
  · obtain ⟨g, S, G, sn, wl, bs, m, rfl, A0, hw, nf, hbs, hz, hab, k⟩ := h
    have hu := hu_of hr
    have nd := sc_hand_over.nd
    refine ⟨_, (pss_one (ps_for PassesOwn.never rfl (pi_list (pv 1)) (pg_name (i := 3) nd rfl (by first | exact Or.inl rfl | exact Or.inr rfl)) (pss_cons (ps_dput hu (pe_fld (pv 0) rfl) (pv 3) (pe_op op_sub (pe_dget hu (pe_fld (pv 0) rfl) (pv 3) (fun _ _ => rfl)) pe_int) rfl)
      (pss_one (ps_expr (pe_bm PySem.F.plainAttrs_list PySem.F.slot_list_append PySem.F.type_list_append (mt_append) (pe_dget hu (pe_fld (pv 0) rfl) (pv 3) (fun _ _ => rfl)) (pa_cons (pv 2) pa_nil))))))), ?_⟩
    refine st_forL (at_var rfl) hw (fun i σ' H' => (∃ x, σ' = [some (.ref S.p), some (.ref wl), some (iV m), x]) ∧ ShAt K g H' S (handO G (bs.take i) m) sn ∧ Fr (shF S G.ns) H H' ∧ ∀ n ∈ G.ns, ((handO G (bs.take i) m).ab n).length ≤ (G.ab n).length + i) ⟨⟨_, rfl⟩, A0, Fr.refl _ _, fun n hn => Nat.le_refl _⟩ (fun i σ' H' I => I.2.2.1 _ _ hw nf) (fun i x σ' H' hx I => ?_) fun σ' H' I => ?_
    · obtain ⟨⟨x0, rfl⟩, A1, f1, hl⟩ := I
      rw [List.getElem?_map] at hx
      cases hb : bs[i]? with
      | none =>
        rw [hb] at hx
        cases hx
      | some b =>
        rw [hb] at hx
        cases hx
        have hbn : b ∈ G.ns := hbs b (List.mem_of_getElem? hb)
        have hbn1 : b ∈ (handO G (bs.take i) m).ns := by rw [handO_ns]; exact hbn
        have hi : i < bs.length := (List.getElem?_eq_some_iff.mp hb).1
        have z1 : (handO G (bs.take i) m).ns.length ≤ 1000 := by rw [handO_ns]; exact hz
        have el := hl b hbn
        have ez := hab b hbn
        have ns1 : (handO G (bs.take i) m).ns = G.ns := handO_ns m _ _
        refine sq_dput (at_I0 (at_dget (A1.c.freely T (at_var rfl)) (at_var rfl) (A1.dgf hbn1)) at_c rfl) (A1.c.freely T (at_var rfl)) (at_var rfl) (dput_old A1.c.f hbn1 z1) ?_
        have A2 := A1.setH (h' := setF (handO G (bs.take i) m).h b ((handO G (bs.take i) m).h b - 1))
        rw [← setF_int] at A2
        refine st_app (at_dget (A2.c.above T (at_var rfl)) (at_var rfl) (A2.dga hbn1)) (A2.al b hbn1) (at_var rfl) (by rw [List.length_map]; show ((handO G (bs.take i) m).ab b).length < _; omega) ?_
        have A3 := A2.setAb (b := b) (bs := (handO G (bs.take i) m).ab b ++ [m]) hbn1
        have et : bs.take (i + 1) = bs.take i ++ [b] := by
          rw [List.take_add_one, hb]
          rfl
        refine ⟨⟨_, rfl⟩, ?_, ?_, fun n hn => ?_⟩
        · rw [et, handO_snoc]
          rw [List.map_append] at A3
          exact A3
        · refine f1.trans ((Fr.upd ?_).trans (Fr.upd ?_))
          · exact shF_f (G := G)
          · exact shF_al (G := G) hbn
        · rw [et, handO_snoc]
          show (setF (handO G (bs.take i) m).ab b ((handO G (bs.take i) m).ab b ++ [m]) n).length ≤ _
          have q := hl n hn
          by_cases e : n = b
          · subst e
            rw [setF_same, List.length_append]
            show _ + 1 ≤ _
            omega
          · rw [setF_ne e]
            omega
    · obtain ⟨_, A1, f1, _⟩ := I
      rw [List.length_map, List.take_length] at A1
      exact k H' (ShTo.of A1 (handO_ns m _ _) f1)
theorem sc_need_held : FnScope ["self", "branches", "branch"] ["self", "branches"] (defScope (shm 5)) := ⟨rfl, rfl, rfl, by decide +kernel, rfl, by decide +kernel, by decide +kernel⟩
theorem ok_need_held0 (T : TX K mg) (F : Fd K "need_held" "Shelf.need_held" (shm 5) (ma K (ga K "Shelf") "need_held")) : OkF P w K mg base CX0 1 (ma K (ga K "Shelf") "need_held") ["self", "branches"] spNeedHeld0 := by
  refine mkOk F sc_need_held (fun vs H Q E h => ?_) (fun _ _ _ _ _ _ us hl => match us, hl with | [_, _], _ => rfl) (fun cdv A outer s H vs Q E hr h => ?_)
  · obtain ⟨p, wl, rfl, _⟩ := h
    rfl
  · obtain ⟨p, wl, rfl, hw, k⟩ := h
    have hu := hu_of hr
    have nd := sc_need_held.nd
    refine ⟨_, (pss_one (ps_for PassesOwn.never rfl (pi_list (pv 1)) (pg_name (i := 2) nd rfl (by first | exact Or.inl rfl | exact Or.inr rfl)) (pss_one (ps_if (pt_cmpR op_eq (pe_dget hu (pe_fld (pv 0) rfl) (pv 2) (fun _ _ => rfl)) pe_int (nomark _)) (pss_one ps_never) pss_nil)))), ?_⟩
    exact st_forL (at_var rfl) hw (fun i σ' H' => H' = H) rfl (fun i σ' H' I => by rw [I]; exact hw) (fun i x σ' H' hx I => by simp at hx) fun σ' H' I => by subst I; exact k
theorem sc_look : FnScope ["self", "number", "kind", "what"] ["self", "number"] (defScope (shm 18)) := ⟨rfl, rfl, rfl, by decide +kernel, rfl, by decide +kernel, by decide +kernel⟩
theorem ok_look (T : TX K mg) (F : Fd K "look" "Shelf.look" (shm 18) (ma K (ga K "Shelf") "look")) (G_need : OkM P w K mg base CX0 (ga K "Shelf") "need" 1 (ma K (ga K "Shelf") "need") ["self", "number"] (spNeed0 K)) : OkF P w K mg base CX0 2 (ma K (ga K "Shelf") "look") ["self", "number"] (spLook K) := by
  refine mkOk F sc_look (fun vs H Q E h => ?_) (fun _ _ _ _ _ _ us hl => match us, hl with | [_, _], _ => rfl) (fun cdv A outer s H vs Q E hr h => ?_)
  · obtain ⟨g, S, G, sn, n, rfl, _⟩ := h
    rfl
  · obtain ⟨g, S, G, sn, n, rfl, A0, hn, hz, k⟩ := h
    have hu := hu_of hr
    have nd := sc_look.nd
    refine ⟨_, (pss_cons (ps_expr (pe_m (pv 0) T.cl G_need (hr.mono (by decide)) (pa_cons (pv 1) pa_nil)))
      (pss_cons (ps_expr (pe_bm PySem.F.plainAttrs_list PySem.F.slot_list_append PySem.F.type_list_append (mt_append) (pe_fld (pv 0) rfl) (pa_cons (pv 1) pa_nil)))
      (pss_cons (ps_asg (pe_dget hu (pe_fld (pv 0) rfl) (pv 1) (fun _ _ => rfl)) (pg_tup rfl (pgs_cons (pg_name (i := 2) nd rfl (by first | exact Or.inl rfl | exact Or.inr rfl)) (pgs_cons (pg_name (i := 3) nd rfl (by first | exact Or.inl rfl | exact Or.inr rfl)) pgs_nil))))
      (pss_one (ps_ret (pe_tup (pa_cons (pv 2) (pa_cons (pe_callTy (call_list_of) rfl T.f_list bt_list (pa_cons (pv 3) pa_nil)) pa_nil)))))))), ?_⟩
    obtain ⟨dx, ob⟩ := A0.c.ob
    refine sq_drop (at_meth (at_var rfl) ob rfl (ata_cons (at_var rfl) ata_nil) fun Q q => ⟨g, S, G, sn, n, rfl, A0, hn, q⟩) ?_
    refine sq_app (A0.c.seen T (at_var rfl)) A0.s (at_var rfl) (by rw [List.length_map]; omega) ?_
    have A1 := A0.setSn (sn' := sn ++ [n])
    rw [List.map_append] at A1
    obtain ⟨tp, xs, e1, ht, hx⟩ := (A1.kd n hn).tup_inv
    cases hx with
    | cons h1 h2 =>
      cases h2 with
      | cons h2 h3 =>
        cases h3
        cases h1
        obtain ⟨wt, ys, rfl, hwt, hys⟩ := h2.tup_inv
        refine sq_asg (at_is (at_dget (A1.c.kept T (at_var rfl)) (at_var rfl) (A1.dgk hn)) e1 _ (gPair (σ := [some (.ref S.p), some (iV n), none, none]) (i1 := 2) (i2 := 3) ht ?_))
        have sA : ShTo K g H S G (upd H S.s (.lst (sn.map iV ++ [n].map iV))) S G (sn ++ [n]) := ShTo.of A1 rfl (Fr.upd shF_s)
        refine ⟨_, rfl, _, rfl, wt, ys, rfl, .inr (SqT.of hwt), fun l hl => ⟨z2, fun q hq => ?_⟩⟩
        have s1 := same_new (o := .lst ys) hl
        have s2 := same_new (o := .tup [.str (kindS (G.t n)), .ref l]) hq
        refine k _ q l ys ⟨A1.same (s1.trans s2), rfl, sA.fr.trans (Fr.same (s1.trans s2)), sA.ft⟩ (upd_none (upd_none hq).2).2 (upd_none hl).2 upd_same (s2 _ _ upd_same) (hys.sm (s1.trans s2))
theorem sc_forget : FnScope ["self"] ["self"] (defScope (shm 21)) := ⟨rfl, rfl, rfl, by decide +kernel, rfl, by decide +kernel, by decide +kernel⟩
theorem ok_forget (T : TX K mg) (F : Fd K "forget" "Shelf.forget" (shm 21) (ma K (ga K "Shelf") "forget")) : OkF P w K mg base CX0 1 (ma K (ga K "Shelf") "forget") ["self"] (spForget K) := by
  refine mkOk F sc_forget (fun vs H Q E h => ?_) (fun _ _ _ _ _ _ us hl => match us, hl with | [_], _ => rfl) (fun cdv A outer s H vs Q E hr h => ?_)
  · obtain ⟨g, S, G, sn, rfl, _⟩ := h
    rfl
  · obtain ⟨g, S, G, sn, rfl, A0, k⟩ := h
    have hu := hu_of hr
    have nd := sc_forget.nd
    refine ⟨_, (pss_one (ps_fld (pv 0) (pe_lst pa_nil) rfl)), ?_⟩
    refine st_fd ⟨z0, fun q hq => ?_⟩
    have sm := same_new (o := .lst []) hq
    have A1 := A0.same sm
    obtain ⟨dx, ob⟩ := A1.c.ob
    obtain ⟨h1, h2, h3, h4⟩ := A1.c.pne
    have tk := A1.c.tk (o := .ins (ga K "Shelf") dx (flds { S with s := q } G.nx)) (.inl rfl)
    have lk := A1.c.lk (o := .ins (ga K "Shelf") dx (flds { S with s := q } G.nx)) (.inl rfl)
    refine fdk (at_var rfl) ob T.cl T.n_seen (Nat.lt_of_lt_of_le (show 6 < 7 by decide) (by decide)) (k _ q ⟨⟨⟨⟨dx, upd_same⟩, by rw [upd_ne h1]; exact A1.c.k, by rw [upd_ne h2]; exact A1.c.tg, by rw [upd_ne h3]; exact A1.c.a, by rw [upd_ne h4]; exact A1.c.f, A1.c.kt, A1.c.ka, A1.c.kf, A1.c.ta, A1.c.tf, A1.c.af⟩,
      lk _ _ upd_same, fun n hn => lk _ _ (A1.al n hn), fun n hn => (A1.kd n hn).mono tk _ _, fun n hn => (A1.td n hn).mono tk _ _, fun n hn z => ne_of_none (A0.al n hn) hq z.symm, A1.ali⟩, rfl, (Fr.same sm).trans (Fr.upd shF_p), fun a ha => ?_⟩)
    rcases ha with h | h | h | h | h | h | h
    · exact .inl (.inl h)
    · exact .inl (.inr (.inl h))
    · exact .inl (.inr (.inr (.inl h)))
    · exact .inl (.inr (.inr (.inr (.inl h))))
    · exact .inl (.inr (.inr (.inr (.inr (.inl h)))))
    · exact .inr (by rw [show a = q from h]; exact hq)
    · exact .inl (.inr (.inr (.inr (.inr (.inr (.inr h))))))
end
end Tw

set_option Elab.async false
set_option linter.all false
set_option maxRecDepth 100000
set_option maxHeartbeats 4000000
/-! A new twig; rows and labels of leaves; who is alone. -/
namespace Tw
open PySem PySem.Spec PyProof.Rows L2
open He (ga ma)
/-! ### the grid -/
structure GoodD (d : PyData) : Prop where
  k : okD 3 d = true
  s : ∀ n, okS (n + 1) d = true
  f : ∀ n, few n d = true
structure GridOk (g : Nat → PyData) : Prop where
  d : ∀ i, i < 64 → GoodD (g i)
  lt : ∀ i j, i < 64 → j < 64 → ltK (g i) (g j) = decide (i < j)
theorem few_tup {n : Nat} {ds : List PyData} (hl : ds.length ≤ 100) (h : ∀ d ∈ ds, ∀ n, few n d = true) : few n (.tuple ds) = true := by
  cases n with
  | zero => rfl
  | succ n => simp [few, hl]; exact fun d hd => h d hd n
/-! ### a new twig -/
def addT (G : Gs) (t : Twg) (l : Lb) : Gs := { ns := G.ns ++ [G.nx], t := setF G.t G.nx t, h := setF G.h G.nx 1, l := setF G.l G.nx l, ab := setF G.ab G.nx [], nx := G.nx + 1 }
def spSetDown (K : PySem.W.Frag) : Sp := fun vs H Q _ => ∃ g S G sn t l w xs tv, vs = [.ref S.p, .str (kindS t), .ref w, tv] ∧ ShAt K g H S G sn ∧ H w = some (.lst xs) ∧ TpA H xs (whatD g t) ∧ Tp H tv (labD g l) ∧ (∀ n ∈ G.ns, n < G.nx) ∧ G.ns.length ≤ 1000 ∧
  ∀ S' H', ShTo K g H S G H' S' (addT G t l) sn → Q (iV G.nx) H'
section
variable {P : Program} {w : World} {K : PySem.W.Frag} {mg : Str → Option Value} {base : Heap}
theorem sc_set_down : FnScope ["self", "kind", "what", "tag", "number"] ["self", "kind", "what", "tag"] (defScope (shm 2)) := ⟨rfl, rfl, rfl, by decide +kernel, rfl, by decide +kernel, by decide +kernel⟩
theorem ok_set_down (T : TX K mg) (F : Fd K "set_down" "Shelf.set_down" (shm 2) (ma K (ga K "Shelf") "set_down")) : OkF P w K mg base CX0 1 (ma K (ga K "Shelf") "set_down") ["self", "kind", "what", "tag"] (spSetDown K) := by
  refine mkOk F sc_set_down (fun vs H Q E h => ?_) (fun _ _ _ _ _ _ us hl => match us, hl with | [_, _, _, _], _ => rfl) (fun cdv A outer s H vs Q E hr h => ?_)
  · obtain ⟨g, S, G, sn, t, l, w, xs, tv, rfl, _⟩ := h
    rfl
  · obtain ⟨g, S, G, sn, t, l, wl, xs, tv, rfl, A0, hw, hx, htv, hlt, hz, k⟩ := h
    have hu := hu_of hr
    have nd := sc_set_down.nd
    refine ⟨_, (pss_cons (ps_set (i := 4) nd rfl (by first | exact Or.inl rfl | exact Or.inr rfl) (pe_fld (pv 0) rfl))
      (pss_cons (ps_fld (pv 0) (pe_op op_add (pe_fld (pv 0) rfl) pe_int) rfl)
      (pss_cons (ps_dput hu (pe_fld (pv 0) rfl) (pv 4) (pe_tup (pa_cons (pv 1) (pa_cons (pe_callTy (call_tuple_of) rfl T.f_tuple bt_tuple (pa_cons (pv 2) pa_nil)) pa_nil))) rfl)
      (pss_cons (ps_dput hu (pe_fld (pv 0) rfl) (pv 4) (pv 3) rfl)
      (pss_cons (ps_dput hu (pe_fld (pv 0) rfl) (pv 4) (pe_lst pa_nil) rfl)
      (pss_cons (ps_dput hu (pe_fld (pv 0) rfl) (pv 4) pe_int rfl)
      (pss_one (ps_ret (pv 4))))))))), ?_⟩
    have nx : G.nx ∉ G.ns := fun q => Nat.lt_irrefl _ (hlt _ q)
    refine sq_set (A0.c.given T (at_var rfl)) ?_
    obtain ⟨dx, ob⟩ := A0.c.ob
    refine sq_fld (at_I0 (A0.c.given T (at_var rfl)) at_c rfl) (at_var rfl) ob T.cl T.n_given (Nat.lt_of_lt_of_le (show 6 < 7 by decide) (by decide)) ?_
    have c1 := A0.c.up (dx := dx) (m := G.nx + 1)
    have k1 := A0.c.tk (o := .ins (ga K "Shelf") dx (flds S (G.nx + 1))) (.inl rfl)
    have j1 := A0.c.lk (o := .ins (ga K "Shelf") dx (flds S (G.nx + 1))) (.inl rfl)
    refine sq_dp ⟨_, rfl, _, rfl, wl, xs, rfl, .inl ⟨SqL.of (j1 _ _ hw), fun q1 n1 => ⟨z2, fun q2 n2 => ?_⟩⟩⟩
    have s2 := (same_new (o := .tup xs) n1).trans (same_new (o := .tup [.str (kindS t), .ref q1]) n2)
    have c2 := c1.same s2
    have hkt : Tp (upd (upd (upd H S.p (.ins (ga K "Shelf") dx (flds S (G.nx + 1)))) q1 (.tup xs)) q2 (.tup [.str (kindS t), .ref q1])) (.ref q2) (keptD g t) := Tp.mk n2 (.cons (.str _) (.cons (Tp.mk n1 (hx.mono k1 _ _)) .nil))
    refine dpk (c2.kept T (at_var rfl)) (at_var rfl) (dput_new c2.k nx hz) ?_
    have c3 := c2.uk (d := dM (G.ns ++ [G.nx]) (setF S.kv G.nx (.ref q2)))
    have k3 := c2.tk (o := .dK (dM (G.ns ++ [G.nx]) (setF S.kv G.nx (.ref q2)))) (.inr (.inl rfl))
    have j3 := c2.lk (o := .dK (dM (G.ns ++ [G.nx]) (setF S.kv G.nx (.ref q2)))) (.inr (.inl rfl))
    refine sq_dput (at_var rfl) (c3.tags T (at_var rfl)) (at_var rfl) (dput_new c3.tg nx hz) ?_
    have c4 := c3.ut (d := dM (G.ns ++ [G.nx]) (setF S.tv G.nx tv))
    have k4 := c3.tk (o := .dK (dM (G.ns ++ [G.nx]) (setF S.tv G.nx tv))) (.inr (.inr (.inl rfl)))
    have j4 := c3.lk (o := .dK (dM (G.ns ++ [G.nx]) (setF S.tv G.nx tv))) (.inr (.inr (.inl rfl)))
    refine sq_dp ⟨z0, fun q3 n3 => ?_⟩
    have s5 := same_new (o := .lst []) n3
    have c5 := c4.same s5
    refine dpk (c5.above T (at_var rfl)) (at_var rfl) (dput_new c5.a nx hz) ?_
    rw [setF_ref]
    have c6 := c5.ua (d := dM (G.ns ++ [G.nx]) fun n => .ref (setF S.al G.nx q3 n))
    have k6 := c5.tk (o := .dK (dM (G.ns ++ [G.nx]) fun n => .ref (setF S.al G.nx q3 n))) (.inr (.inr (.inr (.inl rfl))))
    have j6 := c5.lk (o := .dK (dM (G.ns ++ [G.nx]) fun n => .ref (setF S.al G.nx q3 n))) (.inr (.inr (.inr (.inl rfl))))
    refine sq_dput at_c (c6.freely T (at_var rfl)) (at_var rfl) (dput_new c6.f nx hz) ?_
    rw [setF_int]
    have c7 := c6.uf (d := dM (G.ns ++ [G.nx]) fun n => .int (setF G.h G.nx 1 n))
    have k7 := c6.tk (o := .dK (dM (G.ns ++ [G.nx]) fun n => .int (setF G.h G.nx 1 n))) (.inr (.inr (.inr (.inr rfl))))
    have j7 := c6.lk (o := .dK (dM (G.ns ++ [G.nx]) fun n => .int (setF G.h G.nx 1 n))) (.inr (.inr (.inr (.inr rfl))))
    have k37 := k3.trans (k4.trans ((TK.same s5).trans (k6.trans k7)))
    have kk := k1.trans ((TK.same s2).trans k37)
    have j24 := (LK.same s2).trans (j3.trans j4)
    have j57 := j6.trans j7
    have jj := j1.trans (j24.trans ((LK.same s5).trans j57))
    have n3' : H q3 = none := (upd_none (upd_none (upd_none (upd_none (upd_none n3).2).2).2).2).2
    refine st_ret (at_var rfl) (k ⟨S.p, S.k, S.tg, S.a, S.f, S.s, setF S.al G.nx q3, setF S.kv G.nx (.ref q2), setF S.tv G.nx tv⟩ _ ⟨⟨c7.re ⟨rfl, rfl, rfl, rfl, rfl, rfl⟩, jj _ _ A0.s, fun n hn => ?_, fun n hn => ?_, fun n hn => ?_, fun n hn => ?_, fun n hn m hm e => ?_⟩, rfl, ?_, fun a ha => ?_⟩)
    · rcases List.mem_append.mp hn with hn | hn
      · have e : n ≠ G.nx := fun z => nx (by rw [← z]; exact hn)
        show _ = some (HO.lst ((setF G.ab G.nx [] n).map iV))
        rw [setF_ne e]
        exact hp_eq (b := S.al n) (setF_ne e) (jj _ _ (A0.al n hn))
      · have e : n = G.nx := List.mem_singleton.mp hn
        subst e
        show _ = some (HO.lst ((setF G.ab G.nx [] G.nx).map iV))
        rw [setF_same]
        exact hp_eq (b := q3) setF_same (j57 _ _ upd_same)
    · rcases List.mem_append.mp hn with hn | hn
      · have e : n ≠ G.nx := fun z => nx (by rw [← z]; exact hn)
        show Tp _ (setF S.kv G.nx _ n) (keptD g (setF G.t G.nx t n))
        rw [setF_ne e, setF_ne e]
        exact (A0.kd n hn).mono kk _ _
      · have e : n = G.nx := List.mem_singleton.mp hn
        subst e
        show Tp _ (setF S.kv G.nx _ G.nx) (keptD g (setF G.t G.nx t G.nx))
        rw [setF_same, setF_same]
        exact hkt.mono k37 _ _
    · rcases List.mem_append.mp hn with hn | hn
      · have e : n ≠ G.nx := fun z => nx (by rw [← z]; exact hn)
        show Tp _ (setF S.tv G.nx _ n) (labD g (setF G.l G.nx l n))
        rw [setF_ne e, setF_ne e]
        exact (A0.td n hn).mono kk _ _
      · have e : n = G.nx := List.mem_singleton.mp hn
        subst e
        show Tp _ (setF S.tv G.nx _ G.nx) (labD g (setF G.l G.nx l G.nx))
        rw [setF_same, setF_same]
        exact htv.mono kk _ _
    · show S.s ≠ setF S.al G.nx q3 n
      rcases List.mem_append.mp hn with hn | hn
      · rw [setF_ne fun z => nx (by rw [← z]; exact hn)]
        exact A0.sal n hn
      · rw [List.mem_singleton.mp hn, setF_same]
        exact ne_of_none A0.s n3'
    · have e : setF S.al G.nx q3 n = setF S.al G.nx q3 m := e
      rcases List.mem_append.mp hn with hn | hn
      · rw [setF_ne fun z => nx (by rw [← z]; exact hn)] at e
        rcases List.mem_append.mp hm with hm | hm
        · rw [setF_ne fun z => nx (by rw [← z]; exact hm)] at e
          exact A0.ali n hn m hm e
        · rw [List.mem_singleton.mp hm, setF_same] at e
          exact absurd e (ne_of_none (A0.al n hn) n3')
      · rw [List.mem_singleton.mp hn, setF_same] at e
        rcases List.mem_append.mp hm with hm | hm
        · rw [setF_ne fun z => nx (by rw [← z]; exact hm)] at e
          exact absurd e.symm (ne_of_none (A0.al m hm) n3')
        · rw [List.mem_singleton.mp hn, List.mem_singleton.mp hm]
    · exact (Fr.upd shF_p).trans ((Fr.same s2).trans ((Fr.upd shF_k).trans ((Fr.upd shF_tg).trans ((Fr.same s5).trans ((Fr.upd shF_a).trans (Fr.upd shF_f))))))
    · rcases ha with h | h | h | h | h | h | ⟨n, hn, h⟩
      · exact .inl (h ▸ shF_p)
      · exact .inl (h ▸ shF_k)
      · exact .inl (h ▸ shF_tg)
      · exact .inl (h ▸ shF_a)
      · exact .inl (h ▸ shF_f)
      · exact .inl (h ▸ shF_s)
      · have h : a = setF S.al G.nx q3 n := h
        rcases List.mem_append.mp hn with hn | hn
        · rw [setF_ne fun z => nx (by rw [← z]; exact hn)] at h
          exact .inl (h ▸ shF_al hn)
        · rw [List.mem_singleton.mp hn, setF_same] at h
          exact .inr (h ▸ n3')
end
/-! ### rows -/
structure RowsOk (rows : List (Nat × PyData)) : Prop where
  l1 : 1 ≤ rows.length
  l4 : rows.length ≤ 4
  k : ∀ r ∈ rows, r.1 < 64 ∧ GoodD r.2
  up : (rows.map (·.1)).Pairwise (· < ·)
def labR (rows : List (Nat × PyData)) : Lb := ⟨0, (rows.head?.map (·.1)).getD 0, (rows.getLast?.map (·.1)).getD 0, rows.length⟩
theorem row_at {g : Nat → PyData} {H : Hp} {xs : List V} {rows : List (Nat × PyData)} {i : Nat} {r : Nat × PyData} (h : TpA H xs (rows.map (rowD g))) (hi : rows[i]? = some r) : ∃ a k v, xs[i]? = some (.ref a) ∧ H a = some (.tup [k, v]) ∧ Tp H k (g r.1) ∧ Tp H v r.2 := by
  have hl := h.length
  rw [List.length_map] at hl
  have hi' : i < xs.length := by rw [hl]; exact (List.getElem?_eq_some_iff.mp hi).1
  have e : xs[i]? = some xs[i] := List.getElem?_eq_getElem hi'
  obtain ⟨d, hd, hx⟩ := h.get e
  rw [List.getElem?_map, hi] at hd
  cases hd
  obtain ⟨a, ys, ea, ha, hy⟩ := hx.tup_inv
  cases hy with
  | cons h1 h2 =>
    cases h2 with
    | cons h2 h3 =>
      cases h3
      exact ⟨a, _, _, by rw [e, ea], ha, h1, h2⟩
theorem atI_last {α : Type} {xs : List α} {v : α} (h : xs[xs.length - 1]? = some v) : atI xs (-1) = some v := by
  have hl := (List.getElem?_eq_some_iff.mp h).1
  unfold atI ixN
  rw [if_neg (by omega), if_pos (by omega)]
  have e : (-1 + (xs.length : Int)).toNat = xs.length - 1 := by omega
  show xs[(-1 + (xs.length : Int)).toNat]? = some v
  rw [e]
  exact h
def spLabelRows : Sp := fun vs H Q _ => ∃ g w xs rows, vs = [.ref w] ∧ H w = some (.lst xs) ∧ TpA H xs (rows.map (rowD g)) ∧ rows ≠ [] ∧ ∀ v H', Same H H' → Tp H' v (labD g (labR rows)) → Q v H'
def spCheckedRows : Sp := fun vs H Q _ => ∃ g w xs rows, vs = [.ref w] ∧ H w = some (.lst xs) ∧ TpA H xs (rows.map (rowD g)) ∧ RowsOk rows ∧ GridOk g ∧ ∀ q ys H', Same H H' → H q = none → H' q = some (.lst ys) → TpA H' ys (rows.map (rowD g)) → Q (.ref q) H'
section
variable {P : Program} {w : World} {K : PySem.W.Frag} {mg : Str → Option Value} {base : Heap}
theorem sc_label_of_rows : FnScope ["rows"] ["rows"] (defScope (top 23)) := ⟨rfl, rfl, rfl, by decide +kernel, rfl, by decide +kernel, by decide +kernel⟩
theorem ok_label_of_rows (T : TX K mg) (F : Fd K "label_of_rows" "label_of_rows" (top 23) (ga K "label_of_rows")) : OkF P w K mg base CX0 1 (ga K "label_of_rows") ["rows"] spLabelRows := by
  refine mkOk F sc_label_of_rows (fun vs H Q E h => ?_) (fun _ _ _ _ _ _ us hl => match us, hl with | [_], _ => rfl) (fun cdv A outer s H vs Q E hr h => ?_)
  · obtain ⟨g, w, xs, rows, rfl, _⟩ := h
    rfl
  · obtain ⟨g, wl, xs, rows, rfl, hw, hx, hne, k⟩ := h
    have nd := sc_label_of_rows.nd
    refine ⟨_, (pss_one (ps_ret (pe_tup (pa_cons pe_int (pa_cons (pe_ix ix_tup (pe_ix ix_list (pv 0) pe_int (fun _ _ => rfl)) pe_int (fun _ _ => rfl)) (pa_cons (pe_ix ix_tup (pe_ix ix_list (pv 0) (pe_un un_neg pe_int) (fun _ _ => rfl)) pe_int (fun _ _ => rfl)) (pa_cons (pe_callB (call_len_seq) rfl T.f_len bt_len (pa_cons (pv 0) pa_nil)) pa_nil))))))), ?_⟩
    have hl := hx.length
    rw [List.length_map] at hl
    have h0 : 0 < rows.length := List.length_pos_iff.mpr hne
    have e1 : rows[0]? = some rows[0] := List.getElem?_eq_getElem h0
    have e2 : rows[rows.length - 1]? = some rows[rows.length - 1] := List.getElem?_eq_getElem (by omega)
    obtain ⟨a1, k1, v1, x1, y1, t1, u1⟩ := row_at hx e1
    obtain ⟨a2, k2, v2, x2, y2, t2, u2⟩ := row_at hx e2
    refine rt_ (tup_ (vs := [.int 0, k1, k2, .int (xs.length : Int)]) (ata_cons at_c (ata_cons (at_ixT (at_ixL (at_var rfl) at_c hw (atI_nat (j := 0) x1)) at_c y1 (atI_nat (j := 0) (by rfl)))
      (ata_cons (at_ixT (at_ixL (at_var rfl) (at_U at_c rfl) hw (atI_last (by rw [hl]; exact x2))) at_c y2 (atI_nat (j := 0) (by rfl))) (ata_cons (at_lenL (ata_cons (at_var rfl) ata_nil) hw) ata_nil)))) z4 fun p hp => k _ _ (same_new hp) ?_)
    have el : labD g (labR rows) = .tuple [.int 0, g (rows[0]).1, g (rows[rows.length - 1]).1, .int (xs.length : Int)] := by
      unfold labD labR
      rw [List.head?_eq_getElem?, e1, List.getLast?_eq_getElem?, e2, hl]
      rfl
    rw [el]
    exact Tp.mk hp (.cons (.int 0) (.cons t1 (.cons t2 (.cons (.int _) .nil))))
end
end Tw

set_option Elab.async false
set_option linter.all false
set_option maxRecDepth 100000
set_option maxHeartbeats 4000000
/-! Rows are checked; a leaf is put; who is alone. -/
namespace Tw
open PySem PySem.Spec PyProof.Rows L2
open He (ga ma)
section
variable {K : PySem.W.Frag} {σ : L2.St} {H : Hp} {tl : TE} {D : Ends} {u tbd : TS} {a : Addr} {xs : List V} {g : TG}
theorem sq_forLg (ha : At tl σ H (.ref a)) (hx : H a = some (.lst xs)) (Pv : Nat → L2.St → Hp → Prop) (h0 : Pv 0 σ H) (hl : ∀ i σ' H', Pv i σ' H' → H' a = some (.lst xs))
    (hs : ∀ i x σ' H', xs[i]? = some x → Pv i σ' H' → g x σ' H' fun σ2 H2 => tbd ⟨Pv (i + 1), D.rt, u D, Pv (i + 1)⟩ σ2 H2) (hd : ∀ σ' H', Pv xs.length σ' H' → u D σ' H') : tSeq (tFor (iList K tl) g tbd) u D σ H :=
  ha _ ⟨a, rfl, ⟨xs, SqL.of hx⟩, for_list (D := { D with nx := u D }) (xs := xs) Pv h0 (fun i σ' H' _ p => SqL.of (hl i σ' H' p)) hs hd⟩
theorem st_appW {to tv : TE} {l : Addr} (ha : At to σ H (.ref l)) (hl : H l = some (.lst xs)) (h : tv σ H fun v H1 => rAppend (.ref l) [v] H1 fun _ H2 => D.nx σ H2) : tDrop (tBM K "list" rAppend to (tCons tv tNil)) D σ H :=
  ha _ ⟨.inl ⟨rfl, _, SqL.of hl⟩, h⟩
theorem ShTo.pre {g : Nat → PyData} {H1 H' : Hp} {S S' : ShA} {G G' : Gs} {sn' : List Nat} (s : Same H H1) (h : ShTo K g H1 S G H' S' G' sn') : ShTo K g H S G H' S' G' sn' :=
  ⟨h.at_, h.p, (Fr.same s).trans h.fr, fun a ha => (h.ft a ha).imp id fun e => s.free e⟩
theorem ShTo.post {g : Nat → PyData} {H1 H' : Hp} {S S' : ShA} {G G' : Gs} {sn' : List Nat} (h : ShTo K g H S G H1 S' G' sn') (s : Same H1 H') : ShTo K g H S G H' S' G' sn' :=
  ⟨h.at_.same s, h.p, h.fr.trans (Fr.same s), h.ft⟩
end
section
variable {P : Program} {w : World} {K : PySem.W.Frag} {mg : Str → Option Value} {base : Heap}
theorem sc_checked_rows : FnScope ["rows", "found", "k", "key", "value"] ["rows"] (defScope (top 22)) := ⟨rfl, rfl, rfl, by decide +kernel, rfl, by decide +kernel, by decide +kernel⟩
theorem ok_checked_rows (T : TX K mg) (F : Fd K "checked_rows" "checked_rows" (top 22) (ga K "checked_rows")) (G_checked : OkF P w K mg base CX0 7 (ga K "checked") ["thing"] spChecked) (G_ahead : OkF P w K mg base CX0 5 (ga K "ahead") ["one", "other"] spAhead) :
    OkF P w K mg base CX0 8 (ga K "checked_rows") ["rows"] spCheckedRows := by
  refine mkOk F sc_checked_rows (fun vs H Q E h => ?_) (fun _ _ _ _ _ _ us hl => match us, hl with | [_], _ => rfl) (fun cdv A outer s H vs Q E hr h => ?_)
  · obtain ⟨g, w, xs, rows, rfl, _⟩ := h
    rfl
  · obtain ⟨g, wl, xs, rows, rfl, hw, hx, RO, GO, k⟩ := h
    have nd := sc_checked_rows.nd
    obtain ⟨t, c_MOST⟩ := T.c_MOST
    refine ⟨_, (pss_cons (ps_set (i := 1) nd rfl (by first | exact Or.inl rfl | exact Or.inr rfl) (pe_lst pa_nil))
      (pss_cons (ps_for PassesOwn.never rfl (pi_list (pv 0)) (pg_tup rfl (pgs_cons (pg_name (i := 3) nd rfl (by first | exact Or.inl rfl | exact Or.inr rfl)) (pgs_cons (pg_name (i := 4) nd rfl (by first | exact Or.inl rfl | exact Or.inr rfl)) pgs_nil))) (pss_one (ps_expr (pe_bm PySem.F.plainAttrs_list PySem.F.slot_list_append PySem.F.type_list_append (mt_append) (pv 1) (pa_cons (pe_tup (pa_cons (pe_c G_checked (hr.mono (by decide)) rfl T.g_checked (pa_cons (pv 3) pa_nil)) (pa_cons (pe_c G_checked (hr.mono (by decide)) rfl T.g_checked (pa_cons (pv 4) pa_nil)) pa_nil))) pa_nil)))))
      (pss_cons (ps_if (PW.pt (pw_or (pt_cmpR op_lt (pe_callB (call_len_seq) rfl T.f_len bt_len (pa_cons (pv 1) pa_nil)) pe_int (nomark _)) (pw_or1 (pt_cmpR op_gt (pe_callB (call_len_seq) rfl T.f_len bt_len (pa_cons (pv 1) pa_nil)) (pe_glob rfl c_MOST (v := .int _) ⟨_, rfl⟩) (nomark _))))) (pss_one ps_never) pss_nil)
      (pss_cons (ps_for PassesOwn.never rfl (pi_range2 rfl T.f_range (pa_cons pe_int (pa_cons (pe_callB (call_len_seq) rfl T.f_len bt_len (pa_cons (pv 1) pa_nil)) pa_nil))) (pg_name (i := 2) nd rfl (by first | exact Or.inl rfl | exact Or.inr rfl)) (pss_one (ps_if (pt_not (pt_val (pe_c G_ahead (hr.mono (by decide)) rfl T.g_ahead (pa_cons (pe_ix ix_tup (pe_ix ix_list (pv 1) (pe_op op_sub (pv 2) pe_int) (fun _ _ => rfl)) pe_int (fun _ _ => rfl)) (pa_cons (pe_ix ix_tup (pe_ix ix_list (pv 1) (pv 2) (fun _ _ => rfl)) pe_int (fun _ _ => rfl)) pa_nil))))) (pss_one ps_never) pss_nil)))
      (pss_one (ps_ret (pv 1))))))), ?_⟩
    have hl := hx.length
    rw [List.length_map] at hl
    have l1 := RO.l1
    have l4 := RO.l4
    refine sq_as (lst_ ata_nil z0 fun q hq => ?_)
    have sq0 := same_new (o := .lst []) hq
    have hwq := sq0 _ _ hw
    refine sq_forLg (at_var rfl) hwq (fun i σ' H' => (∃ x2 x3 x4, σ' = [some (.ref wl), some (.ref q), x2, x3, x4]) ∧ Same H H' ∧ ∃ us, H' q = some (.lst us) ∧ TpA H' us ((rows.take i).map (rowD g))) ⟨⟨_, _, _, rfl⟩, sq0, [], upd_same, .nil⟩ (fun i σ' H' I => I.2.1 _ _ hw) (fun i x σ' H' hi I => ?_) fun σ' H' I => ?_
    · obtain ⟨⟨x2, x3, x4, rfl⟩, s1, us, hus, hd⟩ := I
      have hil : i < rows.length := by rw [← hl]; exact (List.getElem?_eq_some_iff.mp hi).1
      have er : rows[i]? = some rows[i] := List.getElem?_eq_getElem hil
      obtain ⟨a, kv, vv, e1, e2, e3, e4⟩ := row_at (hx.sm s1) er
      rw [hi] at e1
      cases e1
      have rk := RO.k _ (List.mem_of_getElem? er)
      have gk := GO.d _ rk.1
      have hul := hd.length
      rw [List.length_map, List.length_take] at hul
      refine gPair (i1 := 3) (i2 := 4) e2 ?_
      refine st_appW (at_var rfl) hus ?_
      refine wp_call (ata_cons (at_var rfl) ata_nil) ⟨_, _, rfl, e3, gk.k, fun H2 s2 => ?_⟩
      refine wp_call (ata_cons (at_var rfl) ata_nil) ⟨_, _, rfl, e4.sm s2, rk.2.k, fun H3 s3 => ?_⟩
      refine ⟨z2, fun p hp => ?_⟩
      have s4 := s3.trans (same_new (o := .tup [kv, vv]) hp)
      refine ⟨q, us, .ref p, rfl, rfl, s4 _ _ (s2 _ _ hus), zlt (by omega), ⟨_, _, _, rfl⟩, same_mut ((s1.trans s2).trans s4) hq, us ++ [.ref p], upd_same, ?_⟩
      have tk : TK (upd H3 p (.tup [kv, vv])) (upd (upd H3 p (.tup [kv, vv])) q (.lst (us ++ [.ref p]))) := TK.upd (s4 _ _ (s2 _ _ hus)) fun _ z => by cases z
      have et : (rows.take (i + 1)).map (rowD g) = (rows.take i).map (rowD g) ++ [rowD g rows[i]] := by
        rw [List.take_add_one, er, List.map_append]
        rfl
      rw [et]
      exact TpA.snoc ((Tp.mk hp (.cons ((e3.sm s2).sm s3) (.cons ((e4.sm s2).sm s3) .nil))).mono tk _ _) ((hd.sm (s2.trans s4)).mono tk _ _)
    · obtain ⟨⟨x2, x3, x4, rfl⟩, s1, us, hus, hd⟩ := I
      rw [hl, List.take_length] at hd
      have hul := hd.length
      rw [List.length_map] at hul
      refine sq_Fn (att_orF (att_test (at_I0 (at_lenL (ata_cons (at_var rfl) ata_nil) hus) at_c (congrArg V.bl (decF (by omega))))) (att_test (at_I0 (at_lenL (ata_cons (at_var rfl) ata_nil) hus) at_c (congrArg V.bl (decF (by omega)))))) ?_
      refine sq_forR2 (lo := 1) (n := us.length) (ata_cons at_c (ata_cons (at_lenL (ata_cons (at_var rfl) ata_nil) hus) ata_nil)) ⟨by omega, by decide⟩ (fun i σ' H2 => (∃ x2, σ' = [some (.ref wl), some (.ref q), x2, x3, x4]) ∧ Same H' H2) ⟨⟨_, rfl⟩, Same.refl _⟩ (fun i σ' H2 hi1 hi2 I => ?_) fun m σ' H2 hm1 hm2 I => ?_
      · obtain ⟨⟨x2, rfl⟩, s2⟩ := I
        have er : rows[i]? = some rows[i] := List.getElem?_eq_getElem (by omega)
        have er1 : rows[i - 1]? = some rows[i - 1] := List.getElem?_eq_getElem (by omega)
        obtain ⟨a, kv, vv, e1, e2, e3, e4⟩ := row_at (hd.sm s2) er
        obtain ⟨b, kv1, vv1, f1, f2, f3, f4⟩ := row_at (hd.sm s2) er1
        have gk := GO.d _ (RO.k _ (List.mem_of_getElem? er)).1
        have gk1 := GO.d _ (RO.k _ (List.mem_of_getElem? er1)).1
        have hus2 := s2 _ _ hus
        refine wp_call (ata_cons (at_ixT (at_ixL (at_var rfl) (at_I0 (at_var rfl) at_c (congrArg V.int (show ((i : Nat) : Int) - 1 = ((i - 1 : Nat) : Int) by omega))) hus2 (atI_nat f1)) at_c f2 (atI_nat (j := 0) rfl)) (ata_cons (at_ixT (at_ixL (at_var rfl) (at_var rfl) hus2 (atI_nat e1)) at_c e2 (atI_nat (j := 0) rfl)) ata_nil)) ⟨_, _, _, _, rfl, f3, e3, gk1.s 2, gk.s 2, gk1.f 3, gk.f 3, fun H3 s3 => ?_⟩
        have hlt : ltK (g (rows[i - 1]).1) (g (rows[i]).1) = true := by
          rw [GO.lt _ _ (RO.k _ (List.mem_of_getElem? er1)).1 (RO.k _ (List.mem_of_getElem? er)).1]
          refine decT ?_
          have up := RO.up
          have q1 := List.pairwise_iff_getElem.mp up (i - 1) i (by rw [List.length_map]; omega) (by rw [List.length_map]; omega) (by omega)
          simpa using q1
        rw [hlt]
        exact ⟨true, rfl, nx_ ⟨⟨_, rfl⟩, s2.trans s3⟩⟩
      · obtain ⟨⟨x2, rfl⟩, s2⟩ := I
        exact st_ret (at_var rfl) (k q us H2 (s1.trans s2) hq (s2 _ _ hus) (hd.sm s2))
end
/-! ### a leaf is put -/
def spPutLeaf (K : PySem.W.Frag) : Sp := fun vs H Q _ => ∃ g S G sn w xs rows, vs = [.ref S.p, .ref w] ∧ ShAt K g H S G sn ∧ H w = some (.lst xs) ∧ TpA H xs (rows.map (rowD g)) ∧ RowsOk rows ∧ GridOk g ∧ (∀ n ∈ G.ns, n < G.nx) ∧ G.ns.length ≤ 1000 ∧
  ∀ S' H', ShTo K g H S G H' S' (addT G (.leaf rows) (labR rows)) sn → Q (iV G.nx) H'
/-! ### alone -/
inductive Alone (G : Gs) : Nat → Prop
  | top {n : Nat} : G.ab n = [] → G.h n = 1 → Alone G n
  | up {n p : Nat} : G.ab n = [p] → G.h n = 0 → Alone G p → Alone G n
structure Up (G : Gs) : Prop where
  lt : ∀ n ∈ G.ns, n < G.nx
  ab : ∀ n ∈ G.ns, ∀ m ∈ G.ab n, m ∈ G.ns ∧ n < m
  h : ∀ n ∈ G.ns, 0 ≤ G.h n
def spShared (K : PySem.W.Frag) : Sp := fun vs H Q _ => ∃ g S G sn n, vs = [.ref S.p, iV n] ∧ ShAt K g H S G sn ∧ Up G ∧ n ∈ G.ns ∧ (Alone G n → ∀ H', Same H H' → Q .non H') ∧ (¬ Alone G n → ∀ H' k, Same H H' → Q (iV k) H')
def spAlone (K : PySem.W.Frag) : Sp := fun vs H Q _ => ∃ g S G sn n, vs = [.ref S.p, iV n] ∧ ShAt K g H S G sn ∧ Up G ∧ n ∈ G.ns ∧ ∀ H' b, Same H H' → (b = true ↔ Alone G n) → Q (.bl b) H'
def spNeedAlone (K : PySem.W.Frag) : Sp := fun vs H Q _ => ∃ g S G sn n, vs = [.ref S.p, iV n] ∧ ShAt K g H S G sn ∧ Up G ∧ n ∈ G.ns ∧ Alone G n ∧ ∀ H', Same H H' → Q .non H'
section
variable {P : Program} {w : World} {K : PySem.W.Frag} {mg : Str → Option Value} {base : Heap}
theorem sc_put_leaf : FnScope ["self", "rows", "found"] ["self", "rows"] (defScope (shm 3)) := ⟨rfl, rfl, rfl, by decide +kernel, rfl, by decide +kernel, by decide +kernel⟩
theorem ok_put_leaf (T : TX K mg) (F : Fd K "put_leaf" "Shelf.put_leaf" (shm 3) (ma K (ga K "Shelf") "put_leaf")) (G_checked_rows : OkF P w K mg base CX0 8 (ga K "checked_rows") ["rows"] spCheckedRows) (G_label_of_rows : OkF P w K mg base CX0 1 (ga K "label_of_rows") ["rows"] spLabelRows)
    (G_set_down : OkM P w K mg base CX0 (ga K "Shelf") "set_down" 1 (ma K (ga K "Shelf") "set_down") ["self", "kind", "what", "tag"] (spSetDown K)) : OkF P w K mg base CX0 9 (ma K (ga K "Shelf") "put_leaf") ["self", "rows"] (spPutLeaf K) := by
  refine mkOk F sc_put_leaf (fun vs H Q E h => ?_) (fun _ _ _ _ _ _ us hl => match us, hl with | [_, _], _ => rfl) (fun cdv A outer s H vs Q E hr h => ?_)
  · obtain ⟨g, S, G, sn, w, xs, rows, rfl, _⟩ := h
    rfl
  · obtain ⟨g, S, G, sn, wl, xs, rows, rfl, A0, hw, hx, RO, GO, hlt, hz, k⟩ := h
    have nd := sc_put_leaf.nd
    obtain ⟨t, c_LEAF⟩ := T.c_LEAF
    refine ⟨_, (pss_cons (ps_set (i := 2) nd rfl (by first | exact Or.inl rfl | exact Or.inr rfl) (pe_c G_checked_rows (hr.mono (by decide)) rfl T.g_checked_rows (pa_cons (pv 1) pa_nil)))
      (pss_one (ps_ret (pe_m (pv 0) T.cl G_set_down (hr.mono (by decide)) (pa_cons (pe_glob rfl c_LEAF (v := .str _) ⟨_, rfl⟩) (pa_cons (pv 2) (pa_cons (pe_c G_label_of_rows (hr.mono (by decide)) rfl T.g_label_of_rows (pa_cons (pv 2) pa_nil)) pa_nil))))))), ?_⟩
    refine sq_as (wp_call (ata_cons (at_var rfl) ata_nil) ⟨g, wl, xs, rows, rfl, hw, hx, RO, GO, fun q ys H1 s1 hq hq1 hy => ?_⟩)
    have A1 := A0.same s1
    obtain ⟨dx, ob⟩ := A1.c.ob
    refine rt_ (at_var rfl _ ⟨S.p, dx, _, rfl, ob, rfl, at_c _ (at_var rfl _ (wp_call (ata_cons (at_var rfl) ata_nil) ⟨g, q, ys, rows, rfl, hq1, hy, (fun e => by have := RO.l1; rw [e] at this; simp at this), fun v H2 s2 hv => ?_⟩))⟩)
    exact ⟨g, S, G, sn, .leaf rows, labR rows, q, ys, v, rfl, A1.same s2, s2 _ _ hq1, hy.sm s2, hv, hlt, hz, fun S' H' h => k S' H' (h.pre (s1.trans s2))⟩
theorem sc_shared_above : FnScope ["self", "number", "here"] ["self", "number"] (defScope (shm 12)) := ⟨rfl, rfl, rfl, by decide +kernel, rfl, by decide +kernel, by decide +kernel⟩
theorem ok_shared_above (T : TX K mg) (F : Fd K "shared_above" "Shelf.shared_above" (shm 12) (ma K (ga K "Shelf") "shared_above")) (G_holders : OkM P w K mg base CX0 (ga K "Shelf") "holders" 2 (ma K (ga K "Shelf") "holders") ["self", "number"] (spHolders K)) :
    OkF P w K mg base CX0 3 (ma K (ga K "Shelf") "shared_above") ["self", "number"] (spShared K) := by
  refine mkOk F sc_shared_above (fun vs H Q E h => ?_) (fun _ _ _ _ _ _ us hl => match us, hl with | [_, _], _ => rfl) (fun cdv A outer s H vs Q E hr h => ?_)
  · obtain ⟨g, S, G, sn, n, rfl, _⟩ := h
    rfl
  · obtain ⟨g, S, G, sn, n, rfl, A0, U, hn, k1, k2⟩ := h
    have hu := hu_of hr
    have nd := sc_shared_above.nd
    refine ⟨_, (pss_cons (ps_set (i := 2) nd rfl (by first | exact Or.inl rfl | exact Or.inr rfl) (pv 1))
      (pss_cons (ps_while PassesOwn.never (pt_cmpR op_eq (pe_m (pv 0) T.cl G_holders (hr.mono (by decide)) (pa_cons (pv 2) pa_nil)) pe_int (nomark _)) (pss_cons (ps_if (pt_cmpR (op_eqD hr.units) (pe_dget hu (pe_fld (pv 0) rfl) (pv 2) (fun _ _ => rfl)) (pe_lst pa_nil) (nomark _)) (pss_one (ps_ret pe_non)) pss_nil)
      (pss_one (ps_set (i := 2) nd rfl (by first | exact Or.inl rfl | exact Or.inr rfl) (pe_ix ix_list (pe_dget hu (pe_fld (pv 0) rfl) (pv 2) (fun _ _ => rfl)) pe_int (fun _ _ => rfl))))))
      (pss_one (ps_ret (pv 2))))), ?_⟩
    refine sq_set (at_var rfl) (sq_while (fun m σ' H' => ∃ x, σ' = [some (.ref S.p), some (iV n), some (iV x)] ∧ x ∈ G.ns ∧ (Alone G n ↔ Alone G x) ∧ Same H H' ∧ m = G.nx - x) (G.nx - n) ⟨n, rfl, hn, Iff.rfl, Same.refl _, rfl⟩ ?_)
    rintro m σ' H1 ⟨x, rfl, hx, ia, s1, rfl⟩
    have A1 := A0.same s1
    obtain ⟨dx, ob⟩ := A1.c.ob
    have h0 := U.h x hx
    refine ⟨decide (((G.ab x).length : Int) + G.h x = 1), (att_test (at_eq (at_meth (at_var rfl) ob rfl (ata_cons (at_var rfl) ata_nil) fun Q q => ⟨g, S, G, sn, x, rfl, A1, hx, q⟩) at_c rfl (by
      by_cases e : ((G.ab x).length : Int) + G.h x = 1
      · rw [e, decT rfl, decT rfl]
      · rw [decF e, decF fun z => e (V.int.inj z)]))).sm, fun hb H2 s2 => ?_, fun hb H2 s2 => ?_⟩
    · have hb := of_decide_eq_true hb
      have A2 := A1.same s2
      have al := A2.al x hx
      cases e : G.ab x with
      | nil =>
        rw [e] at al hb
        refine sq_ifSn (smt_test (sm_eqNil (at_dget (A2.c.above T (at_var rfl)) (at_var rfl) (A2.dga hx)) al)) (fun _ H3 s3 => ?_) fun q => by cases q
        exact st_ret at_c (k1 (ia.mpr (.top e (by simpa using hb))) H3 ((s1.trans s2).trans s3))
      | cons p r =>
        rw [e] at al hb
        have hr0 : r = [] ∧ G.h x = 0 := by
          simp only [List.length_cons] at hb
          have : r.length = 0 := by omega
          exact ⟨List.length_eq_zero_iff.mp this, by omega⟩
        obtain ⟨er, eh⟩ := hr0
        subst er
        obtain ⟨hp, hlt⟩ := U.ab x hx p (by rw [e]; exact List.mem_singleton.mpr rfl)
        refine sq_ifSn (smt_test (sm_eqNil (at_dget (A2.c.above T (at_var rfl)) (at_var rfl) (A2.dga hx)) al)) (fun q => by cases q) fun _ H3 s3 => ?_
        have A3 := A2.same s3
        have al3 := A3.al x hx
        rw [e] at al3
        refine st_set (at_ixL (at_dget (A3.c.above T (at_var rfl)) (at_var rfl) (A3.dga hx)) at_c al3 (atI_nat (j := 0) rfl)) ⟨G.nx - p, ?_, p, rfl, hp, ia.trans ⟨fun h => ?_, fun h => .up e eh h⟩, (s1.trans s2).trans s3, rfl⟩
        · have := U.lt p hp
          omega
        · cases h with
          | top e2 _ => rw [e] at e2; cases e2
          | up e2 _ h => rw [e] at e2; cases e2; exact h
    · have hb := of_decide_eq_false hb
      refine st_ret (at_var rfl) (k2 (fun h => ?_) H2 x (s1.trans s2))
      cases ia.mp h with
      | top e1 e2 => exact hb (by rw [e1, e2]; rfl)
      | up e1 e2 _ => exact hb (by rw [e1, e2]; rfl)
theorem sc_alone : FnScope ["self", "number"] ["self", "number"] (defScope (shm 13)) := ⟨rfl, rfl, rfl, by decide +kernel, rfl, by decide +kernel, by decide +kernel⟩
theorem ok_alone (T : TX K mg) (F : Fd K "alone" "Shelf.alone" (shm 13) (ma K (ga K "Shelf") "alone")) (G_need : OkM P w K mg base CX0 (ga K "Shelf") "need" 1 (ma K (ga K "Shelf") "need") ["self", "number"] (spNeed0 K)) (G_shared_above : OkM P w K mg base CX0 (ga K "Shelf") "shared_above" 3 (ma K (ga K "Shelf") "shared_above") ["self", "number"] (spShared K)) :
    OkF P w K mg base CX0 4 (ma K (ga K "Shelf") "alone") ["self", "number"] (spAlone K) := by
  refine mkOk F sc_alone (fun vs H Q E h => ?_) (fun _ _ _ _ _ _ us hl => match us, hl with | [_, _], _ => rfl) (fun cdv A outer s H vs Q E hr h => ?_)
  · obtain ⟨g, S, G, sn, n, rfl, _⟩ := h
    rfl
  · obtain ⟨g, S, G, sn, n, rfl, A0, U, hn, k⟩ := h
    have hu := hu_of hr
    have nd := sc_alone.nd
    refine ⟨_, (pss_cons (ps_expr (pe_m (pv 0) T.cl G_need (hr.mono (by decide)) (pa_cons (pv 1) pa_nil)))
      (pss_one (ps_ret (pe_cmp (pc_isN (pe_m (pv 0) T.cl G_shared_above (hr.mono (by decide)) (pa_cons (pv 1) pa_nil))))))), ?_⟩
    obtain ⟨dx, ob⟩ := A0.c.ob
    refine sq_drop (at_meth (at_var rfl) ob rfl (ata_cons (at_var rfl) ata_nil) fun Q q => ⟨g, S, G, sn, n, rfl, A0, hn, q⟩) ?_
    exact rt_ (wp_meth (at_var rfl) ob rfl (ata_cons (at_var rfl) ata_nil) ⟨g, S, G, sn, n, rfl, A0, U, hn, fun h H' s => k H' true s ⟨fun _ => h, fun _ => rfl⟩, fun h H' x s => k H' false s ⟨(fun q => by cases q), fun q => absurd q h⟩⟩)
theorem sc_need_alone : FnScope ["self", "number", "found"] ["self", "number"] (defScope (shm 14)) := ⟨rfl, rfl, rfl, by decide +kernel, rfl, by decide +kernel, by decide +kernel⟩
theorem ok_need_alone (T : TX K mg) (F : Fd K "need_alone" "Shelf.need_alone" (shm 14) (ma K (ga K "Shelf") "need_alone")) (G_shared_above : OkM P w K mg base CX0 (ga K "Shelf") "shared_above" 3 (ma K (ga K "Shelf") "shared_above") ["self", "number"] (spShared K)) :
    OkF P w K mg base CX0 4 (ma K (ga K "Shelf") "need_alone") ["self", "number"] (spNeedAlone K) := by
  refine mkOk F sc_need_alone (fun vs H Q E h => ?_) (fun _ _ _ _ _ _ us hl => match us, hl with | [_, _], _ => rfl) (fun cdv A outer s H vs Q E hr h => ?_)
  · obtain ⟨g, S, G, sn, n, rfl, _⟩ := h
    rfl
  · obtain ⟨g, S, G, sn, n, rfl, A0, U, hn, al, k⟩ := h
    have hu := hu_of hr
    have nd := sc_need_alone.nd
    refine ⟨_, (pss_cons (ps_set (i := 2) nd rfl (by first | exact Or.inl rfl | exact Or.inr rfl) (pe_m (pv 0) T.cl G_shared_above (hr.mono (by decide)) (pa_cons (pv 1) pa_nil)))
      (pss_one (ps_if (pt_cmp (pc_notN (pv 2))) (pss_one ps_never) pss_nil))), ?_⟩
    obtain ⟨dx, ob⟩ := A0.c.ob
    exact sq_as (wp_meth (at_var rfl) ob rfl (ata_cons (at_var rfl) ata_nil) ⟨g, S, G, sn, n, rfl, A0, U, hn, fun _ H' s => st_Fn (att_B (at_is (at_notN (at_var rfl)) rfl)) (k H' s), fun h => absurd al h⟩)
end
end Tw

set_option Elab.async false
set_option linter.all false
set_option maxRecDepth 100000
set_option maxHeartbeats 4000000
/-! The exceptions: what the text says of them; making them. -/
namespace Tw
open PySem PySem.Spec PyProof.Rows L2
open He (ga ma)
def veB : List Value := [.type "ValueError", .type "Exception", .type "BaseException", .type "object"]
/-! ### facts, as they are looked up -/
def oexB (K : PySem.W.Frag) (C : Addr) : Bool := (match K.lookup C with
  | some ⟨.type t0, _, .cls cd, sl⟩ => (match cd.mro, sl.toList with
    | .ref C' :: bm, [_, _, _, _, some (.builtin n), _] => decide (t0 = "type") && (decide (C' = C) && (decide (n = "ValueError.__new__") && (!cd.hasDel && (cd.hasDict && PySem.HandSPX.refsVE bm))))
    | _, _ => false)
  | _ => false) && (decide (PySem.W.findIn K (.ref C) "__setattr__" = some (some (.builtin "object.__setattr__"))) && (decide (PySem.W.subIn K (.ref C) (.type "BaseException") = some true) && (decide (PySem.W.typeIn K (.ref C) = some (.type "type")) && PySem.W.keepIn K (.ref C))))
theorem band {a b : Bool} (h : (a && b) = true) : a = true ∧ b = true := Bool.and_eq_true_iff.mp h
theorem oexB_ok {K : PySem.W.Frag} {C : Addr} (h : oexB K C = true) : OexC K C := by
  obtain ⟨h1, h⟩ := band h
  obtain ⟨h2, h⟩ := band h
  obtain ⟨h3, h⟩ := band h
  obtain ⟨h4, h5⟩ := band h
  refine ⟨?_, of_decide_eq_true h2, of_decide_eq_true h3, of_decide_eq_true h4, h5⟩
  split at h1
  · rename_i t0 dd cd sl ho
    split at h1
    · rename_i C' bm k0 k1 k2 k3 n k5 hm hs
      obtain ⟨e0, h1⟩ := band h1
      obtain ⟨e1, h1⟩ := band h1
      obtain ⟨e2, h1⟩ := band h1
      obtain ⟨e3, h1⟩ := band h1
      obtain ⟨e4, e5⟩ := band h1
      have e0 := of_decide_eq_true e0
      have e1 := of_decide_eq_true e1
      have e2 := of_decide_eq_true e2
      obtain ⟨nm, bs, mro, ns, qn, hd, sn, sub, ab, col, del⟩ := cd
      dsimp only at hm e3 e4
      subst hm e0 e1 e2 e4
      have e6 : del = false := by simpa using e3
      subst e6
      have hsl : sl = #[k0, k1, k2, k3, some (.builtin "ValueError.__new__"), k5] := by
        obtain ⟨l⟩ := sl
        simp only at hs
        rw [hs]
      subst hsl
      exact ⟨nm, qn, ns, bs, bm, sn, sub, ab, col, dd, k0, k1, k2, k3, k5, ho, e5⟩
    · cases h1
  · cases h1
/-- TwigError.__init__ is ValueError's -/
structure CI (K : PySem.W.Frag) (C : Addr) : Prop where
  gt : PySem.W.specialIn K (.ref C) "__getattribute__" = some (some (.builtin "type.__getattribute__"))
  rd : PySem.W.readsIn K C (.type "type") = true
  fc : PySem.W.findCls K (.ref C) (.type "type") "__init__" = some (.val (.builtin "ValueError.__init__"))
  kp : PySem.W.keepIn K (.ref C) = true
def ciB (K : PySem.W.Frag) (C : Addr) : Bool := decide (PySem.W.specialIn K (.ref C) "__getattribute__" = some (some (.builtin "type.__getattribute__"))) && (PySem.W.readsIn K C (.type "type") && ((match PySem.W.findCls K (.ref C) (.type "type") "__init__" with
  | some (.val v) => decide (v = .builtin "ValueError.__init__")
  | _ => false) && PySem.W.keepIn K (.ref C)))
theorem ciB_ok {K : PySem.W.Frag} {C : Addr} (h : ciB K C = true) : CI K C := by
  obtain ⟨h1, h⟩ := band h
  obtain ⟨h2, h⟩ := band h
  obtain ⟨h3, h4⟩ := band h
  refine ⟨of_decide_eq_true h1, h2, ?_, h4⟩
  split at h3
  · rename_i v e
    rw [e, of_decide_eq_true h3]
  · cases h3
def excCB (K : PySem.W.Frag) (D : Addr) : Bool := xfB K D && (decide (PySem.W.findIn K (.ref D) "__class__" = some (some (.builtin "object.__class__"))) && (decide (PySem.W.specialIn K (.builtin "object.__class__") "__get__" = some (some (.builtin "getset_descriptor.__get__"))) && (decide (PySem.W.takesIn K (.builtin "object.__class__") = some true) && decide (PySem.W.mroIn K D (.type "object") = some true))))
theorem excCB_ok {K : PySem.W.Frag} {D : Addr} (h : excCB K D = true) : ExcC K D := by
  obtain ⟨h1, h⟩ := band h
  obtain ⟨h2, h⟩ := band h
  obtain ⟨h3, h⟩ := band h
  obtain ⟨h4, h5⟩ := band h
  have x := xfB_ok h1
  exact ⟨x.ga, x.gg, x.exC, x.hdC, of_decide_eq_true h2, of_decide_eq_true h3, of_decide_eq_true h4, of_decide_eq_true h5⟩
def hand4 : List Str := ["NoTwig", "NotHeld", "NoStem"]
def kinds6 : List Str := ["NoKey", "NoLeaf", "NoStem", "NoTwig", "NotHeld", "Shared"]
def exB (K : PySem.W.Frag) : Bool := ciB K (ga K "TwigError") &&
  ((["NoTwig", "NotHeld"] : List Str).all fun x => oexB K (ga K x) && (xfB K (ga K x) && (decide (PySem.W.findIn K (.ref (ga K x)) "number" = some none) && (decide (PySem.W.findIn K (.ref (ga K x)) "__init__" = some (some (.ref (ma K (ga K x) "__init__")))) && decide (PySem.W.typeIn K (.ref (ma K (ga K x) "__init__")) = some (.type "function")))))) &&
  (PySem.W.excIn K (ga K "NoStem") veB "ValueError.__new__" && (PySem.W.keepIn K (.ref (ga K "NoStem")) && (decide (PySem.W.subIn K (.ref (ga K "NoStem")) (.type "BaseException") = some true) && decide (PySem.W.typeIn K (.ref (ga K "NoStem")) = some (.type "type"))))) &&
  (hand4.all fun x => excCB K (ga K x) && (decide (PySem.W.exmOne K (.ref (ga K x)) (.ref (ga K "TwigError")) = some true) && (decide (PySem.W.kitOne K (.ref (ga K x)) (.type "ValueError") = some true) && kinds6.all fun y => decide (PySem.W.kitOne K (.ref (ga K x)) (.ref (ga K y)) = some (decide (x = y))))))
/-- the text's facts of the exceptions that are raised -/
structure TwX (K : PySem.W.Frag) : Prop where
  ci : CI K (ga K "TwigError")
  ox : ∀ x ∈ (["NoTwig", "NotHeld"] : List Str), OexC K (ga K x) ∧ XfC K (ga K x) ∧ PySem.W.findIn K (.ref (ga K x)) "number" = some none ∧ PySem.W.findIn K (.ref (ga K x)) "__init__" = some (some (.ref (ma K (ga K x) "__init__"))) ∧ PySem.W.typeIn K (.ref (ma K (ga K x) "__init__")) = some (.type "function")
  xS : PySem.W.excIn K (ga K "NoStem") veB "ValueError.__new__" = true
  kS : PySem.W.keepIn K (.ref (ga K "NoStem")) = true
  bS : PySem.W.subIn K (.ref (ga K "NoStem")) (.type "BaseException") = some true
  tS : PySem.W.typeIn K (.ref (ga K "NoStem")) = some (.type "type")
  h4 : ∀ x ∈ hand4, ExcC K (ga K x) ∧ PySem.W.exmOne K (.ref (ga K x)) (.ref (ga K "TwigError")) = some true ∧ PySem.W.kitOne K (.ref (ga K x)) (.type "ValueError") = some true ∧ ∀ y ∈ kinds6, PySem.W.kitOne K (.ref (ga K x)) (.ref (ga K y)) = some (decide (x = y))
theorem exB_ok {K : PySem.W.Frag} (h : exB K = true) : TwX K := by
  obtain ⟨h, h4⟩ := band h
  obtain ⟨h, h3⟩ := band h
  obtain ⟨h1, h2⟩ := band h
  obtain ⟨a1, h3⟩ := band h3
  obtain ⟨a2, h3⟩ := band h3
  obtain ⟨a3, a4⟩ := band h3
  refine ⟨ciB_ok h1, fun x hx => ?_, a1, a2, of_decide_eq_true a3, of_decide_eq_true a4, fun x hx => ?_⟩
  · have q := List.all_eq_true.mp h2 x hx
    obtain ⟨b1, q⟩ := band q
    obtain ⟨b2, q⟩ := band q
    obtain ⟨b3, q⟩ := band q
    obtain ⟨b4, b5⟩ := band q
    exact ⟨oexB_ok b1, xfB_ok b2, of_decide_eq_true b3, of_decide_eq_true b4, of_decide_eq_true b5⟩
  · have q := List.all_eq_true.mp h4 x hx
    obtain ⟨b1, q⟩ := band q
    obtain ⟨b2, q⟩ := band q
    obtain ⟨b3, b4⟩ := band q
    exact ⟨excCB_ok b1, of_decide_eq_true b2, of_decide_eq_true b3, fun y hy => of_decide_eq_true (List.all_eq_true.mp b4 y hy)⟩
/-! ### rules -/
section
variable {X : Cx} {C : Addr} {bmB : List Value} {B newId initId : String} {x : Str} {p p1 p2 pos : Pos} {e : Expr} {es : List Expr} {ta : TA}
/-- X(), X an own exception class without own __init__ -/
theorem pmk_own0 (F : ExcBaseFacts B newId initId bmB) (q : PySem.W.excIn X.K C bmB newId = true) (gC : X.mg x = some (.ref C)) (kC : PySem.W.keepIn X.K (.ref C) = true) (r : Raises X (.ref C)) (hg : Gl X x)
    (hdb : (x == ("__debug__" : Str)) = false := by decide) : PMk X (.Call (.Name x p) [] [] pos) (fun _ H Q => Q (.ref C) none H) := by
  intro pins s0 σ H Q J hq
  refine wpAny_Call_Name_kw (ld_glob J hg gC ?_ hdb)
  refine PySem.W.callWith_K0 J.kIn kC ?_
  obtain ⟨bm, N, nm, qn, bs, hdct, sn, sub, ab, col, dd, k0, k1, k2, k3, k5, mN, hC, hN, hni, TT⟩ := exc_obj J.kIn q
  exact wpAny_call_exc_subT F TT hC hN hni (fun h1 a hm => mk_of J hm r hq (J.hok.gone hm.new)) (Nat.zero_le _)
/-- TwigError.__init__(self, ..) -/
theorem pe_twinit {pl : Sem Bool} (hg : Gl X x) (hm : X.mg x = some (.ref C)) (c : CI X.K C) (ha : PA X (e :: es) ta)
    (hc : eval (.Call (.Attribute (.Name x p1) "__init__" p2) (e :: es) [] pos) X.env = (do
      let ov ← eval (.Name x p1) X.env
      standAt p2.atName
      let (f, first) ← holding [ov] (getMethod ov "__init__" pl)
      callWith pos f first (backTo pos (starEach (e :: es) X.env)) (backToKw pos (keywordEach [] X.env))) := by rfl)
    (he : starEach (e :: es) X.env = (false, eval e X.env) :: starEach es X.env := by rfl) (hpl : (backTo pos (starEach es X.env)).any (·.1) = false := by rfl) (hdb : (x == ("__debug__" : Str)) = false := by decide) :
    PE X (.Call (.Attribute (.Name x p1) "__init__" p2) (e :: es) [] pos) (tVeI X.K ta) := by
  refine ⟨fun pins s0 σ H Q J hq => ?_⟩
  refine PySem.W.methodCall_KW (ld_glob J hg hm ?_ hdb) hc
  refine PySem.W.method_cls J.kIn c.gt (PySem.W.cls_value J.kIn c.rd c.fc (by decide +kernel) ?_)
  show wpAny _ _ (callWith pos (Value.builtin "ValueError.__init__") [] (backTo pos (starEach (e :: es) X.env)) []) _ _ _
  refine callWith_method1 (thn (ha.run pos pins _ σ H _ (J.tok _) hq) fun us s1 ⟨vs, H1, J1, r1, a, C1, ws, ev, hl, T1, ea, q1⟩ => ?_) he hpl
  subst ev
  cases r1 with
  | @cons _ u0 _ ur ra rw1 =>
    obtain rfl : u0 = Value.ref a := ra
    exact oinit_ok T1 J1 ea (by rw [← Paired.length rw1, sizeLine_eq]; omega) fun s2 J2 => ⟨.non, H1, J2, rfl, q1⟩
end
end Tw

set_option Elab.async false
set_option linter.all false
set_option maxRecDepth 100000
set_option maxHeartbeats 4000000
/-! Labels of stems; d.update(e). -/
namespace Tw
open PySem PySem.Spec PyProof.Rows L2
open He (ga ma)
/-! ### d.update(e) -/
def tDUpd (td ty : TE) : TE := fun σ H Q => td σ H fun x H1 => ∃ a, x = .ref a ∧ IsD H1 a ∧ ty σ H1 fun y H2 => ∃ b kvs more, y = .ref b ∧ a ≠ b ∧ H2 a = some (.dK kvs) ∧ H2 b = some (.dK more) ∧ kvs.length + more.length ≤ sizeLine ∧ Q .non (upd H2 a (.dK (mergeK kvs more)))
section
variable {X : Cx} {o e : Expr} {apos cpos : Pos} {td ty : TE}
theorem pe_dupd (hu : X.A.units + 1 < cLine) (ho : PE X o td) (he : PE X e ty) (m : M1 X o "update" apos e cpos) : PE X (.Call (.Attribute o "update" apos) [e] [] cpos) (tDUpd td ty) := by
  refine ⟨fun pins s0 σ H Q J hq => ?_⟩
  refine wpAny_Call_method m.base m.few m.line PySem.F.plainAttrs_dict PySem.F.slot_dict_update PySem.F.type_dict_update (thn (ho.run pins s0 σ H _ J hq) fun u1 s1 ⟨x, H1, J1, rx, a, ex, dd, q1⟩ => ?_)
  subst ex
  obtain rfl : u1 = Value.ref a := rx
  obtain ⟨t1, t2, _⟩ := isD_at J1 dd
  refine ⟨t1, t2, ?_⟩
  rw [m.trees]
  refine Calls.callWith_builtin rfl (Calls.evalArgs_plain (Calls.spliced_cons (thn (he.run pins s1 σ H1 _ J1 q1) fun u2 s2 ⟨y, H2, J2, ry, b, kvs, more, ey, ne, ha, hb, hz, q2⟩ => Calls.spliced_nil ?_)))
  subst ey
  obtain rfl : u2 = Value.ref b := ry
  obtain ⟨za, hda, vs, rela, dda⟩ := dk_of J2.hok ha
  obtain ⟨zb, hdb, ws, relb, ddb⟩ := dk_of J2.hok hb
  refine call_meetsIn PySem.F.slot_dict_update dda.typeIs PySem.F.entry_dict_update (PySem.F.args_dict_update_2 _ _) (meets_dict_update (mixKind X.prog X.w) a b ne hdb)
    ⟨vs, ws, dda, ddb, by rw [← rela.length, ← relb.length]; exact hz, fun h' dd' _ hs => ⟨.non, _, ?_, rfl, q2⟩⟩
  have there : ∃ q, h'.get? a = some q := let ⟨q, _, _, hq, _⟩ := dd'; ⟨q, hq⟩
  exact d_write (t' := s2.toks) J2 (by rw [ha]; exact True.intro) hs there (dk_new (Nat.le_trans (length_mergeK more kvs) hz) hda (relb.merge rela) dd')
end
/-- F, but for the ones of ch -/
def ovr {α : Type} (ch : List Nat) (E F : Nat → α) : Nat → α := fun n => if n ∈ ch then E n else F n
theorem ovr_in {α : Type} {ch : List Nat} {E F : Nat → α} {n : Nat} (h : n ∈ ch) : ovr ch E F n = E n := if_pos h
theorem ovr_out {α : Type} {ch : List Nat} {E F : Nat → α} {n : Nat} (h : n ∉ ch) : ovr ch E F n = F n := if_neg h
theorem mergeK_dM {ns : List Nat} {E : Nat → V} : ∀ {ch : List Nat} {F : Nat → V}, (∀ c ∈ ch, c ∈ ns) → mergeK (dM ns F) (dM ch E) = dM ns (ovr ch E F)
  | [], F, _ => congrArg (dM ns) (funext fun n => (ovr_out List.not_mem_nil).symm)
  | c :: r, F, h => by
    show mergeK (putK (dM ns F) (nK c) (E c)) (dM r E) = _
    rw [putK_dM_old (h c List.mem_cons_self), mergeK_dM fun x hx => h x (List.mem_cons_of_mem _ hx)]
    refine congrArg (dM ns) (funext fun n => ?_)
    by_cases e : n ∈ r
    · rw [ovr_in e, ovr_in (List.mem_cons_of_mem _ e)]
    · rw [ovr_out e]
      by_cases e2 : n = c
      · subst e2
        rw [setF_same, ovr_in List.mem_cons_self]
      · rw [setF_ne e2, ovr_out fun z => (List.mem_cons.mp z).elim e2 e]
/-! ### tests -/
section
variable {K : PySem.W.Frag} {σ : L2.St} {H : Hp} {ta te : TE} {t c : TT} {v : V} {b d : Bool} {p : Addr} {C dx : Addr} {fs : List (Str × V)} {m : Str} {tr : TA} {vs : List V} {D : Ends} {u : TS} {i : Nat}
theorem smt_or (h : AtT t σ H b) (h2 : b = false → SmT c σ H d) : SmT (tOr t c) σ H (b || d) := by
  cases b with
  | true => exact (att_orT h).sm
  | false => exact fun Q q => h _ (h2 rfl Q q)
theorem smt_and (h : AtT t σ H b) (h2 : b = true → SmT c σ H d) : SmT (tAnd t c) σ H (b && d) := by
  cases b with
  | true => exact fun Q q => h _ (h2 rfl Q q)
  | false => exact (att_andF h).sm
theorem sm_call {sp : Sp} {E : XK} (h : AtA tr σ H vs) (k : ∀ Q : VK, (∀ H', Same H H' → Q v H') → sp vs H Q E) : Sm (tCall sp [] E tr) σ H v := fun Q q => wp_call h (k Q q)
theorem sm_meth {sp : Sp} {E : XK} (h : At ta σ H (.ref p)) (hi : H p = some (.ins C dx fs)) (hl : fs.lookup m = none) (h2 : AtA tr σ H vs) (k : ∀ Q : VK, (∀ H', Same H H' → Q v H') → sp (.ref p :: vs) H Q E) : Sm (tMeth C m sp [] E ta tr) σ H v := fun Q q => wp_meth h hi hl h2 (k Q q)
theorem sq_sm (h : Sm te σ H v) (k : ∀ H', Same H H' → u D (σ.set i (some v)) H') : tSeq (tAsg te (gName i)) u D σ H := h _ k
theorem at_then {Q : VK} (h : At te σ H v) (k : Q v H) : te σ H Q := h Q k
theorem tup4 {t1 t2 t3 t4 : TE} {Q : VK} (h : t1 σ H fun a H1 => t2 σ H1 fun b H2 => t3 σ H2 fun c H3 => t4 σ H3 fun d H4 => 4 ≤ sizeLine ∧ ∀ p, H4 p = none → Q (.ref p) (upd H4 p (.tup [a, b, c, d]))) : tTup (tCons t1 (tCons t2 (tCons t3 (tCons t4 tNil)))) σ H Q := h
theorem dec_int {i j : Int} : decide (V.int i = V.int j) = decide (i = j) := by
  by_cases e : i = j
  · subst e
    rw [decT rfl, decT rfl]
  · rw [decF e, decF fun z => e (V.int.inj z)]
end
/-! ### labels of stems -/
structure LabOk (ls : List Lb) : Prop where
  l2 : 2 ≤ ls.length
  l4 : ls.length ≤ 4
  st : ∀ k a b z, 1 ≤ k → ls[k]? = some b → ls[k - 1]? = some a → ls[0]? = some z → b.ht = z.ht ∧ a.hi < b.lo
def labS (ls : List Lb) : Lb := ⟨(ls.head?.map (·.ht)).getD 0 + 1, (ls.head?.map (·.lo)).getD 0, (ls.getLast?.map (·.hi)).getD 0, (ls.map (·.cnt)).sum⟩
theorem lab_at {g : Nat → PyData} {H : Hp} {xs : List V} {ls : List Lb} {i : Nat} {l : Lb} (h : TpA H xs (ls.map (labD g))) (hi : ls[i]? = some l) :
    ∃ a k v, xs[i]? = some (.ref a) ∧ H a = some (.tup [.int l.ht, k, v, .int l.cnt]) ∧ Tp H k (g l.lo) ∧ Tp H v (g l.hi) := by
  have hl := h.length
  rw [List.length_map] at hl
  have hi' : i < xs.length := by rw [hl]; exact (List.getElem?_eq_some_iff.mp hi).1
  have e : xs[i]? = some xs[i] := List.getElem?_eq_getElem hi'
  obtain ⟨d, hd, hx⟩ := h.get e
  rw [List.getElem?_map, hi] at hd
  cases hd
  obtain ⟨a, ys, ea, ha, hy⟩ := hx.tup_inv
  cases hy with
  | cons h1 h2 =>
    cases h2 with
    | cons h2 h3 =>
      cases h3 with
      | cons h3 h4 =>
        cases h4 with
        | cons h4 h5 =>
          cases h5
          cases h1
          cases h4
          exact ⟨a, _, _, by rw [e, ea], ha, h2, h3⟩
def spLabelOver (K : PySem.W.Frag) : Sp := fun vs H Q E => ∃ g w xs ls, vs = [.ref w] ∧ H w = some (.lst xs) ∧ TpA H xs (ls.map (labD g)) ∧ ls.length ≤ 1000 ∧ GridOk g ∧ (∀ l ∈ ls, l.lo < 64 ∧ l.hi < 64) ∧
  (LabOk ls → ∀ v H', Same H H' → Tp H' v (labD g (labS ls)) → Q v H') ∧ (¬ LabOk ls → ∀ H', Same H H' → E (.ref (ga K "NoStem")) none H')
section
variable {P : Program} {w : World} {K : PySem.W.Frag} {mg : Str → Option Value} {base : Heap}
theorem sc_label_over : FnScope ["labels", "k", "label"] ["labels"] (defScope (top 24)) := ⟨rfl, rfl, rfl, by decide +kernel, rfl, by decide +kernel, by decide +kernel⟩
theorem ok_label_over (T : TX K mg) (W : TwX K) (F : Fd K "label_over" "label_over" (top 24) (ga K "label_over")) (G_ahead : OkF P w K mg base CX0 5 (ga K "ahead") ["one", "other"] spAhead) :
    OkF P w K mg base (L2.CX P w) 6 (ga K "label_over") ["labels"] (spLabelOver K) := by
  refine mkOkX F sc_label_over (fun vs H Q E h => ?_) (fun _ _ _ _ _ _ us hl => match us, hl with | [_], _ => rfl) (fun cdv A outer s H vs Q E hr h => ?_)
  · obtain ⟨g, w, xs, ls, rfl, _⟩ := h
    rfl
  · obtain ⟨g, wl, xs, ls, rfl, hw, hx, hz, GO, hk, k1, k2⟩ := h
    have nd := sc_label_over.nd
    obtain ⟨t, c_MOST⟩ := T.c_MOST
    refine ⟨_, (pss_cons (ps_if (PW.pt (pw_or (pt_cmpR op_lt (pe_callB (call_len_seq) rfl T.f_len bt_len (pa_cons (pv 0) pa_nil)) pe_int (nomark _)) (pw_or1 (pt_cmpR op_gt (pe_callB (call_len_seq) rfl T.f_len bt_len (pa_cons (pv 0) pa_nil)) (pe_glob rfl c_MOST (v := .int _) ⟨_, rfl⟩) (nomark _))))) (pss_one (ps_raise rfl (takes_of rfl rfl rfl rfl) (pmk_own0 PySem.F.excBase_ValueError W.xS T.g_NoStem W.kS (raises_own W.bS W.tS) rfl))) pss_nil)
      (pss_cons (ps_for (passes_of rfl) rfl (pi_range2 rfl T.f_range (pa_cons pe_int (pa_cons (pe_callB (call_len_seq) rfl T.f_len bt_len (pa_cons (pv 0) pa_nil)) pa_nil))) (pg_name (i := 1) nd rfl (by first | exact Or.inl rfl | exact Or.inr rfl)) (pss_one (ps_if (PW.pt (pw_or (pt_cmpR op_ne (pe_ix ix_tup (pe_ix ix_list (pv 0) (pv 1) (fun _ _ => rfl)) pe_int (fun _ _ => rfl)) (pe_ix ix_tup (pe_ix ix_list (pv 0) pe_int (fun _ _ => rfl)) pe_int (fun _ _ => rfl)) (nomark _)) (pw_or1 (pt_not (pt_val (pe_c G_ahead (hr.mono (by decide)) rfl T.g_ahead (pa_cons (pe_ix ix_tup (pe_ix ix_list (pv 0) (pe_op op_sub (pv 1) pe_int) (fun _ _ => rfl)) pe_int (fun _ _ => rfl)) (pa_cons (pe_ix ix_tup (pe_ix ix_list (pv 0) (pv 1) (fun _ _ => rfl)) pe_int (fun _ _ => rfl)) pa_nil)))))))) (pss_one (ps_raise rfl (takes_of rfl rfl rfl rfl) (pmk_own0 PySem.F.excBase_ValueError W.xS T.g_NoStem W.kS (raises_own W.bS W.tS) rfl))) pss_nil)))
      (pss_one (ps_ret (pe_tup (pa_cons (pe_op op_add (pe_ix ix_tup (pe_ix ix_list (pv 0) pe_int (fun _ _ => rfl)) pe_int (fun _ _ => rfl)) pe_int) (pa_cons (pe_ix ix_tup (pe_ix ix_list (pv 0) pe_int (fun _ _ => rfl)) pe_int (fun _ _ => rfl)) (pa_cons (pe_ix ix_tup (pe_ix ix_list (pv 0) (pe_un un_neg pe_int) (fun _ _ => rfl)) pe_int (fun _ _ => rfl)) (pa_cons (pe_callB (cr_sum rfl) rfl T.f_sum bt_sum (pa_cons (pe_lc (own := [("label", 2)]) (by rfl) nd (pi_list (pv 0)) (blkOk_by (N := ["labels", "k", "label"]) (sc := defScope (top 24)) (own := [("label", 2)]) (by decide +kernel)) (fun _ _ _ _ _ => (pg_name (i := 2) nd rfl (by first | exact Or.inl rfl | exact Or.inr rfl))) (fun _ _ _ _ _ => pts_nil) (fun _ _ _ _ _ => pe_ix (ixT (K := K) rfl) (pv 2) pe_int (fun _ _ => rfl))) pa_nil)) pa_nil))))))))), ?_⟩
    have hl := hx.length
    rw [List.length_map] at hl
    refine sq_ifn (att_or (att_test (at_I0 (at_lenL (ata_cons (at_var rfl) ata_nil) hw) at_c rfl)) fun _ => att_test (at_I0 (at_lenL (ata_cons (at_var rfl) ata_nil) hw) at_c rfl)) (fun hb => ?_) fun hb => ?_
    · refine k2 (fun q => ?_) H (Same.refl H)
      have h2 := q.l2
      have h4 := q.l4
      rw [Bool.or_eq_true] at hb
      rcases hb with hb | hb
      · have := of_decide_eq_true hb
        omega
      · have := of_decide_eq_true hb
        omega
    · rw [Bool.or_eq_false_iff] at hb
      have hb1 := of_decide_eq_false hb.1
      have hb2 := of_decide_eq_false hb.2
      have e0 : ls[0]? = some ls[0] := List.getElem?_eq_getElem (by omega)
      refine sq_forR2 (lo := 1) (n := xs.length) (ata_cons at_c (ata_cons (at_lenL (ata_cons (at_var rfl) ata_nil) hw) ata_nil)) ⟨by omega, by decide⟩ (fun i σ' H2 => (∃ x2 x3, σ' = [some (.ref wl), x2, x3]) ∧ Same H H2 ∧ ∀ k a b z, 1 ≤ k → k < i → ls[k]? = some b → ls[k - 1]? = some a → ls[0]? = some z → b.ht = z.ht ∧ a.hi < b.lo)
        ⟨⟨_, _, rfl⟩, Same.refl _, fun k a b z h1 h2 => absurd h1 (by omega)⟩ (fun i σ' H2 hi1 hi2 I => ?_) fun m σ' H2 hm1 hm2 I => ?_
      · obtain ⟨⟨x2, x3, rfl⟩, s2, ok⟩ := I
        have er : ls[i]? = some ls[i] := List.getElem?_eq_getElem (by omega)
        have er1 : ls[i - 1]? = some ls[i - 1] := List.getElem?_eq_getElem (by omega)
        have hx2 := hx.sm s2
        have hw2 := s2 _ _ hw
        obtain ⟨a0, p0, q0, f0, t0, _, _⟩ := lab_at hx2 e0
        obtain ⟨a1, p1, q1, f1, t1, u1, v1⟩ := lab_at hx2 er1
        obtain ⟨a2, p2, q2, f2, t2, u2, v2⟩ := lab_at hx2 er
        have gk1 := GO.d _ (hk _ (List.mem_of_getElem? er1)).2
        have gk2 := GO.d _ (hk _ (List.mem_of_getElem? er)).1
        refine st_ifS (smt_or (att_test (at_ne (at_ixT (at_ixL (at_var rfl) (at_var rfl) hw2 (atI_nat f2)) at_c t2 (atI_nat (j := 0) rfl)) (at_ixT (at_ixL (at_var rfl) at_c hw2 (atI_nat (j := 0) f0)) at_c t0 (atI_nat (j := 0) rfl)) rfl dec_int)) fun _ => smt_not (smt_B (sm_call
          (ata_cons (at_ixT (at_ixL (at_var rfl) (at_I0 (at_var rfl) at_c (congrArg V.int (show ((i : Nat) : Int) - 1 = ((i - 1 : Nat) : Int) by omega))) hw2 (atI_nat f1)) at_c t1 (atI_nat (j := 2) rfl)) (ata_cons (at_ixT (at_ixL (at_var rfl) (at_var rfl) hw2 (atI_nat f2)) at_c t2 (atI_nat (j := 1) rfl)) ata_nil))
          fun Q q => ⟨_, _, _, _, rfl, v1, u2, gk1.s 2, gk2.s 2, gk1.f 3, gk2.f 3, q⟩))) (fun hb H3 s3 => ?_) fun hb H3 s3 => ?_
        · refine k2 (fun q => ?_) H3 (s2.trans s3)
          obtain ⟨j1, j2⟩ := q.st i _ _ _ hi1 er er1 e0
          rw [GO.lt _ _ (hk _ (List.mem_of_getElem? er1)).2 (hk _ (List.mem_of_getElem? er)).1, decT j2, decT (by rw [j1])] at hb
          cases hb
        · refine nx_ ⟨⟨_, _, rfl⟩, s2.trans s3, fun k a b z h1 h2 g1 g2 g3 => ?_⟩
          by_cases e : k = i
          · subst e
            rw [er] at g1
            rw [er1] at g2
            rw [e0] at g3
            cases g1
            cases g2
            cases g3
            rw [Bool.or_eq_false_iff, Bool.not_eq_false', Bool.not_eq_false', GO.lt _ _ (hk _ (List.mem_of_getElem? er1)).2 (hk _ (List.mem_of_getElem? er)).1] at hb
            have h3 := of_decide_eq_true hb.1
            exact ⟨by omega, of_decide_eq_true hb.2⟩
          · exact ok k a b z h1 (by omega) g1 g2 g3
      · obtain ⟨⟨x2, x3, rfl⟩, s2, ok⟩ := I
        have lk : LabOk ls := ⟨by omega, by omega, fun k a b z h1 g1 => ok k a b z h1 (by have := (List.getElem?_eq_some_iff.mp g1).1; omega) g1⟩
        have hx2 := hx.sm s2
        have hw2 := s2 _ _ hw
        have eL : ls[ls.length - 1]? = some ls[ls.length - 1] := List.getElem?_eq_getElem (by omega)
        obtain ⟨a0, p0, q0, f0, t0, u0, _⟩ := lab_at hx2 e0
        obtain ⟨a1, p1, q1, f1, t1, _, v1⟩ := lab_at hx2 eL
        refine rt_ (tup4 (at_then (at_I0 (at_ixT (at_ixL (at_var rfl) at_c hw2 (atI_nat (j := 0) f0)) at_c t0 (atI_nat (j := 0) rfl)) at_c rfl) ?_))
        refine at_then (at_ixT (at_ixL (at_var rfl) at_c hw2 (atI_nat (j := 0) f0)) at_c t0 (atI_nat (j := 1) rfl)) ?_
        refine at_then (at_ixT (at_ixL (at_var rfl) (at_U at_c rfl) hw2 (atI_last (by rw [hl]; exact f1))) at_c t1 (atI_nat (j := 2) rfl)) ?_
        refine cb1 ?_
        refine lcL (fun j y H' => ∃ l, ls[j]? = some l ∧ y = iV l.cnt) (fun j y H1 H2 tk h => h) (at_var rfl) hw2 (by omega) (fun j x H' hj s3 Q q => ?_) fun D H' us hD s3 hu hlu hru => ?_
        · have hjl : j < ls.length := by rw [← hl]; exact (List.getElem?_eq_some_iff.mp hj).1
          obtain ⟨a3, p3, q3, f3, t3, _, _⟩ := lab_at (hx2.sm s3) (List.getElem?_eq_getElem hjl)
          rw [hj] at f3
          cases f3
          exact at_ixT (at_var rfl) at_c t3 (atI_nat (j := 3) rfl) _ (q _ _ (Same.refl _) ⟨_, List.getElem?_eq_getElem hjl, rfl⟩)
        · have eu : us = (ls.map fun l => (l.cnt : Int)).map V.int := List.ext_getElem? fun j => by
            cases e : us[j]? with
            | none =>
              have := List.getElem?_eq_none_iff.mp e
              rw [List.getElem?_eq_none (by simp; omega)]
            | some y =>
              obtain ⟨l, e1, e2⟩ := hru j y e
              rw [List.getElem?_map, List.getElem?_map, e1, e2]
              rfl
          refine ⟨D, _, rfl, by rw [← eu]; exact SqL.of hu, z4, fun p hp => k1 lk _ _ ((s2.trans s3).trans (same_new hp)) ?_⟩
          have sm : (ls.map fun l => (l.cnt : Int)).sum = (((ls.map (·.cnt)).sum : Nat) : Int) := by
            have gen : ∀ ks : List Lb, (ks.map fun l => (l.cnt : Int)).sum = (((ks.map (·.cnt)).sum : Nat) : Int) := by
              intro ks
              induction ks with
              | nil => rfl
              | cons k r ih =>
                rw [List.map_cons, List.sum_cons, ih, List.map_cons, List.sum_cons]
                omega
            exact gen ls
          have el : labD g (labS ls) = .tuple [.int (((ls[0]).ht : Int) + 1), g (ls[0]).lo, g (ls[ls.length - 1]).hi, .int (((ls.map (·.cnt)).sum : Nat) : Int)] := by
            unfold labD labS
            rw [List.head?_eq_getElem?, e0, List.getLast?_eq_getElem?, eL]
            rfl
          rw [el]
          refine Tp.mk hp (.cons (.int _) (.cons (u0.sm s3) (.cons (v1.sm s3) (.cons ?_ .nil))))
          first
            | exact sm ▸ Tp.int _
            | (rw [← sm]; exact Tp.int _)
end
end Tw

set_option Elab.async false
set_option linter.all false
set_option maxRecDepth 100000
set_option maxHeartbeats 4000000
/-! Plain facts of the ghost shelf: well-formed, labels' bounds, chains of stems, changes. -/
namespace Tw
open PySem PySem.Spec PyProof.Rows L2
structure WF (G : Gs) : Prop where
  lt : ∀ n ∈ G.ns, n < G.nx
  h0 : ∀ n ∈ G.ns, 0 ≤ G.h n
  so : G.ns.Pairwise (· < ·)
  lf : ∀ n ∈ G.ns, ∀ rows, G.t n = .leaf rows → RowsOk rows ∧ G.l n = labR rows
  st : ∀ n ∈ G.ns, ∀ bs, G.t n = .stem bs → LabOk (bs.map G.l) ∧ G.l n = labS (bs.map G.l) ∧ ∀ b ∈ bs, b ∈ G.ns ∧ b < n
  ab : ∀ b ∈ G.ns, ∀ m, m ∈ G.ab b ↔ m ∈ G.ns ∧ ∃ bs, G.t m = .stem bs ∧ b ∈ bs
  abs : ∀ b ∈ G.ns, (G.ab b).Pairwise (· < ·)
  lv : ∀ n ∈ G.ns, 0 < G.h n ∨ G.ab n ≠ []
theorem WF.up {G : Gs} (w : WF G) : Up G := ⟨w.lt, fun n hn m hm => by
  obtain ⟨h1, bs, h2, h3⟩ := (w.ab n hn m).mp hm
  exact ⟨h1, ((w.st m h1 bs h2).2.2 n h3).2⟩, w.h0⟩
structure KB (l : Lb) : Prop where
  a : l.lo ≤ l.hi
  b : l.hi < 64
  c : 1 ≤ l.cnt
  d : l.cnt + l.lo ≤ l.hi + 1
theorem rise_len : ∀ (r : List Nat) (x : Nat), (x :: r).Pairwise (· < ·) → x + r.length ≤ (r.getLast?).getD x ∧ ((r.getLast?).getD x = x ∨ (r.getLast?).getD x ∈ r)
  | [], x, _ => ⟨Nat.le_refl _, .inl rfl⟩
  | y :: r, x, h => by
    rw [List.pairwise_cons] at h
    obtain ⟨h1, h2⟩ := rise_len r y h.2
    have h3 := h.1 y List.mem_cons_self
    have e : ((y :: r).getLast?).getD x = (r.getLast?).getD y := by
      cases r with
      | nil => rfl
      | cons z s =>
        rw [List.getLast?_cons_cons]
        cases q : (z :: s).getLast? with
        | none => simp at q
        | some v => rfl
    rw [e]
    refine ⟨by rw [List.length_cons]; omega, .inr ?_⟩
    rcases h2 with h2 | h2
    · rw [h2]
      exact List.mem_cons_self
    · exact List.mem_cons_of_mem _ h2
theorem labR_kb {rows : List (Nat × PyData)} (h : RowsOk rows) : KB (labR rows) := by
  have hl := h.l1
  have hu := h.up
  have hk := h.k
  cases rows with
  | nil => simp at hl
  | cons r s =>
    rw [List.map_cons] at hu
    obtain ⟨h1, h2⟩ := rise_len _ _ hu
    have e : ((r :: s).getLast?.map (·.1)).getD 0 = ((s.map (·.1)).getLast?).getD r.1 := by
      cases s with
      | nil => rfl
      | cons z t =>
        rw [List.getLast?_cons_cons, List.getLast?_map]
        cases q : (z :: t).getLast? with
        | none => simp at q
        | some v => rfl
    have hm : ((s.map (·.1)).getLast?).getD r.1 < 64 := by
      rcases h2 with h2 | h2
      · rw [h2]
        exact (hk r List.mem_cons_self).1
      · obtain ⟨z, hz, ez⟩ := List.mem_map.mp h2
        rw [← ez]
        exact (hk z (List.mem_cons_of_mem _ hz)).1
    rw [List.length_map] at h1
    unfold labR
    rw [e]
    refine ⟨?_, hm, hl, ?_⟩
    · exact Nat.le_trans (Nat.le_add_right _ _) h1
    · show (r :: s).length + r.1 ≤ ((s.map (·.1)).getLast?).getD r.1 + 1
      rw [List.length_cons]
      omega
theorem labS_kb {ls : List Lb} (h : LabOk ls) (k : ∀ l ∈ ls, KB l) : KB (labS ls) := by
  have h2 := h.l2
  have h4 := h.l4
  match ls, h, k, h2, h4 with
  | [a, b], h, k, _, _ =>
    have ka := k a (by simp)
    have kb := k b (by simp)
    have s1 := (h.st 1 a b a (by omega) rfl rfl rfl).2
    exact ⟨show a.lo ≤ b.hi by have := ka.a; have := kb.a; omega, kb.b, show 1 ≤ a.cnt + (b.cnt + 0) by have := ka.c; omega, show a.cnt + (b.cnt + 0) + a.lo ≤ b.hi + 1 by have := ka.d; have := kb.d; omega⟩
  | [a, b, c], h, k, _, _ =>
    have ka := k a (by simp)
    have kb := k b (by simp)
    have kc := k c (by simp)
    have s1 := (h.st 1 a b a (by omega) rfl rfl rfl).2
    have s2 := (h.st 2 b c a (by omega) rfl rfl rfl).2
    exact ⟨show a.lo ≤ c.hi by have := ka.a; have := kb.a; have := kc.a; omega, kc.b, show 1 ≤ a.cnt + (b.cnt + (c.cnt + 0)) by have := ka.c; omega, show a.cnt + (b.cnt + (c.cnt + 0)) + a.lo ≤ c.hi + 1 by have := ka.d; have := kb.d; have := kc.d; omega⟩
  | [a, b, c, d], h, k, _, _ =>
    have ka := k a (by simp)
    have kb := k b (by simp)
    have kc := k c (by simp)
    have kd := k d (by simp)
    have s1 := (h.st 1 a b a (by omega) rfl rfl rfl).2
    have s2 := (h.st 2 b c a (by omega) rfl rfl rfl).2
    have s3 := (h.st 3 c d a (by omega) rfl rfl rfl).2
    exact ⟨show a.lo ≤ d.hi by have := ka.a; have := kb.a; have := kc.a; have := kd.a; omega, kd.b, show 1 ≤ a.cnt + (b.cnt + (c.cnt + (d.cnt + 0))) by have := ka.c; omega, show a.cnt + (b.cnt + (c.cnt + (d.cnt + 0))) + a.lo ≤ d.hi + 1 by have := ka.d; have := kb.d; have := kc.d; have := kd.d; omega⟩
  | [], _, _, h2, _ => exact absurd h2 (by simp)
  | [_], _, _, h2, _ => exact absurd h2 (by simp)
  | _ :: _ :: _ :: _ :: _ :: _, _, _, _, h4 => exact absurd h4 (by simp)
theorem WF.kb {G : Gs} (w : WF G) : ∀ (N n : Nat), n < N → n ∈ G.ns → KB (G.l n)
  | 0, n, h, _ => absurd h (Nat.not_lt_zero _)
  | N + 1, n, h, hn => by
    cases e : G.t n with
    | leaf rows =>
      obtain ⟨h1, h2⟩ := w.lf n hn rows e
      rw [h2]
      exact labR_kb h1
    | stem bs =>
      obtain ⟨h1, h2, h3⟩ := w.st n hn bs e
      rw [h2]
      refine labS_kb h1 fun l hl => ?_
      obtain ⟨b, hb, eb⟩ := List.mem_map.mp hl
      obtain ⟨j1, j2⟩ := h3 b hb
      rw [← eb]
      exact WF.kb w N b (by omega) j1
theorem WF.kb' {G : Gs} (w : WF G) {n : Nat} (hn : n ∈ G.ns) : KB (G.l n) := w.kb (n + 1) n (Nat.lt_succ_self _) hn
/-- branches differ -/
theorem labok_lt {bs : List Nat} {l : Nat → Lb} (h : LabOk (bs.map l)) (k : ∀ b ∈ bs, KB (l b)) : bs.Nodup := by
  have h2 := h.l2
  have h4 := h.l4
  rw [List.length_map] at h2 h4
  match bs, h, k, h2, h4 with
  | [a, b], h, k, _, _ =>
    have ka := (k a (by simp)).a
    have s1 := (h.st 1 (l a) (l b) (l a) (by omega) rfl rfl rfl).2
    simp only [List.nodup_cons, List.mem_cons, List.not_mem_nil, not_or, List.nodup_nil, not_false_eq_true, and_true]
    intro e
    subst e
    omega
  | [a, b, c], h, k, _, _ =>
    have ka := (k a (by simp)).a
    have kb := (k b (by simp)).a
    have s1 := (h.st 1 (l a) (l b) (l a) (by omega) rfl rfl rfl).2
    have s2 := (h.st 2 (l b) (l c) (l a) (by omega) rfl rfl rfl).2
    simp only [List.nodup_cons, List.mem_cons, List.not_mem_nil, not_or, List.nodup_nil, not_false_eq_true, and_true]
    refine ⟨⟨?_, ?_⟩, ?_⟩ <;> intro e <;> subst e <;> omega
  | [a, b, c, d], h, k, _, _ =>
    have ka := (k a (by simp)).a
    have kb := (k b (by simp)).a
    have kc := (k c (by simp)).a
    have s1 := (h.st 1 (l a) (l b) (l a) (by omega) rfl rfl rfl).2
    have s2 := (h.st 2 (l b) (l c) (l a) (by omega) rfl rfl rfl).2
    have s3 := (h.st 3 (l c) (l d) (l a) (by omega) rfl rfl rfl).2
    simp only [List.nodup_cons, List.mem_cons, List.not_mem_nil, not_or, List.nodup_nil, not_false_eq_true, and_true]
    refine ⟨⟨?_, ?_, ?_⟩, ⟨?_, ?_⟩, ?_⟩ <;> intro e <;> subst e <;> omega
  | [], _, _, h2, _ => exact absurd h2 (by simp)
  | [_], _, _, h2, _ => exact absurd h2 (by simp)
  | _ :: _ :: _ :: _ :: _ :: _, _, _, _, h4 => exact absurd h4 (by simp)
/-! ### labels that shrink -/
structure Shr (l l' : Lb) : Prop where
  a : l'.ht = l.ht
  b : l'.lo = l.lo
  c : l'.hi ≤ l.hi
theorem Shr.refl (l : Lb) : Shr l l := ⟨rfl, rfl, Nat.le_refl _⟩
theorem labok_shr {bs : List Nat} {l l' : Nat → Lb} (h : LabOk (bs.map l)) (s : ∀ b, Shr (l b) (l' b)) : LabOk (bs.map l') := by
  have h2 := h.l2
  have h4 := h.l4
  rw [List.length_map] at h2 h4
  refine ⟨by rw [List.length_map]; exact h2, by rw [List.length_map]; exact h4, fun k a b z h1 e1 e2 e3 => ?_⟩
  rw [List.getElem?_map] at e1 e2 e3
  obtain ⟨x1, f1, rfl⟩ := Option.map_eq_some_iff.mp e1
  obtain ⟨x2, f2, rfl⟩ := Option.map_eq_some_iff.mp e2
  obtain ⟨x3, f3, rfl⟩ := Option.map_eq_some_iff.mp e3
  obtain ⟨j1, j2⟩ := h.st k (l x2) (l x1) (l x3) h1 (by rw [List.getElem?_map, f1]; rfl) (by rw [List.getElem?_map, f2]; rfl) (by rw [List.getElem?_map, f3]; rfl)
  have q1 := s x1
  have q2 := s x2
  have q3 := s x3
  refine ⟨by rw [q1.a, q3.a]; exact j1, ?_⟩
  rw [q1.b]
  exact Nat.lt_of_le_of_lt q2.c j2
theorem labS_shr {bs : List Nat} {l l' : Nat → Lb} (s : ∀ b, Shr (l b) (l' b)) : Shr (labS (bs.map l)) (labS (bs.map l')) := by
  unfold labS
  rw [List.head?_map, List.head?_map, List.getLast?_map, List.getLast?_map]
  refine ⟨?_, ?_, ?_⟩
  · cases bs.head? with
    | none => rfl
    | some b => exact congrArg (· + 1) (s b).a
  · cases bs.head? with
    | none => rfl
    | some b => exact (s b).b
  · cases bs.getLast? with
    | none => exact Nat.le_refl _
    | some b => exact (s b).c
/-! ### the chain of stems over a twig -/
structure Chn (G : Gs) (n : Nat) (tl : Lb) (x : Nat) (ch : List Nat) (l' : Nat → Lb) : Prop where
  nI : n ∈ ch
  xI : x ∈ ch
  le : ∀ c ∈ ch, c ∈ G.ns ∧ n ≤ c ∧ c ≤ x
  off : ∀ c, c ∉ ch → l' c = G.l c
  at_ : l' n = tl
  shr : ∀ c, Shr (G.l c) (l' c)
  st : ∀ c ∈ ch, c ≠ n → ∃ bs, G.t c = .stem bs ∧ l' c = labS (bs.map l')
  up : ∀ c ∈ ch, c ≠ x → ∀ m ∈ G.ab c, m ∈ ch
theorem chn_0 {G : Gs} {n : Nat} {tl : Lb} (hn : n ∈ G.ns) (s : Shr (G.l n) tl) : Chn G n tl n [n] (setF G.l n tl) :=
  ⟨List.mem_singleton.mpr rfl, List.mem_singleton.mpr rfl, fun c hc => by rw [List.mem_singleton.mp hc]; exact ⟨hn, Nat.le_refl _, Nat.le_refl _⟩, fun c hc => setF_ne fun z => hc (List.mem_singleton.mpr z), setF_same, fun c => by
    by_cases e : c = n
    · subst e
      rw [setF_same]
      exact s
    · rw [setF_ne e]
      exact Shr.refl _, fun c hc e => absurd (List.mem_singleton.mp hc) e, fun c hc e => absurd (List.mem_singleton.mp hc) e⟩
theorem Chn.step {G : Gs} {n x p : Nat} {tl : Lb} {ch : List Nat} {l' : Nat → Lb} (w : WF G) (C : Chn G n tl x ch l') (e : G.ab x = [p]) :
    ∃ bs, G.t p = .stem bs ∧ p ∈ G.ns ∧ x < p ∧ p ∉ ch ∧ LabOk (bs.map l') ∧ (∀ b ∈ bs, b ∈ G.ns) ∧ Chn G n tl p (ch ++ [p]) (setF l' p (labS (bs.map l'))) := by
  obtain ⟨hx, hnx, _⟩ := C.le x C.xI
  obtain ⟨hp, bs, e1, e2⟩ := (w.ab x hx p).mp (by rw [e]; exact List.mem_singleton.mpr rfl)
  obtain ⟨h1, h2, h3⟩ := w.st p hp bs e1
  have hxp := (h3 x e2).2
  have hpc : p ∉ ch := fun q => by
    have := (C.le p q).2.2
    omega
  have keep : ∀ cs : List Nat, (∀ b ∈ cs, b < p) → cs.map (setF l' p (labS (bs.map l'))) = cs.map l' := fun cs h => List.map_congr_left fun b hb => setF_ne fun z => by
    have := h b hb
    omega
  refine ⟨bs, e1, hp, hxp, hpc, labok_shr h1 C.shr, fun b hb => (h3 b hb).1, List.mem_append_left _ C.nI, List.mem_append_right _ (List.mem_singleton.mpr rfl), fun c hc => ?_, fun c hc => ?_, ?_, fun c => ?_, fun c hc hcn => ?_, fun c hc hcp m hm => ?_⟩
  · rcases List.mem_append.mp hc with hc | hc
    · obtain ⟨j1, j2, j3⟩ := C.le c hc
      exact ⟨j1, j2, by omega⟩
    · rw [List.mem_singleton.mp hc]
      exact ⟨hp, by omega, Nat.le_refl _⟩
  · rw [setF_ne fun z => hc (List.mem_append_right _ (List.mem_singleton.mpr z))]
    exact C.off c fun z => hc (List.mem_append_left _ z)
  · rw [setF_ne fun z => by omega]
    exact C.at_
  · by_cases q : c = p
    · subst q
      rw [setF_same, h2]
      exact labS_shr C.shr
    · rw [setF_ne q]
      exact C.shr c
  · rcases List.mem_append.mp hc with hc | hc
    · obtain ⟨cs, j1, j2⟩ := C.st c hc hcn
      obtain ⟨j3, _, j4⟩ := C.le c hc
      refine ⟨cs, j1, ?_⟩
      rw [setF_ne fun z => by omega, keep cs fun b hb => by have := ((w.st c j3 cs j1).2.2 b hb).2; omega]
      exact j2
    · rw [List.mem_singleton.mp hc]
      refine ⟨bs, e1, ?_⟩
      rw [setF_same, keep bs fun b hb => (h3 b hb).2]
  · rcases List.mem_append.mp hc with hc | hc
    · by_cases q : c = x
      · subst q
        rw [e] at hm
        exact List.mem_append_right _ hm
      · exact List.mem_append_left _ (C.up c hc q m hm)
    · exact absurd (List.mem_singleton.mp hc) hcp
/-! ### a twig is changed -/
def chG (G : Gs) (n : Nat) (t' : Twg) (l' : Nat → Lb) : Gs := { G with t := setF G.t n t', l := l' }
theorem chn_st {G : Gs} {n x m : Nat} {tl : Lb} {ch bs : List Nat} {l' : Nat → Lb} (w : WF G) (C : Chn G n tl x ch l') (ex : G.ab x = []) (hm : m ∈ G.ns) (hmn : m ≠ n) (e : G.t m = .stem bs) : LabOk (bs.map l') ∧ l' m = labS (bs.map l') := by
  obtain ⟨h1, h2, h3⟩ := w.st m hm bs e
  by_cases q : m ∈ ch
  · obtain ⟨cs, j1, j2⟩ := C.st m q hmn
    rw [e] at j1
    cases j1
    exact ⟨labok_shr h1 C.shr, j2⟩
  · have eb : bs.map l' = bs.map G.l := List.map_congr_left fun b hb => C.off b fun z => by
      have hbm : m ∈ G.ab b := (w.ab b (h3 b hb).1 m).mpr ⟨hm, bs, e, hb⟩
      by_cases qx : b = x
      · subst qx
        rw [ex] at hbm
        exact List.not_mem_nil hbm
      · exact q (C.up b z qx m hbm)
    rw [eb, C.off m q]
    exact ⟨h1, h2⟩
theorem wf_leaf {G : Gs} {n x : Nat} {rows rows' : List (Nat × PyData)} {ch : List Nat} {l' : Nat → Lb} (w : WF G) (hn : n ∈ G.ns) (et : G.t n = .leaf rows) (ok : RowsOk rows') (C : Chn G n (labR rows') x ch l') (ex : G.ab x = []) : WF (chG G n (.leaf rows') l') := by
  have tn : ∀ {m}, m ≠ n → setF G.t n (.leaf rows') m = G.t m := fun h => setF_ne h
  refine ⟨w.lt, w.h0, w.so, fun m hm r e => ?_, fun m hm bs e => ?_, fun b hb m => ?_, w.abs, w.lv⟩
  · have e : setF G.t n (.leaf rows') m = .leaf r := e
    by_cases q : m = n
    · subst q
      rw [setF_same] at e
      cases e
      exact ⟨ok, C.at_⟩
    · rw [tn q] at e
      obtain ⟨j1, j2⟩ := w.lf m hm r e
      refine ⟨j1, ?_⟩
      show l' m = _
      rw [← j2]
      refine C.off m fun z => ?_
      obtain ⟨bs, j3, _⟩ := C.st m z q
      rw [e] at j3
      cases j3
  · have e : setF G.t n (.leaf rows') m = .stem bs := e
    by_cases q : m = n
    · subst q
      rw [setF_same] at e
      cases e
    · rw [tn q] at e
      obtain ⟨j1, j2⟩ := chn_st w C ex hm q e
      exact ⟨j1, j2, (w.st m hm bs e).2.2⟩
  · refine (w.ab b hb m).trans ⟨fun ⟨j1, bs, j2, j3⟩ => ⟨j1, bs, ?_, j3⟩, fun ⟨j1, bs, j2, j3⟩ => ⟨j1, bs, ?_, j3⟩⟩
    · show setF G.t n (.leaf rows') m = _
      rw [tn fun z => by rw [z, et] at j2; cases j2]
      exact j2
    · have j2 : setF G.t n (.leaf rows') m = .stem bs := j2
      by_cases q : m = n
      · subst q
        rw [setF_same] at j2
        cases j2
      · rw [tn q] at j2
        exact j2
/-- the last branch z is let go -/
def chS (G : Gs) (n : Nat) (bs' : List Nat) (z : Nat) (l' : Nat → Lb) : Gs := { ns := G.ns, t := setF G.t n (.stem bs'), h := setF G.h z (G.h z + 1), l := l', ab := setF G.ab z ((G.ab z).erase n), nx := G.nx }
theorem wf_stem {G : Gs} {n x z : Nat} {bs' : List Nat} {ch : List Nat} {l' : Nat → Lb} (w : WF G) (hn : n ∈ G.ns) (et : G.t n = .stem (bs' ++ [z])) (ok : LabOk (bs'.map G.l)) (C : Chn G n (labS (bs'.map G.l)) x ch l') (ex : G.ab x = []) : WF (chS G n bs' z l') := by
  have tn : ∀ {m}, m ≠ n → setF G.t n (.stem bs') m = G.t m := fun h => setF_ne h
  obtain ⟨s1, s2, s3⟩ := w.st n hn _ et
  have hz := (s3 z (List.mem_append_right _ (List.mem_singleton.mpr rfl))).1
  have nd : (bs' ++ [z]).Nodup := labok_lt s1 fun b hb => w.kb' (s3 b hb).1
  have hzb : z ∉ bs' := fun q => by
    have := List.nodup_append.mp nd
    exact this.2.2 z q z (List.mem_singleton.mpr rfl) rfl
  refine ⟨w.lt, fun m hm => ?_, w.so, fun m hm r e => ?_, fun m hm bs e => ?_, fun b hb m => ?_, fun b hb => ?_, fun m hm => ?_⟩
  · show 0 ≤ setF G.h z (G.h z + 1) m
    by_cases q : m = z
    · subst q
      rw [setF_same]
      have := w.h0 m hm
      omega
    · rw [setF_ne q]
      exact w.h0 m hm
  · have e : setF G.t n (.stem bs') m = .leaf r := e
    by_cases q : m = n
    · subst q
      rw [setF_same] at e
      cases e
    · rw [tn q] at e
      obtain ⟨j1, j2⟩ := w.lf m hm r e
      refine ⟨j1, ?_⟩
      show l' m = _
      rw [← j2]
      refine C.off m fun zz => ?_
      obtain ⟨bs, j3, _⟩ := C.st m zz q
      rw [e] at j3
      cases j3
  · have e : setF G.t n (.stem bs') m = .stem bs := e
    by_cases q : m = n
    · subst q
      rw [setF_same] at e
      cases e
      have eb : bs'.map l' = bs'.map G.l := List.map_congr_left fun b hb => C.off b fun zz => by
        have j1 := (s3 b (List.mem_append_left _ hb)).2
        have j2 := (C.le b zz).2.1
        omega
      show LabOk (bs'.map l') ∧ l' m = labS (bs'.map l') ∧ _
      rw [eb]
      exact ⟨ok, C.at_, fun b hb => s3 b (List.mem_append_left _ hb)⟩
    · rw [tn q] at e
      obtain ⟨j1, j2⟩ := chn_st w C ex hm q e
      exact ⟨j1, j2, (w.st m hm bs e).2.2⟩
  · show m ∈ setF G.ab z ((G.ab z).erase n) b ↔ m ∈ G.ns ∧ ∃ bs, setF G.t n (.stem bs') m = .stem bs ∧ b ∈ bs
    have nb : ∀ b ∈ G.ns, (G.ab b).Nodup := fun b hb => (w.abs b hb).imp fun q => Nat.ne_of_lt q
    by_cases q : b = z
    · subst q
      rw [setF_same, (nb b hb).mem_erase_iff, w.ab b hb m]
      constructor
      · rintro ⟨j0, j1, bs, j2, j3⟩
        exact ⟨j1, bs, by rw [tn j0]; exact j2, j3⟩
      · rintro ⟨j1, bs, j2, j3⟩
        by_cases qm : m = n
        · subst qm
          rw [setF_same] at j2
          cases j2
          exact absurd j3 hzb
        · rw [tn qm] at j2
          exact ⟨qm, j1, bs, j2, j3⟩
    · rw [setF_ne q, w.ab b hb m]
      constructor
      · rintro ⟨j1, bs, j2, j3⟩
        by_cases qm : m = n
        · subst qm
          rw [et] at j2
          cases j2
          refine ⟨j1, bs', setF_same, ?_⟩
          rcases List.mem_append.mp j3 with j3 | j3
          · exact j3
          · exact absurd (List.mem_singleton.mp j3) q
        · exact ⟨j1, bs, by rw [tn qm]; exact j2, j3⟩
      · rintro ⟨j1, bs, j2, j3⟩
        by_cases qm : m = n
        · subst qm
          rw [setF_same] at j2
          cases j2
          exact ⟨j1, _, et, List.mem_append_left _ j3⟩
        · rw [tn qm] at j2
          exact ⟨j1, bs, j2, j3⟩
  · show (setF G.ab z ((G.ab z).erase n) b).Pairwise _
    by_cases q : b = z
    · subst q
      rw [setF_same]
      exact (w.abs b hb).sublist List.erase_sublist
    · rw [setF_ne q]
      exact w.abs b hb
  · show 0 < setF G.h z (G.h z + 1) m ∨ setF G.ab z ((G.ab z).erase n) m ≠ []
    by_cases q : m = z
    · subst q
      rw [setF_same]
      have := w.h0 m hm
      exact .inl (by omega)
    · rw [setF_ne q, setF_ne q]
      exact w.lv m hm
end Tw

set_option Elab.async false
set_option linter.all false
set_option maxRecDepth 100000
set_option maxHeartbeats 4000000
/-! Labels over a twig; a leaf, a stem are changed. -/
namespace Tw
open PySem PySem.Spec PyProof.Rows L2
open He (ga ma)
def spTagsBehind (K : PySem.W.Frag) : Sp := fun vs H Q _ => ∃ g S G sn n tv tl, vs = [.ref S.p, iV n, tv] ∧ ShAt K g H S G sn ∧ WF G ∧ GridOk g ∧ n ∈ G.ns ∧ Alone G n ∧ G.nx ≤ 900 ∧ Tp H tv (labD g tl) ∧ Shr (G.l n) tl ∧
  ∀ q fv ch x l' H', Same H H' → H q = none → H' q = some (.dK (dM ch fv)) → (∀ c ∈ ch, Tp H' (fv c) (labD g (l' c))) → Chn G n tl x ch l' → G.ab x = [] → ch.length ≤ G.nx → Q (.ref q) H'
section
variable {K : PySem.W.Frag} {σ : L2.St} {H H' : Hp} {td ty tx te : TE} {a : Addr} {y v d : V} {o : Option V} {k : Key}
theorem at_dget2 (hd : At td σ H (.ref a)) (hi : IsD H a) (hy : At ty σ H y) (hx : At tx σ H d) (g : DGet H a y o) (e : o.getD d = v) : At (tDGet2 td ty tx) σ H v := fun Q q => hd _ ⟨a, rfl, hi, hy _ (hx _ ⟨o, g, by rw [e]; exact q⟩)⟩
theorem wp_callW {sp : Sp} {E : XK} {Q : VK} (h : te σ H fun x H1 => sp [x] H1 Q E) : tCall sp [] E (tCons te tNil) σ H Q := h
theorem isD_k {kvs : List (Key × V)} (h : H a = some (.dK kvs)) : IsD H a := .inl ⟨kvs, .inl h⟩
theorem disp1 {tk tv : TE} {Q : VK} (hk : ∀ p, H p = none → At tk σ (upd H p (.dK [])) (kV k)) (hv : ∀ p, H p = none → At tv σ (upd H p (.dK [])) v) (q : ∀ p, H p = none → Q (.ref p) (upd H p (.dK [(k, v)]))) : tDisp [(tk, tv)] σ H Q := fun p hp =>
  hk p hp _ (hv p hp _ ⟨upd_same, [(k, v)], rfl, Nat.le_add_left _ _, by
    have e : upd (upd H p (.dK [])) p (.dK (mergeK [] [(k, v)])) = upd H p (.dK [(k, v)]) := by
      funext x
      by_cases e : x = p
      · subst e
        rw [upd_same, upd_same]
        rfl
      · rw [upd_ne e, upd_ne e, upd_ne e]
    rw [e]
    exact q p hp⟩)
end
section
variable {P : Program} {w : World} {K : PySem.W.Frag} {mg : Str → Option Value} {base : Heap}
theorem sc_tags_behind : FnScope ["self", "number", "tag", "found", "here", "branch"] ["self", "number", "tag"] (defScope (shm 15)) := ⟨rfl, rfl, rfl, by decide +kernel, rfl, by decide +kernel, by decide +kernel⟩
theorem ok_tags_behind (T : TX K mg) (F : Fd K "tags_behind" "Shelf.tags_behind" (shm 15) (ma K (ga K "Shelf") "tags_behind")) (G_label_over : OkF P w K mg base (L2.CX P w) 6 (ga K "label_over") ["labels"] (spLabelOver K)) :
    OkF P w K mg base CX0 7 (ma K (ga K "Shelf") "tags_behind") ["self", "number", "tag"] (spTagsBehind K) := by
  refine mkOk F sc_tags_behind (fun vs H Q E h => ?_) (fun _ _ _ _ _ _ us hl => match us, hl with | [_, _, _], _ => rfl) (fun cdv A outer s H vs Q E hr h => ?_)
  · obtain ⟨g, S, G, sn, n, tv, tl, rfl, _⟩ := h
    rfl
  · obtain ⟨g, S, G, sn, n, tv, tl, rfl, A0, wf, GO, hn, al, hnx, htv, hsh, k⟩ := h
    have hu := hu_of hr
    have nd := sc_tags_behind.nd
    refine ⟨_, (pss_cons (ps_set (i := 3) nd rfl (by first | exact Or.inl rfl | exact Or.inr rfl) (pe_disp (pps_cons (pv 1) (pv 2) pps_nil) (by rfl) (by rfl) (fun z => by cases z) (by decide)))
      (pss_cons (ps_set (i := 4) nd rfl (by first | exact Or.inl rfl | exact Or.inr rfl) (pv 1))
      (pss_cons (ps_while PassesOwn.never (pt_cmpR (op_neD hr.units) (pe_dget hu (pe_fld (pv 0) rfl) (pv 4) (fun _ _ => rfl)) (pe_lst pa_nil) (nomark _)) (pss_cons (ps_set (i := 4) nd rfl (by first | exact Or.inl rfl | exact Or.inr rfl) (pe_ix ix_list (pe_dget hu (pe_fld (pv 0) rfl) (pv 4) (fun _ _ => rfl)) pe_int (fun _ _ => rfl)))
      (pss_one (ps_dput hu (pv 3) (pv 4) (pe_cX G_label_over (hr.mono (by decide)) rfl T.g_label_over passL (pa_cons (pe_lc (own := [("branch", 5)]) (by rfl) nd (pi_tup (pe_ix ix_tup (pe_dget hu (pe_fld (pv 0) rfl) (pv 4) (fun _ _ => rfl)) pe_int (fun _ _ => rfl))) (blkOk_by (N := ["self", "number", "tag", "found", "here", "branch"]) (sc := defScope (shm 15)) (own := [("branch", 5)]) (by decide +kernel)) (fun _ _ _ _ _ => (pg_name (i := 5) nd rfl (by first | exact Or.inl rfl | exact Or.inr rfl))) (fun _ _ _ _ _ => pts_nil) (fun _ _ _ _ _ => pe_dget2 hu (pv 3) (pv 5) (pe_dget hu (pe_fldK (K := K) rfl (pv 0) rfl) (pv 5) (fun _ _ => rfl)) ⟨rfl, rfl, rfl, rfl⟩)) pa_nil)) rfl))))
      (pss_one (ps_ret (pv 3)))))), ?_⟩
    refine sq_as (disp1 (k := nK n) (v := tv) (fun p hp => at_var rfl) (fun p hp => at_var rfl) fun q hq => ?_)
    have s0 := same_new (o := .dK [(nK n, tv)]) hq
    refine sq_set (at_var rfl) (sq_while (fun m σ' H' => ∃ x y ch l' fv, σ' = [some (.ref S.p), some (iV n), some tv, some (.ref q), some (iV x), y] ∧ Same H H' ∧ Alone G x ∧ Chn G n tl x ch l' ∧ H' q = some (.dK (dM ch fv)) ∧ (∀ c ∈ ch, Tp H' (fv c) (labD g (l' c))) ∧ ch.length ≤ x + 1 ∧ m = G.nx - x) (G.nx - n)
      ⟨n, none, [n], _, fun _ => tv, rfl, s0, al, chn_0 hn hsh, upd_same, fun c hc => by rw [List.mem_singleton.mp hc, setF_same]; exact htv.sm s0, Nat.le_add_left _ _, rfl⟩ ?_)
    rintro m σ' H1 ⟨x, y, ch, l', fv, rfl, s1, ax, C, hq1, hfv, hcl, rfl⟩
    have A1 := A0.same s1
    obtain ⟨hx, hnx1, _⟩ := C.le x C.xI
    have hxn := wf.lt x hx
    refine ⟨!(G.ab x).isEmpty, smt_test (sm_neNil (at_dget (A1.c.above T (at_var rfl)) (at_var rfl) (A1.dga hx)) (A1.al x hx)), fun hb H2 s2 => ?_, fun hb H2 s2 => ?_⟩
    · obtain ⟨p, ep, ap⟩ : ∃ p, G.ab x = [p] ∧ Alone G p := by
        cases ax with
        | top e _ => rw [e] at hb; cases hb
        | up e _ h => exact ⟨_, e, h⟩
      obtain ⟨bs, et, hp, hxp, hpc, lok, hbs, C'⟩ := C.step wf ep
      have A2 := A1.same s2
      have al2 := A2.al x hx
      rw [ep] at al2
      refine sq_set (at_ixL (at_dget (A2.c.above T (at_var rfl)) (at_var rfl) (A2.dga hx)) at_c al2 (atI_nat (j := 0) rfl)) ?_
      obtain ⟨tp, ys, e1, ht, hy⟩ := (A2.kd p hp).tup_inv
      rw [et] at hy
      cases hy with
      | @cons y0 _ _ _ h1 h2 =>
        cases h2 with
        | @cons y1 _ _ _ h2 h3 =>
          cases h3
          cases h1
          obtain ⟨wt, zs, rfl, hwt, hzs⟩ := h2.tup_inv
          have ez := tp_ints hzs
          subst ez
          refine st_dp (wp_callW ?_)
          refine lcT (xs := bs.map iV) (fun j y H' => ∃ b, bs[j]? = some b ∧ Tp H' y (labD g (l' b))) (fun j y H1 H2 tk ⟨b, e, h⟩ => ⟨b, e, h.mono tk _ _⟩) (at_ixT (at_dget (A2.c.kept T (at_var rfl)) (at_var rfl) (by have := A2.dgk hp; rw [e1] at this; exact this)) at_c ht (atI_nat (j := 1) rfl)) hwt (by rw [List.length_map]; have := lok.l4; rw [List.length_map] at this; omega) (fun j y2 H3 hj s3 Q2 q2 => ?_) fun D H3 us hD s3 hus hul hur => ?_
          · rw [List.getElem?_map] at hj
            obtain ⟨b, hb2, rfl⟩ := Option.map_eq_some_iff.mp hj
            have hbn := hbs b (List.mem_of_getElem? hb2)
            have A3 := A2.same s3
            have hq3 := s3 _ _ (s2 _ _ hq1)
            by_cases ec : b ∈ ch
            · exact at_dget2 (v := fv b) (at_var rfl) (isD_k hq3) (at_var rfl) (at_dget (A3.c.tags T (at_var rfl)) (at_var rfl) (A3.dgt hbn)) (dget_dM hq3 ec) rfl _ (q2 _ _ (Same.refl _) ⟨b, hb2, (hfv b ec).sm (s2.trans s3)⟩)
            · refine at_dget2 (v := S.tv b) (at_var rfl) (isD_k hq3) (at_var rfl) (at_dget (A3.c.tags T (at_var rfl)) (at_var rfl) (A3.dgt hbn)) (dnone_dM hq3 ec) rfl _ (q2 _ _ (Same.refl _) ⟨b, hb2, ?_⟩)
              rw [C.off b ec]
              exact A3.td b hbn
          · have hxs : TpA H3 us ((bs.map l').map (labD g)) := TpA.of_get (by rw [List.length_map, List.length_map, hul, List.length_map]) fun i v d f1 f2 => by
              obtain ⟨b, f3, f4⟩ := hur i v f1
              rw [List.getElem?_map, List.getElem?_map, f3] at f2
              cases f2
              exact f4
            have hk : ∀ l ∈ bs.map l', l.lo < 64 ∧ l.hi < 64 := fun l hl => by
              obtain ⟨b, hb2, rfl⟩ := List.mem_map.mp hl
              have kb := wf.kb' (hbs b hb2)
              have sh := C.shr b
              have k1 := kb.a
              have k2 := kb.b
              have k3 := sh.b
              have k4 := sh.c
              exact ⟨by omega, by omega⟩
            exact ⟨g, D, us, bs.map l', rfl, hus, hxs, by have := lok.l4; omega, GO, hk, fun _ v H4 s4 hv => by
              have hq4 := s4 _ _ (s3 _ _ (s2 _ _ hq1))
              refine dpk (at_var rfl) (at_var rfl) (dput_new hq4 hpc (by omega)) ?_
              have tk : TK H4 (upd H4 q (.dK (dM (ch ++ [p]) (setF fv p v)))) := TK.upd hq4 fun _ z => by cases z
              refine ⟨G.nx - p, by have := wf.lt p hp; omega, p, y, ch ++ [p], _, _, rfl, same_mut (((s1.trans s2).trans s3).trans s4) hq, ap, C', upd_same, fun c hc => ?_, by rw [List.length_append]; show _ + 1 ≤ _; omega, rfl⟩
              by_cases ec : c = p
              · subst ec
                rw [setF_same, setF_same]
                exact hv.mono tk _ _
              · rw [setF_ne ec, setF_ne ec]
                rcases List.mem_append.mp hc with hc | hc
                · exact ((hfv c hc).sm ((s2.trans s3).trans s4)).mono tk _ _
                · exact absurd (List.mem_singleton.mp hc) ec, fun h => absurd lok h⟩
    · have e : G.ab x = [] := by
        cases e : G.ab x with
        | nil => rfl
        | cons a r => rw [e] at hb; cases hb
      exact st_ret (at_var rfl) (k q fv ch x l' H2 (s1.trans s2) hq (s2 _ _ hq1) (fun c hc => (hfv c hc).sm s2) C e (by omega))
end
end Tw

set_option Elab.async false
set_option linter.all false
set_option maxRecDepth 100000
set_option maxHeartbeats 4000000
/-! A leaf, a stem are changed. -/
namespace Tw
open PySem PySem.Spec PyProof.Rows L2
open He (ga ma)
section
variable {K : PySem.W.Frag} {σ : L2.St} {H : Hp} {Q : VK} {tl tx : TE} {tt : TT} {a : Addr} {ns : List Nat} {i n : Nat}
theorem inV_ints {n : Nat} {ns : List Nat} : inV (iV n) (ns.map iV) = decide (n ∈ ns) := by
  rw [Bool.eq_iff_iff, decide_eq_true_eq]
  unfold inV
  rw [List.any_map, List.any_eq_true]
  constructor
  · rintro ⟨m, h1, h2⟩
    have h3 : ((m : Int) == (n : Int)) = true := h2
    have h4 := eq_of_beq h3
    have e : m = n := by omega
    rw [← e]
    exact h1
  · intro h
    exact ⟨n, h, show ((n : Int) == (n : Int)) = true from beq_self_eq_true _⟩
theorem flat_ints {ns : List Nat} : (ns.map iV).all flatV = true := by
  rw [List.all_map, List.all_eq_true]
  intro x _
  rfl
theorem at_inT {neg : Bool} (hx : At tx σ H (iV n)) (hl : At tl σ H (.ref a)) (h : H a = some (.tup (ns.map iV))) : At (tOp (rIn K neg) tx tl) σ H (.bl (if neg then !decide (n ∈ ns) else decide (n ∈ ns))) :=
  at_op hx hl fun Q q => ⟨a, _, rfl, .inr (SqT.of h), rfl, flat_ints, by rw [inV_ints]; exact q⟩
theorem at_inL {neg : Bool} (hx : At tx σ H (iV n)) (hl : At tl σ H (.ref a)) (h : H a = some (.lst (ns.map iV))) : At (tOp (rIn K neg) tx tl) σ H (.bl (if neg then !decide (n ∈ ns) else decide (n ∈ ns))) :=
  at_op hx hl fun Q q => ⟨a, _, rfl, .inl (SqL.of h), rfl, flat_ints, by rw [inV_ints]; exact q⟩
/-- [n for n in a list of numbers if ..] -/
theorem lcN_turn {D : Addr} (hD : H D = none) (hz : ns.length ≤ 10000) (f : Nat → Bool) {j : Nat} {x : V} {H' : Hp} (hj : (ns.map iV)[j]? = some x) (I : Same H H' ∧ H' D = some (.lst (((ns.take j).filter f).map iV)))
    (turn : ∀ n ∈ ns, ∀ H', Same H H' → SmT tt ((wipe σ [i]).set i (some (iV n))) H' (f n)) (hi : ∀ y, ((wipe σ [i]).set i (some y))[i]? = some (some y)) :
    gName i x (wipe σ [i]) H' fun σ2 H2 => wipe σ2 [i] = wipe σ [i] ∧ tt σ2 H2 fun b H3 => if b = true then tVar i σ2 H3 fun y H4 => ∃ acc, H4 D = some (.lst acc) ∧ acc.length < sizeLine ∧ (Same H (upd H4 D (.lst (acc ++ [y]))) ∧ upd H4 D (.lst (acc ++ [y])) D = some (.lst (((ns.take (j + 1)).filter f).map iV)))
      else (Same H H3 ∧ H3 D = some (.lst (((ns.take (j + 1)).filter f).map iV))) := by
  rw [List.getElem?_map] at hj
  obtain ⟨n, hn, rfl⟩ := Option.map_eq_some_iff.mp hj
  obtain ⟨s1, hd⟩ := I
  have et : ns.take (j + 1) = ns.take j ++ [n] := by
    rw [List.take_add_one, hn]
    rfl
  refine ⟨wipe1 σ i _, ?_⟩
  show tt ((wipe σ [i]).set i (some (iV n))) H' _
  refine turn n (List.mem_of_getElem? hn) H' s1 _ fun H3 s3 => ?_
  rw [et, List.filter_append]
  cases hf : f n with
  | true =>
    rw [if_pos rfl, List.filter_cons_of_pos hf]
    refine ⟨iV n, hi _, _, s3 _ _ hd, zlt ?_, same_mut (s1.trans s3) hD, ?_⟩
    · rw [List.length_map]
      have h1 := List.length_filter_le f (ns.take j)
      have h2 := List.length_take_le j ns
      have h3 : (ns.take j).length ≤ ns.length := by
        rw [List.length_take]
        exact Nat.min_le_right _ _
      omega
    · rw [upd_same, List.map_append]
      rfl
  | false =>
    rw [if_neg Bool.false_ne_true, List.filter_cons_of_neg (by rw [hf]; exact Bool.false_ne_true)]
    refine ⟨s1.trans s3, ?_⟩
    rw [s3 _ _ hd, List.filter_nil, List.append_nil]
theorem lcN (f : Nat → Bool) (hl : At tl σ H (.ref a)) (hx : H a = some (.lst (ns.map iV))) (hz : ns.length ≤ 10000) (turn : ∀ n ∈ ns, ∀ H', Same H H' → SmT tt ((wipe σ [i]).set i (some (iV n))) H' (f n))
    (done : ∀ D H', H D = none → Same H H' → H' D = some (.lst ((ns.filter f).map iV)) → Q (.ref D) H') (hi : ∀ y, ((wipe σ [i]).set i (some y))[i]? = some (some y) := by intro y; rfl) : tLc (iList K tl) (gName i) tt (tVar i) [i] σ H Q := by
  refine hl _ ⟨a, rfl, ⟨_, SqL.of hx⟩, fun D hD => lc_list (xs := ns.map iV) (fun j H' => Same H H' ∧ H' D = some (.lst (((ns.take j).filter f).map iV))) ⟨same_new hD, upd_same⟩ (fun j H' _ I => SqL.of (I.1 _ _ hx)) (fun j x H' hj I => lcN_turn hD hz f hj I turn hi) fun H' I => ?_⟩
  obtain ⟨s, h⟩ := I
  rw [List.length_map, List.take_length] at h
  exact done D H' hD s h
end
section
variable {K : PySem.W.Frag} {mg : Str → Option Value} {g : Nat → PyData} {H H' : Hp} {S : ShA} {G : Gs} {sn : List Nat} {n : Nat} {kv' : V} {t' : Twg} {ch : List Nat} {fv : Nat → V} {l' : Nat → Lb}
/-- both dicts are written -/
theorem ShAt.chg (A : ShAt K g H S G sn) (hk : Tp H kv' (keptD g t')) (hf : ∀ c ∈ ch, Tp H (fv c) (labD g (l' c))) (ho : ∀ c ∈ G.ns, c ∉ ch → l' c = G.l c) :
    ShTo K g H S G (upd (upd H S.k (.dK (dM G.ns (setF S.kv n kv')))) S.tg (.dK (dM G.ns (ovr ch fv S.tv)))) { S with kv := setF S.kv n kv', tv := ovr ch fv S.tv } (chG G n t' l') sn := by
  have c1 := A.c.uk (d := dM G.ns (setF S.kv n kv'))
  have c2 := c1.ut (d := dM G.ns (ovr ch fv S.tv))
  have tk := (A.c.tk (o := .dK (dM G.ns (setF S.kv n kv'))) (.inr (.inl rfl))).trans (c1.tk (o := .dK (dM G.ns (ovr ch fv S.tv))) (.inr (.inr (.inl rfl))))
  have lk := (A.c.lk (o := .dK (dM G.ns (setF S.kv n kv'))) (.inr (.inl rfl))).trans (c1.lk (o := .dK (dM G.ns (ovr ch fv S.tv))) (.inr (.inr (.inl rfl))))
  refine ⟨⟨c2.re ⟨rfl, rfl, rfl, rfl, rfl, rfl⟩, lk _ _ A.s, fun m hm => lk _ _ (A.al m hm), fun m hm => ?_, fun m hm => ?_, A.sal, A.ali⟩, rfl, (Fr.upd shF_k).trans (Fr.upd shF_tg), fun a h => .inl h⟩
  · show Tp _ (setF S.kv n kv' m) (keptD g (setF G.t n t' m))
    by_cases e : m = n
    · subst e
      rw [setF_same, setF_same]
      exact hk.mono tk _ _
    · rw [setF_ne e, setF_ne e]
      exact (A.kd m hm).mono tk _ _
  · show Tp _ (ovr ch fv S.tv m) (labD g (l' m))
    by_cases e : m ∈ ch
    · rw [ovr_in e]
      exact (hf m e).mono tk _ _
    · rw [ovr_out e, ho m hm e]
      exact (A.td m hm).mono tk _ _
end
/-- d.update(e) as a statement -/
theorem st_dupd {σ : L2.St} {H : Hp} {td ty : TE} {a b : Addr} {D : Ends} {kvs more : List (Key × V)} (hd : At td σ H (.ref a)) (hy : At ty σ H (.ref b)) (ne : a ≠ b) (ha : H a = some (.dK kvs)) (hb : H b = some (.dK more)) (hz : kvs.length + more.length ≤ 100000) (k : D.nx σ (upd H a (.dK (mergeK kvs more)))) : tDrop (tDUpd td ty) D σ H :=
  hd _ ⟨a, rfl, isD_k ha, hy _ ⟨b, kvs, more, rfl, ne, ha, hb, zl hz, k⟩⟩
theorem sq_dupd {σ : L2.St} {H : Hp} {td ty : TE} {a b : Addr} {D : Ends} {u : TS} {kvs more : List (Key × V)} (hd : At td σ H (.ref a)) (hy : At ty σ H (.ref b)) (ne : a ≠ b) (ha : H a = some (.dK kvs)) (hb : H b = some (.dK more)) (hz : kvs.length + more.length ≤ 100000) (k : u D σ (upd H a (.dK (mergeK kvs more)))) : tSeq (tDrop (tDUpd td ty)) u D σ H :=
  hd _ ⟨a, rfl, isD_k ha, hy _ ⟨b, kvs, more, rfl, ne, ha, hb, zl hz, k⟩⟩
theorem dec_str {x y : Str} : decide (V.str x = V.str y) = decide (x = y) := by
  by_cases e : x = y
  · subst e
    rw [decT rfl, decT rfl]
  · rw [decF e, decF fun z => e (V.str.inj z)]
theorem WF.len {G : Gs} (w : WF G) : G.ns.length ≤ G.nx := by
  have h : ∀ (ns : List Nat) (lo hi : Nat), ns.Pairwise (· < ·) → (∀ n ∈ ns, lo ≤ n ∧ n < hi) → lo ≤ hi → ns.length + lo ≤ hi := by
    intro ns
    induction ns with
    | nil =>
      intro lo hi _ _ h
      simpa using h
    | cons n r ih =>
      intro lo hi hp hb h
      rw [List.pairwise_cons] at hp
      have h1 := hb n List.mem_cons_self
      have := ih (n + 1) hi hp.2 (fun m hm => ⟨hp.1 m hm, (hb m (List.mem_cons_of_mem _ hm)).2⟩) (by omega)
      rw [List.length_cons]
      omega
  have := h G.ns 0 G.nx w.so (fun n hn => ⟨Nat.zero_le _, w.lt n hn⟩) (Nat.zero_le _)
  simpa using this
theorem wp_methW2 {σ : L2.St} {H : Hp} {ta t1 t2 : TE} {a C dx : Addr} {fs : List (Str × V)} {m : Str} {sp : Sp} {E : XK} {Q : VK} (h : At ta σ H (.ref a)) (hi : H a = some (.ins C dx fs)) (hl : fs.lookup m = none) (h2 : t1 σ H fun x H1 => t2 σ H1 fun y H2 => sp [.ref a, x, y] H2 Q E) : tMeth C m sp [] E ta (tCons t1 (tCons t2 tNil)) σ H Q :=
  h _ ⟨a, dx, fs, rfl, hi, hl, h2⟩
def spChangeLeaf (K : PySem.W.Frag) : Sp := fun vs H Q _ => ∃ g S G sn n wl xs rows rows', vs = [.ref S.p, iV n, .ref wl] ∧ ShAt K g H S G sn ∧ WF G ∧ GridOk g ∧ n ∈ G.ns ∧ Alone G n ∧ G.nx ≤ 900 ∧ G.t n = .leaf rows ∧ H wl = some (.lst xs) ∧ TpA H xs (rows'.map (rowD g)) ∧ RowsOk rows' ∧ Shr (G.l n) (labR rows') ∧
  ∀ S' H' l', WF (chG G n (.leaf rows') l') → ShTo K g H S G H' S' (chG G n (.leaf rows') l') sn → Q .non H'
section
variable {P : Program} {w : World} {K : PySem.W.Frag} {mg : Str → Option Value} {base : Heap}
theorem sc_change_leaf : FnScope ["self", "number", "rows", "found", "tags"] ["self", "number", "rows"] (defScope (shm 16)) := ⟨rfl, rfl, rfl, by decide +kernel, rfl, by decide +kernel, by decide +kernel⟩
theorem ok_change_leaf (T : TX K mg) (F : Fd K "change_leaf" "Shelf.change_leaf" (shm 16) (ma K (ga K "Shelf") "change_leaf")) (G_need : OkM P w K mg base CX0 (ga K "Shelf") "need" 1 (ma K (ga K "Shelf") "need") ["self", "number"] (spNeed0 K))
    (G_need_alone : OkM P w K mg base CX0 (ga K "Shelf") "need_alone" 4 (ma K (ga K "Shelf") "need_alone") ["self", "number"] (spNeedAlone K)) (G_checked_rows : OkF P w K mg base CX0 8 (ga K "checked_rows") ["rows"] spCheckedRows) (G_label_of_rows : OkF P w K mg base CX0 1 (ga K "label_of_rows") ["rows"] spLabelRows)
    (G_tags_behind : OkM P w K mg base CX0 (ga K "Shelf") "tags_behind" 7 (ma K (ga K "Shelf") "tags_behind") ["self", "number", "tag"] (spTagsBehind K)) :
    OkF P w K mg base CX0 9 (ma K (ga K "Shelf") "change_leaf") ["self", "number", "rows"] (spChangeLeaf K) := by
  refine mkOk F sc_change_leaf (fun vs H Q E h => ?_) (fun _ _ _ _ _ _ us hl => match us, hl with | [_, _, _], _ => rfl) (fun cdv A outer s H vs Q E hr h => ?_)
  · obtain ⟨g, S, G, sn, n, wl, xs, rows, rows', rfl, _⟩ := h
    rfl
  · obtain ⟨g, S, G, sn, n, wl, xs, rows, rows', rfl, A0, wf, GO, hn, al, hnx, et, hw, hx, RO, sh, k⟩ := h
    have hu := hu_of hr
    have nd := sc_change_leaf.nd
    obtain ⟨t, c_LEAF⟩ := T.c_LEAF
    refine ⟨_, (pss_cons (ps_expr (pe_m (pv 0) T.cl G_need (hr.mono (by decide)) (pa_cons (pv 1) pa_nil)))
      (pss_cons (ps_if (pt_cmpR op_ne (pe_ix ix_tup (pe_dget hu (pe_fld (pv 0) rfl) (pv 1) (fun _ _ => rfl)) pe_int (fun _ _ => rfl)) (pe_glob rfl c_LEAF (v := .str _) ⟨_, rfl⟩) (nomark _)) (pss_one ps_never) pss_nil)
      (pss_cons (ps_expr (pe_m (pv 0) T.cl G_need_alone (hr.mono (by decide)) (pa_cons (pv 1) pa_nil)))
      (pss_cons (ps_set (i := 3) nd rfl (by first | exact Or.inl rfl | exact Or.inr rfl) (pe_c G_checked_rows (hr.mono (by decide)) rfl T.g_checked_rows (pa_cons (pv 2) pa_nil)))
      (pss_cons (ps_try_only rfl rfl ⟨rfl, by decide, .inl T.g_NoStem⟩ takes0 (fun W0 pn xe tk0 _ => (pss_one (ps_set (i := 4) nd rfl (by first | exact Or.inl rfl | exact Or.inr rfl) (pe_m (pv 0) T.cl G_tags_behind (hr.mono (by decide)) (pa_cons (pv 1) (pa_cons (pe_c G_label_of_rows (hr.mono (by decide)) rfl T.g_label_of_rows (pa_cons (pv 3) pa_nil)) pa_nil))))))
      (fun a oe cls d pn _ _ => (pss_one ps_never)))
      (pss_cons (ps_dput hu (pe_fld (pv 0) rfl) (pv 1) (pe_tup (pa_cons (pe_glob rfl c_LEAF (v := .str _) ⟨_, rfl⟩) (pa_cons (pe_callTy (call_tuple_of) rfl T.f_tuple bt_tuple (pa_cons (pv 3) pa_nil)) pa_nil))) rfl)
      (pss_one (ps_expr (pe_dupd hu (pe_fld (pv 0) rfl) (pv 4) ⟨rfl, rfl, rfl, rfl⟩))))))))), ?_⟩
    obtain ⟨dx, ob⟩ := A0.c.ob
    have hz : G.ns.length ≤ 900 := Nat.le_trans wf.len hnx
    refine sq_drop (at_meth (at_var rfl) ob rfl (ata_cons (at_var rfl) ata_nil) fun Q q => ⟨g, S, G, sn, n, rfl, A0, hn, q⟩) ?_
    obtain ⟨tp, ys, e1, ht, hy⟩ := (A0.kd n hn).tup_inv
    rw [et] at hy
    cases hy with
    | @cons y0 ys _ _ h1 h2 =>
      cases h1
      refine sq_Fn (att_test (at_ne (at_ixT (at_dget (A0.c.kept T (at_var rfl)) (at_var rfl) (by have := A0.dgk hn; rw [e1] at this; exact this)) at_c ht (atI_nat (j := 0) rfl)) at_c rfl (b := true) (by rw [dec_str]; exact decT rfl))) ?_
      refine sq_dr (wp_meth (at_var rfl) ob rfl (ata_cons (at_var rfl) ata_nil) ⟨g, S, G, sn, n, rfl, A0, wf.up, hn, al, fun H1 s1 => ?_⟩)
      refine sq_as (wp_call (ata_cons (at_var rfl) ata_nil) ⟨g, wl, xs, rows', rfl, s1 _ _ hw, hx.sm s1, RO, GO, fun q zs H2 s2 hq hq2 hzs => ?_⟩)
      have A2 := (A0.same s1).same s2
      obtain ⟨dx2, ob2⟩ := A2.c.ob
      refine sq_as (wp_methW2 (at_var rfl) ob2 rfl (at_then (at_var rfl) ?_))
      refine (wp_call (ata_cons (at_var rfl) ata_nil) ⟨g, q, zs, rows', rfl, hq2, hzs, (fun e => by have := RO.l1; rw [e] at this; simp at this), fun v H3 s3 hv => ?_⟩)
      refine ⟨g, S, G, sn, n, v, labR rows', rfl, A2.same s3, wf, GO, hn, al, hnx, hv, sh, fun d fv ch x l' H4 s4 hd hd4 hfv C ex hcl => ?_⟩
      have A4 := (A2.same s3).same s4
      have hq4 := s4 _ _ (s3 _ _ hq2)
      have hz4 := hzs.sm (s3.trans s4)
      refine sq_dp ⟨_, rfl, q, zs, rfl, .inl ⟨SqL.of hq4, fun q1 n1 => ⟨z2, fun q2 n2 => ?_⟩⟩⟩
      have s5 := (same_new (o := .tup zs) n1).trans (same_new (o := .tup [.str "leaf", .ref q1]) n2)
      have A5 := A4.same s5
      refine dpk (A5.c.kept T (at_var rfl)) (at_var rfl) (dput_old A5.c.k hn (by omega)) ?_
      have hd5 := s5 _ _ hd4
      have ndk : S.k ≠ d := ne_of_none ((A2.same s3).c.k) hd
      have ndt : S.tg ≠ d := ne_of_none ((A2.same s3).c.tg) hd
      have c6 := A5.c.uk (d := dM G.ns (setF S.kv n (.ref q2)))
      refine st_dupd (c6.tags T (at_var rfl)) (at_var rfl) ndt c6.tg (by rw [upd_ne ndk.symm]; exact hd5) (by rw [dM_length, dM_length]; omega) ?_
      rw [mergeK_dM fun c hc => (C.le c hc).1]
      refine k { S with kv := setF S.kv n (.ref q2), tv := ovr ch fv S.tv } _ l' (wf_leaf wf hn et RO C ex) ?_
      refine ShTo.pre ((((s1.trans s2).trans s3).trans s4).trans s5) (A5.chg (t' := .leaf rows') (Tp.mk n2 (.cons (.str _) (.cons (Tp.mk n1 hz4) .nil))) (fun c hc => (hfv c hc).sm s5) fun c _ hc => C.off c hc)
end
def spChangeStem (K : PySem.W.Frag) : Sp := fun vs H Q _ => ∃ g S G sn n wl bs z, vs = [.ref S.p, iV n, .ref wl] ∧ ShAt K g H S G sn ∧ WF G ∧ GridOk g ∧ n ∈ G.ns ∧ Alone G n ∧ G.nx ≤ 900 ∧ G.t n = .stem (bs ++ [z]) ∧ 2 ≤ bs.length ∧ H wl = some (.lst (bs.map iV)) ∧
  ∀ S' H' l', WF (chS G n bs z l') → ShTo K g H S G H' S' (chS G n bs z l') sn → Q .non H'
theorem labok_init {bs : List Nat} {z : Nat} {l : Nat → Lb} (h : LabOk ((bs ++ [z]).map l)) (h2 : 2 ≤ bs.length) : LabOk (bs.map l) := by
  have h4 := h.l4
  rw [List.length_map, List.length_append] at h4
  refine ⟨by rw [List.length_map]; exact h2, by rw [List.length_map]; omega, fun k a b y h1 e1 e2 e3 => h.st k a b y h1 ?_ ?_ ?_⟩
  · rw [List.map_append, List.getElem?_append_left (List.getElem?_eq_some_iff.mp e1).1]; exact e1
  · rw [List.map_append, List.getElem?_append_left (List.getElem?_eq_some_iff.mp e2).1]; exact e2
  · rw [List.map_append, List.getElem?_append_left (List.getElem?_eq_some_iff.mp e3).1]; exact e3
theorem labS_init {bs : List Nat} {z : Nat} {l : Nat → Lb} (h : LabOk ((bs ++ [z]).map l)) (h2 : 2 ≤ bs.length) (kb : ∀ b ∈ bs ++ [z], KB (l b)) : Shr (labS ((bs ++ [z]).map l)) (labS (bs.map l)) := by
  cases bs with
  | nil => simp at h2
  | cons a r =>
    refine ⟨rfl, rfl, ?_⟩
    have hl : ((a :: r ++ [z]).map l).getLast? = some (l z) := by
      rw [List.map_append, List.getLast?_append]
      rfl
    show ((((a :: r).map l).getLast?).map (·.hi)).getD 0 ≤ ((((a :: r ++ [z]).map l).getLast?).map (·.hi)).getD 0
    rw [hl]
    rw [List.getLast?_eq_getElem?, List.length_map]
    have e1 : ((a :: r).map l)[(a :: r).length - 1]? = some (l (a :: r)[(a :: r).length - 1]) := by
      rw [List.getElem?_map, List.getElem?_eq_getElem (by simp)]
      rfl
    rw [e1]
    have q := (h.st (a :: r).length (l (a :: r)[(a :: r).length - 1]) (l z) (l a) (by simp) (by rw [List.map_append, List.getElem?_append_right (by simp)]; simp) (by rw [List.map_append, List.getElem?_append_left (by simp)]; exact e1) rfl).2
    have k2 := (kb z (List.mem_append_right _ (List.mem_singleton.mpr rfl))).a
    show (l (a :: r)[(a :: r).length - 1]).hi ≤ (l z).hi
    omega
/-- need_held(branches), branches empty; hand_over of none -/
theorem ShAt.hand0 {K : PySem.W.Frag} {g : Nat → PyData} {H H' : Hp} {S : ShA} {G : Gs} {sn : List Nat} {m : Nat} (h : ShTo K g H S G H' S (handO G [] m) sn) : ShTo K g H S G H' S G sn := h
theorem ns_int (ns : List Nat) : ns.map iV = (ns.map fun (n : Nat) => (n : Int)).map V.int := by
  rw [List.map_map]
  rfl
theorem erase_int (ns : List Nat) (n : Nat) : ((ns.map fun (n : Nat) => (n : Int)).erase (n : Int)) = (ns.erase n).map fun (n : Nat) => (n : Int) := by
  induction ns with
  | nil => rfl
  | cons a r ih =>
    rw [List.map_cons, List.erase_cons, List.erase_cons]
    by_cases e : a = n
    · subst e
      rw [if_pos (by simp), if_pos (by simp)]
    · rw [if_neg (by simpa using fun z => e (by omega)), if_neg (by simpa using e), ih, List.map_cons]
/-- l.remove(n) as a statement, n there -/
theorem sq_rem {K : PySem.W.Frag} {W : WX} {σ : L2.St} {H : Hp} {to te : TE} {l : Addr} {ns : List Nat} {n : Nat} {D : Ends} {u : TS} (ha : At to σ H (.ref l)) (hl : H l = some (.lst (ns.map iV))) (he : At te σ H (iV n)) (hn : n ∈ ns) (k : u D σ (upd H l (.lst ((ns.erase n).map iV)))) : tSeq (tDrop (tRemX K W to te)) u D σ H :=
  ha _ ⟨.inl ⟨rfl, _, SqL.of hl⟩, he _ ⟨l, ns.map fun (n : Nat) => (n : Int), (n : Int), rfl, rfl, by rw [← ns_int]; exact hl, fun _ => by rw [erase_int, ← ns_int]; exact k, fun h => absurd (List.mem_map.mpr ⟨n, hn, rfl⟩) h⟩⟩
section
variable {P : Program} {w : World} {K : PySem.W.Frag} {mg : Str → Option Value} {base : Heap}
theorem sc_change_stem : FnScope ["self", "number", "numbers", "some", "branch", "tag", "tags", "old", "new"] ["self", "number", "numbers"] (defScope (shm 17)) := ⟨rfl, rfl, rfl, by decide +kernel, rfl, by decide +kernel, by decide +kernel⟩
theorem ok_change_stem (T : TX K mg) (F : Fd K "change_stem" "Shelf.change_stem" (shm 17) (ma K (ga K "Shelf") "change_stem")) (G_need : OkM P w K mg base CX0 (ga K "Shelf") "need" 1 (ma K (ga K "Shelf") "need") ["self", "number"] (spNeed0 K))
    (G_need_alone : OkM P w K mg base CX0 (ga K "Shelf") "need_alone" 4 (ma K (ga K "Shelf") "need_alone") ["self", "number"] (spNeedAlone K)) (G_label_over : OkF P w K mg base (L2.CX P w) 6 (ga K "label_over") ["labels"] (spLabelOver K))
    (G_need_held : OkM P w K mg base CX0 (ga K "Shelf") "need_held" 1 (ma K (ga K "Shelf") "need_held") ["self", "branches"] spNeedHeld0) (G_hand_over : OkM P w K mg base CX0 (ga K "Shelf") "hand_over" 1 (ma K (ga K "Shelf") "hand_over") ["self", "branches", "number"] (spHandOver K))
    (G_tags_behind : OkM P w K mg base CX0 (ga K "Shelf") "tags_behind" 7 (ma K (ga K "Shelf") "tags_behind") ["self", "number", "tag"] (spTagsBehind K)) :
    OkF P w K mg base CX0 9 (ma K (ga K "Shelf") "change_stem") ["self", "number", "numbers"] (spChangeStem K) := by
  refine mkOk F sc_change_stem (fun vs H Q E h => ?_) (fun _ _ _ _ _ _ us hl => match us, hl with | [_, _, _], _ => rfl) (fun cdv A outer s H vs Q E hr h => ?_)
  · obtain ⟨g, S, G, sn, n, wl, bs, z, rfl, _⟩ := h
    rfl
  · obtain ⟨g, S, G, sn, n, wl, bs, z, rfl, A0, wf, GO, hn, al, hnx, et, h2, hw, k⟩ := h
    have hu := hu_of hr
    have nd := sc_change_stem.nd
    obtain ⟨t, c_STEM⟩ := T.c_STEM
    refine ⟨_, (pss_cons (ps_expr (pe_m (pv 0) T.cl G_need (hr.mono (by decide)) (pa_cons (pv 1) pa_nil)))
      (pss_cons (ps_if (pt_cmpR op_ne (pe_ix ix_tup (pe_dget hu (pe_fld (pv 0) rfl) (pv 1) (fun _ _ => rfl)) pe_int (fun _ _ => rfl)) (pe_glob rfl c_STEM (v := .str _) ⟨_, rfl⟩) (nomark _)) (pss_one ps_never) pss_nil)
      (pss_cons (ps_expr (pe_m (pv 0) T.cl G_need_alone (hr.mono (by decide)) (pa_cons (pv 1) pa_nil)))
      (pss_cons (ps_set (i := 3) nd rfl (by first | exact Or.inl rfl | exact Or.inr rfl) (pe_callTy (call_list_of) rfl T.f_list bt_list (pa_cons (pv 2) pa_nil)))
      (pss_cons (ps_for PassesOwn.never rfl (pi_list (pv 3)) (pg_name (i := 4) nd rfl (by first | exact Or.inl rfl | exact Or.inr rfl)) (pss_one (ps_expr (pe_m (pv 0) T.cl G_need (hr.mono (by decide)) (pa_cons (pv 4) pa_nil)))))
      (pss_cons (ps_set (i := 5) nd rfl (by first | exact Or.inl rfl | exact Or.inr rfl) (pe_cX G_label_over (hr.mono (by decide)) rfl T.g_label_over passL (pa_cons (pe_lc (own := [("branch", 4)]) (by rfl) nd (pi_list (pv 3)) (blkOk_by (N := ["self", "number", "numbers", "some", "branch", "tag", "tags", "old", "new"]) (sc := defScope (shm 17)) (own := [("branch", 4)]) (by decide +kernel)) (fun _ _ _ _ _ => (pg_name (i := 4) nd rfl (by first | exact Or.inl rfl | exact Or.inr rfl))) (fun _ _ _ _ _ => pts_nil) (fun _ _ _ _ _ => pe_dget hu (pe_fldK (K := K) rfl (pv 0) rfl) (pv 4) (fun _ _ => rfl))) pa_nil)))
      (pss_cons (ps_if (pt_cmpR op_ne (pe_ix ix_tup (pv 5) pe_int (fun _ _ => rfl)) (pe_ix ix_tup (pe_dget hu (pe_fld (pv 0) rfl) (pv 1) (fun _ _ => rfl)) pe_int (fun _ _ => rfl)) (nomark _)) (pss_one ps_never) pss_nil)
      (pss_cons (ps_set (i := 6) nd rfl (by first | exact Or.inl rfl | exact Or.inr rfl) (pe_m (pv 0) T.cl G_tags_behind (hr.mono (by decide)) (pa_cons (pv 1) (pa_cons (pv 5) pa_nil))))
      (pss_cons (ps_set (i := 7) nd rfl (by first | exact Or.inl rfl | exact Or.inr rfl) (pe_ix ix_tup (pe_dget hu (pe_fld (pv 0) rfl) (pv 1) (fun _ _ => rfl)) pe_int (fun _ _ => rfl)))
      (pss_cons (ps_setLc (i := 8) (own := [("branch", 4)]) (by rfl) nd rfl rfl (sw_true rfl rfl rfl (by decide +kernel)) (pi_list (pv 3)) (blkOk_by (N := ["self", "number", "numbers", "some", "branch", "tag", "tags", "old", "new"]) (sc := defScope (shm 17)) (own := [("branch", 4)]) (by decide +kernel)) (fun _ _ _ _ _ => (pg_name (i := 4) nd rfl (by first | exact Or.inl rfl | exact Or.inr rfl))) (fun _ _ _ _ _ => (pts_one (pt_cmpR (op_ninK (K := K) rfl) (pv 4) (pv 7) rfl))) (fun _ _ _ _ _ => pv 4))
      (pss_cons (ps_expr (pe_m (pv 0) T.cl G_need_held (hr.mono (by decide)) (pa_cons (pv 8) pa_nil)))
      (pss_cons (ps_dput hu (pe_fld (pv 0) rfl) (pv 1) (pe_tup (pa_cons (pe_glob rfl c_STEM (v := .str _) ⟨_, rfl⟩) (pa_cons (pe_callTy (call_tuple_of) rfl T.f_tuple bt_tuple (pa_cons (pv 3) pa_nil)) pa_nil))) rfl)
      (pss_cons (ps_expr (pe_dupd hu (pe_fld (pv 0) rfl) (pv 6) ⟨rfl, rfl, rfl, rfl⟩))
      (pss_cons (ps_expr (pe_m (pv 0) T.cl G_hand_over (hr.mono (by decide)) (pa_cons (pv 8) (pa_cons (pv 1) pa_nil))))
      (pss_one (ps_for PassesOwn.never rfl (pi_tup (pv 7)) (pg_name (i := 4) nd rfl (by first | exact Or.inl rfl | exact Or.inr rfl)) (pss_one (ps_if (pt_cmpR op_notIn_seq (pv 4) (pv 3) rfl) (pss_cons (ps_expr (pe_remX rfl takes0 (pe_dget hu (pe_fld (pv 0) rfl) (pv 4) (fun _ _ => rfl)) (pv 1)))
      (pss_one (ps_dput hu (pe_fld (pv 0) rfl) (pv 4) (pe_op op_add (pe_dget hu (pe_fld (pv 0) rfl) (pv 4) (fun _ _ => rfl)) pe_int) rfl))) pss_nil)))))))))))))))))), ?_⟩
    obtain ⟨dx, ob⟩ := A0.c.ob
    have hz : G.ns.length ≤ 900 := Nat.le_trans wf.len hnx
    obtain ⟨s1, s2, s3⟩ := wf.st n hn _ et
    have kbs : ∀ b ∈ bs ++ [z], KB (G.l b) := fun b hb => wf.kb' (s3 b hb).1
    have hb3 : ∀ b ∈ bs, b ∈ G.ns := fun b hb => (s3 b (List.mem_append_left _ hb)).1
    have lok := labok_init s1 h2
    have lb4 : bs.length ≤ 4 := by have := lok.l4; rw [List.length_map] at this; exact this
    have shr : Shr (G.l n) (labS (bs.map G.l)) := by rw [s2]; exact labS_init s1 h2 kbs
    refine sq_drop (at_meth (at_var rfl) ob rfl (ata_cons (at_var rfl) ata_nil) fun Q q => ⟨g, S, G, sn, n, rfl, A0, hn, q⟩) ?_
    obtain ⟨tp, ys, e1, ht, hy⟩ := (A0.kd n hn).tup_inv
    rw [et] at hy
    cases hy with
    | @cons y0 ys _ _ h1 hy2 =>
      cases h1
      cases hy2 with
      | @cons y1 _ _ _ hy1 hy3 =>
      cases hy3
      obtain ⟨wt, zs, rfl, hwt, hzs⟩ := hy1.tup_inv
      have ez := tp_ints hzs
      subst ez
      have dk : DGet H S.k (.int (n : Int)) (some (.ref tp)) := by
        have := A0.dgk hn
        rw [e1] at this
        exact this
      refine sq_Fn (att_test (at_ne (at_ixT (at_dget (A0.c.kept T (at_var rfl)) (at_var rfl) dk) at_c ht (atI_nat (j := 0) rfl)) at_c rfl (b := true) (by rw [dec_str]; exact decT rfl))) ?_
      refine sq_dr (wp_meth (at_var rfl) ob rfl (ata_cons (at_var rfl) ata_nil) ⟨g, S, G, sn, n, rfl, A0, wf.up, hn, al, fun H1 t1 => ?_⟩)
      refine sq_as (cb1 (at_then (at_var rfl) ⟨_, _, rfl, .inl (SqL.of (t1 _ _ hw)), fun q hq => ?_⟩))
      have t2 := t1.trans (same_new (o := .lst (bs.map iV)) hq)
      have A2 := A0.same t2
      have hq2 : upd H1 q (.lst (bs.map iV)) q = some (.lst (bs.map iV)) := upd_same
      obtain ⟨dx2, ob2⟩ := A2.c.ob
      generalize upd H1 q (.lst (bs.map iV)) = H2 at t2 A2 hq2 ob2 ⊢
      have hqn : H q = none := t1.free hq
      refine sq_forL (at_var rfl) hq2 (fun i σ' H' => (∃ x, σ' = [some (.ref S.p), some (iV n), some (.ref wl), some (.ref q), x, none, none, none, none]) ∧ H' = H2) ⟨⟨_, rfl⟩, rfl⟩ (fun i σ' H' I => by rw [I.2]; exact hq2) (fun i x σ' H' hx I => ?_) fun σ' H' I => ?_
      · obtain ⟨⟨x0, rfl⟩, rfl⟩ := I
        rw [List.getElem?_map] at hx
        obtain ⟨b, hb, rfl⟩ := Option.map_eq_some_iff.mp hx
        exact st_drop (at_meth (at_var rfl) ob2 rfl (ata_cons (at_var rfl) ata_nil) fun Q q => ⟨g, S, G, sn, b, rfl, A2, hb3 b (List.mem_of_getElem? hb), q⟩) ⟨⟨_, rfl⟩, rfl⟩
      · obtain ⟨⟨x0, rfl⟩, rfl⟩ := I
        refine sq_as (wp_callW ?_)
        refine lcL (xs := bs.map iV) (fun j y H' => ∃ b, bs[j]? = some b ∧ Tp H' y (labD g (G.l b))) (fun j y H1 H2 tk ⟨b, e, h⟩ => ⟨b, e, h.mono tk _ _⟩) (at_var rfl) hq2 (by rw [List.length_map]; omega) (fun j y2 H3 hj t3 Q2 q2 => ?_) fun D H3 us hD t3 hus hul hur => ?_
        · rw [List.getElem?_map] at hj
          obtain ⟨b, hb2, rfl⟩ := Option.map_eq_some_iff.mp hj
          have A3 := A2.same t3
          have hbn := hb3 b (List.mem_of_getElem? hb2)
          exact at_then (at_dget (A3.c.tags T (at_var rfl)) (at_var rfl) (A3.dgt hbn)) (q2 _ _ (Same.refl _) ⟨b, hb2, A3.td b hbn⟩)
        · have hxs : TpA H3 us ((bs.map G.l).map (labD g)) := TpA.of_get (by rw [List.length_map, List.length_map, hul, List.length_map]) fun i v d f1 f2 => by
            obtain ⟨b, f3, f4⟩ := hur i v f1
            rw [List.getElem?_map, List.getElem?_map, f3] at f2
            cases f2
            exact f4
          have hk : ∀ l ∈ bs.map G.l, l.lo < 64 ∧ l.hi < 64 := fun l hl => by
            obtain ⟨b, hb2, rfl⟩ := List.mem_map.mp hl
            have kb := wf.kb' (hb3 b hb2)
            have k1 := kb.a
            have k2 := kb.b
            exact ⟨by omega, by omega⟩
          refine ⟨g, D, us, bs.map G.l, rfl, hus, hxs, by rw [List.length_map]; omega, GO, hk, fun _ tv H4 t4 htv => ?_, fun h => absurd lok h⟩
          have A4 := (A2.same t3).same t4
          obtain ⟨ta, vs, rfl, hta, hvs⟩ := htv.tup_inv
          obtain ⟨tb, us2, e2, htb, hus2⟩ := (A4.td n hn).tup_inv
          have htv2 := htv
          cases hvs with
          | @cons v0 _ _ _ f1 f2 =>
          cases hus2 with
          | @cons u0 _ _ _ f3 f4 =>
          cases f1
          cases f3
          have dt : DGet H4 S.tg (.int (n : Int)) (some (.ref tb)) := by
            have := A4.dgt hn
            rw [e2] at this
            exact this
          refine sq_Fn (att_test (at_ne (at_ixT (at_var rfl) at_c hta (atI_nat (j := 0) rfl)) (at_ixT (at_dget (A4.c.tags T (at_var rfl)) (at_var rfl) dt) at_c htb (atI_nat (j := 0) rfl)) rfl (b := true) (by rw [dec_int]; exact decT (by rw [shr.a])))) ?_
          obtain ⟨dx4, ob4⟩ := A4.c.ob
          refine sq_as (wp_meth (at_var rfl) ob4 rfl (ata_cons (at_var rfl) (ata_cons (at_var rfl) ata_nil)) ⟨g, S, G, sn, n, .ref ta, labS (bs.map G.l), rfl, A4, wf, GO, hn, al, hnx, htv2, shr, fun d fv ch x l' H5 t5 hd hd5 hfv C ex hcl => ?_⟩)
          have A5 := A4.same t5
          have t25 := (t3.trans t4).trans t5
          have ht5 := t25 _ _ (t2 _ _ ht)
          have hwt5 := t25 _ _ (t2 _ _ hwt)
          have dk5 : DGet H5 S.k (.int (n : Int)) (some (.ref tp)) := by
            have := A5.dgk hn
            rw [e1] at this
            exact this
          have hq5 := t25 _ _ hq2
          refine sq_set (at_ixT (at_dget (A5.c.kept T (at_var rfl)) (at_var rfl) dk5) at_c ht5 (atI_nat (j := 1) rfl)) ?_
          refine sq_as (lcN (fun b => !decide (b ∈ bs ++ [z])) (at_var rfl) hq5 (by omega) (fun b hb H6 t6 => (att_test (at_is (at_inT (neg := true) (at_var rfl) (at_var rfl) (t6 _ _ hwt5)) rfl)).sm) fun E6 H6 hE t6 hE6 => ?_)
          have fl : bs.filter (fun b => !decide (b ∈ bs ++ [z])) = [] := List.filter_eq_nil_iff.mpr fun b hb => by rw [decT (List.mem_append_left _ hb)]; decide
          rw [fl] at hE6
          have A6 := A5.same t6
          obtain ⟨dx6, ob6⟩ := A6.c.ob
          refine sq_drop (at_meth (at_var rfl) ob6 rfl (ata_cons (at_var rfl) ata_nil) fun Q q => ⟨S.p, E6, rfl, hE6, q⟩) ?_
          refine sq_dp ⟨_, rfl, q, _, rfl, .inl ⟨SqL.of (t6 _ _ hq5), fun q1 n1 => ⟨z2, fun q2 n2 => ?_⟩⟩⟩
          have t7 := (same_new (o := .tup (bs.map iV)) n1).trans (same_new (o := .tup [.str "stem", .ref q1]) n2)
          have A7 := A6.same t7
          refine dpk (A7.c.kept T (at_var rfl)) (at_var rfl) (dput_old A7.c.k hn (by omega)) ?_
          have t57 := t6.trans t7
          have hd7 := t57 _ _ hd5
          have ndk : S.k ≠ d := ne_of_none A4.c.k hd
          have ndt : S.tg ≠ d := ne_of_none A4.c.tg hd
          have c8 := A7.c.uk (d := dM G.ns (setF S.kv n (.ref q2)))
          refine sq_dupd (c8.tags T (at_var rfl)) (at_var rfl) ndt c8.tg (by rw [upd_ne ndk.symm]; exact hd7) (by rw [dM_length, dM_length]; omega) ?_
          rw [mergeK_dM fun c hc => (C.le c hc).1]
          have Z := A7.chg (n := n) (t' := .stem bs) (ch := ch) (fv := fv) (l' := l') (Tp.mk n2 (.cons (.str _) (.cons (Tp.mk n1 (ints_tp _)) .nil))) (fun c hc => (hfv c hc).sm t57) fun c _ hc => C.off c hc
          have keep : ∀ a o, H6 a = some o → ¬ shF S G.ns a → _ := fun a o h nf => Z.fr a o (t7 _ _ h) nf
          have nfE : ¬ shF S G.ns E6 := fun q => by
            obtain ⟨o, ho, _⟩ := A5.some_ q
            rw [hE] at ho
            cases ho
          have nfq : ¬ shF S G.ns q := fun qq => by
            obtain ⟨o, ho, _⟩ := A0.some_ qq
            rw [hqn] at ho
            cases ho
          have hE8 := keep _ _ hE6 nfE
          have hq8 := keep _ _ (t6 _ _ hq5) nfq
          have hwt8 := Z.fr _ _ (t7 _ _ (t6 _ _ hwt5)) (fun q => by
            obtain ⟨o, ho, hno, _⟩ := A0.some_ q
            rw [hwt] at ho
            cases ho
            exact hno _ rfl)
          have A8 := Z.at_
          have pre := (((t2.trans t25).trans t57))
          generalize upd (upd (upd (upd H6 q1 (.tup (bs.map iV))) q2 (.tup [.str "stem", .ref q1])) S.k (.dK (dM G.ns (setF S.kv n (.ref q2))))) S.tg (.dK (dM G.ns (ovr ch fv S.tv))) = H8 at Z keep hE8 hq8 hwt8 A8 ⊢
          obtain ⟨dx8, ob8⟩ := A8.c.ob
          refine sq_dr (wp_meth (at_var rfl) ob8 rfl (ata_cons (at_var rfl) (ata_cons (at_var rfl) ata_nil)) ⟨g, { S with kv := setF S.kv n (.ref q2), tv := ovr ch fv S.tv }, chG G n (.stem bs) l', sn, E6, [], n, rfl, A8, hE8, nfE, (fun b hb => absurd hb List.not_mem_nil), (show G.ns.length ≤ 1000 by omega), (fun m hm => ?_), fun H9 Z9 => ?_⟩)
          · show (G.ab m).length + 0 ≤ 50000
            have q1 := (wf.abs m hm)
            have q2 : (G.ab m).length ≤ G.nx := by
              have gen : ∀ (ns : List Nat) (lo hi : Nat), ns.Pairwise (· < ·) → (∀ n ∈ ns, lo ≤ n ∧ n < hi) → lo ≤ hi → ns.length + lo ≤ hi := by
                intro ns
                induction ns with
                | nil => intro lo hi _ _ h; simpa using h
                | cons n r ih =>
                  intro lo hi hp hb h
                  rw [List.pairwise_cons] at hp
                  have h1 := hb n List.mem_cons_self
                  have := ih (n + 1) hi hp.2 (fun m hm => ⟨hp.1 m hm, (hb m (List.mem_cons_of_mem _ hm)).2⟩) (by omega)
                  rw [List.length_cons]
                  omega
              have := gen (G.ab m) 0 G.nx q1 (fun x hx => ⟨Nat.zero_le _, wf.lt x ((wf.ab m hm x).mp hx).1⟩) (Nat.zero_le _)
              simpa using this
            omega
          · have A9 : ShAt K g H9 { S with kv := setF S.kv n (.ref q2), tv := ovr ch fv S.tv } (chG G n (.stem bs) l') sn := Z9.at_
            have f9 : Fr (shF S G.ns) H8 H9 := Z9.fr
            have hq9 := f9 _ _ hq8 nfq
            have nfw : ¬ shF S G.ns wt := fun q => by
              obtain ⟨o, ho, hno, _⟩ := A0.some_ q
              rw [hwt] at ho
              cases ho
              exact hno _ rfl
            have hwt9 := f9 _ _ hwt8 nfw
            have hzn := (s3 z (List.mem_append_right _ (List.mem_singleton.mpr rfl))).1
            have hzb : z ∉ bs := fun q => (List.nodup_append.mp (labok_lt s1 kbs)).2.2 z q z (List.mem_singleton.mpr rfl) rfl
            have hnz : n ∈ G.ab z := (wf.ab z hzn n).mpr ⟨hn, _, et, List.mem_append_right _ (List.mem_singleton.mpr rfl)⟩
            have frz : Fr (shF S G.ns) H H9 := (Fr.same pre).trans (Z.fr.trans f9)
            refine st_forT (at_var rfl) hwt9 (fun i σ' H' => (∃ x, σ' = [some (.ref S.p), some (iV n), some (.ref wl), some (.ref q), x, some (.ref ta), some (.ref d), some (.ref wt), some (.ref E6)]) ∧ Fr (shF S G.ns) H9 H' ∧
              ShAt K g H' { S with kv := setF S.kv n (.ref q2), tv := ovr ch fv S.tv } (if i ≤ bs.length then chG G n (.stem bs) l' else chS G n bs z l') sn) ⟨⟨_, rfl⟩, Fr.refl _ _, by rw [if_pos (Nat.zero_le _)]; exact A9⟩ (fun i σ' H' I => I.2.1 _ _ hwt9 nfw) (fun i x σ' H' hx I => ?_) fun σ' H' I => ?_
            · obtain ⟨⟨x0, rfl⟩, fr, AA⟩ := I
              rw [List.getElem?_map] at hx
              obtain ⟨b, hb, rfl⟩ := Option.map_eq_some_iff.mp hx
              have hil := (List.getElem?_eq_some_iff.mp hb).1
              rw [List.length_append] at hil
              have hil : i < bs.length + 1 := hil
              have hqq := fr _ _ hq9 nfq
              rw [if_pos (by omega)] at AA
              by_cases ei : i < bs.length
              · rw [List.getElem?_append_left ei] at hb
                refine st_Fn (att_test (at_is (at_inL (neg := true) (at_var rfl) (at_var rfl) hqq) ?_)) ⟨⟨_, rfl⟩, fr, ?_⟩
                · show V.bl (!decide (b ∈ bs)) = .bl false
                  rw [decT (List.mem_of_getElem? hb)]
                  rfl
                · rw [if_pos (by omega)]
                  exact AA
              · have e2 : i = bs.length := by omega
                subst e2
                rw [List.getElem?_append_right (Nat.le_refl _), Nat.sub_self] at hb
                cases hb
                refine st_T (att_test (at_is (at_inL (neg := true) (at_var rfl) (at_var rfl) hqq) ?_)) ?_
                · show V.bl (!decide (z ∈ bs)) = .bl true
                  rw [decF hzb]
                  rfl
                · refine sq_rem (at_dget (AA.c.above T (at_var rfl)) (at_var rfl) (AA.dga hzn)) (AA.al z hzn) (at_var rfl) hnz ?_
                  have AB := AA.setAb (b := z) (bs := (G.ab z).erase n) hzn
                  refine st_dput (at_I0 (at_dget (AB.c.freely T (at_var rfl)) (at_var rfl) (AB.dgf hzn)) at_c rfl) (AB.c.freely T (at_var rfl)) (at_var rfl) (dput_old AB.c.f hzn (show G.ns.length ≤ 1000 by omega)) ⟨⟨_, rfl⟩, fr.trans ((Fr.upd (shF_al (S := S) hzn)).trans (Fr.upd (shF_f (S := S) (G := G)))), ?_⟩
                  rw [if_neg (by omega), setF_int]
                  exact AB.setH
            · obtain ⟨_, fr, AA⟩ := I
              rw [List.length_map, List.length_append, if_neg (by show ¬ bs.length + 1 ≤ bs.length; omega)] at AA
              exact k _ _ l' (wf_stem wf hn et lok C ex) ⟨AA, rfl, frz.trans fr, fun a h => .inl h⟩
end
end Tw

set_option Elab.async false
set_option linter.all false
set_option maxRecDepth 100000
set_option maxHeartbeats 4000000
/-! What lives: the sweep on the ghost. -/
namespace Tw
open PySem PySem.Spec PyProof.Rows L2
open scoped Classical
inductive Live (G : Gs) : Nat → Prop
  | held {n : Nat} : 0 < G.h n → Live G n
  | up {n m : Nat} : m ∈ G.ab n → Live G m → Live G n
noncomputable def sweepG (G : Gs) : Gs := { G with ns := G.ns.filter fun n => decide (Live G n), ab := fun b => (G.ab b).filter fun n => decide (Live G n) }
/-- what of the shape a sweep needs -/
structure Wb (G : Gs) : Prop where
  lt : ∀ n ∈ G.ns, n < G.nx
  so : G.ns.Pairwise (· < ·)
  st : ∀ n ∈ G.ns, ∀ bs, G.t n = .stem bs → bs.Nodup ∧ bs.length ≤ 4 ∧ ∀ b ∈ bs, b ∈ G.ns ∧ b < n
  ab : ∀ b ∈ G.ns, ∀ m, m ∈ G.ab b ↔ m ∈ G.ns ∧ ∃ bs, G.t m = .stem bs ∧ b ∈ bs
  abs : ∀ b ∈ G.ns, (G.ab b).Pairwise (· < ·)
theorem WF.wb {G : Gs} (w : WF G) : Wb G := ⟨w.lt, w.so, fun n hn bs e => by
  obtain ⟨h1, h2, h3⟩ := w.st n hn bs e
  have := h1.l4
  rw [List.length_map] at this
  exact ⟨labok_lt h1 fun b hb => w.kb' (h3 b hb).1, this, h3⟩, w.ab, w.abs⟩
theorem Wb.hold {G : Gs} (w : Wb G) (n : Nat) (d : Int) : Wb (holdG G n d) := ⟨w.lt, w.so, w.st, w.ab, w.abs⟩
/-- those of D are gone -/
def goneG (G : Gs) (D : List Nat) : Gs := { G with ns := G.ns.filter fun n => decide (n ∉ D), ab := fun b => (G.ab b).filter fun n => decide (n ∉ D) }
structure Swp (G : Gs) (D td : List Nat) : Prop where
  a : ∀ d ∈ D, d ∈ G.ns ∧ ¬ Live G d
  b : ∀ b ∈ G.ns, b ∉ D → ¬ 0 < G.h b → (∀ m ∈ G.ab b, m ∈ D) → b ∈ td
  d : ∀ d ∈ D, ∀ m ∈ G.ab d, m ∈ D
theorem mem_gone {G : Gs} {D : List Nat} {n : Nat} : n ∈ (goneG G D).ns ↔ n ∈ G.ns ∧ n ∉ D := by
  show n ∈ G.ns.filter _ ↔ _
  rw [List.mem_filter, decide_eq_true_eq]
theorem gone_empty {G : Gs} {D : List Nat} {n : Nat} : (goneG G D).ab n = [] ↔ ∀ m ∈ G.ab n, m ∈ D := by
  show (G.ab n).filter _ = [] ↔ _
  rw [List.filter_eq_nil_iff]
  exact ⟨fun h m hm => by simpa using h m hm, fun h m hm => by simpa using h m hm⟩
/-- not taken: popped alone -/
theorem Swp.skip {G : Gs} {D td : List Nat} {x : Nat} (s : Swp G D (td ++ [x])) (h : ¬ (x ∈ (goneG G D).ns ∧ G.h x = 0 ∧ (goneG G D).ab x = [])) (h0 : ∀ n ∈ G.ns, 0 ≤ G.h n) : Swp G D td := by
  refine ⟨s.a, fun b hb hD hz hm => ?_, s.d⟩
  rcases List.mem_append.mp (s.b b hb hD hz hm) with q | q
  · exact q
  · rw [List.mem_singleton] at q
    subst q
    have := h0 b hb
    exact absurd ⟨mem_gone.mpr ⟨hb, hD⟩, by omega, gone_empty.mpr hm⟩ h
def branchesOf : Twg → List Nat
  | .leaf _ => []
  | .stem bs => bs
theorem Swp.take {G : Gs} {D td : List Nat} {x : Nat} (w : Wb G) (s : Swp G D (td ++ [x])) (hx : x ∈ (goneG G D).ns) (hz : G.h x = 0) (he : (goneG G D).ab x = []) : Swp G (x :: D) (td ++ branchesOf (G.t x)) := by
  obtain ⟨h1, h2⟩ := mem_gone.mp hx
  have h3 := gone_empty.mp he
  refine ⟨fun d hd => ?_, fun b hb hD hq hm => ?_, fun d hd m hm => ?_⟩
  · rcases List.mem_cons.mp hd with e | hd
    · subst e
      refine ⟨h1, fun l => ?_⟩
      cases l with
      | held q => omega
      | up q l => exact (s.a _ (h3 _ q)).2 l
    · exact s.a d hd
  · have hD2 : b ∉ D := fun q => hD (List.mem_cons_of_mem _ q)
    have hbx : b ≠ x := fun q => hD (q ▸ List.mem_cons_self)
    by_cases q : x ∈ G.ab b
    · obtain ⟨_, bs, e1, e2⟩ := (w.ab b hb x).mp q
      exact List.mem_append_right _ (by rw [e1]; exact e2)
    · have := s.b b hb hD2 hq fun m hmm => by
        rcases List.mem_cons.mp (hm m hmm) with e | e
        · exact absurd (e ▸ hmm) q
        · exact e
      rcases List.mem_append.mp this with e | e
      · exact List.mem_append_left _ e
      · exact absurd (List.mem_singleton.mp e) hbx
  · rcases List.mem_cons.mp hd with e | hd
    · subst e
      exact List.mem_cons_of_mem _ (h3 m hm)
    · exact List.mem_cons_of_mem _ (s.d d hd m hm)
theorem Swp.done {G : Gs} {D : List Nat} (w : Wb G) (s : Swp G D []) : ∀ (k n : Nat), G.nx ≤ n + k → n ∈ G.ns → n ∉ D → Live G n
  | 0, n, hk, hn, _ => by
    have := w.lt n hn
    omega
  | k + 1, n, hk, hn, hD => by
    by_cases hz : 0 < G.h n
    · exact .held hz
    · by_cases q : ∀ m ∈ G.ab n, m ∈ D
      · exact absurd (s.b n hn hD hz q) List.not_mem_nil
      · obtain ⟨m, hm, hmD⟩ : ∃ m, m ∈ G.ab n ∧ m ∉ D := by
          apply Classical.byContradiction
          intro c
          exact q fun m hm => Classical.byContradiction fun z => c ⟨m, hm, z⟩
        obtain ⟨h1, bs, h2, h3⟩ := (w.ab n hn m).mp hm
        have hlt := ((w.st m h1 bs h2).2.2 n h3).2
        exact .up hm (Swp.done w s k m (by omega) h1 hmD)
theorem Swp.live {G : Gs} {D : List Nat} (w : Wb G) (s : Swp G D []) {n : Nat} (hn : n ∈ G.ns) : Live G n ↔ n ∉ D :=
  ⟨fun l q => (s.a n q).2 l, fun q => s.done w G.nx n (by omega) hn q⟩
theorem Swp.ns {G : Gs} {D : List Nat} (w : Wb G) (s : Swp G D []) : (goneG G D).ns = (sweepG G).ns := List.filter_congr fun n hn => by
  rw [decide_eq_decide]
  exact (s.live w hn).symm
theorem Swp.ab {G : Gs} {D : List Nat} (w : Wb G) (s : Swp G D []) {b : Nat} (hb : b ∈ G.ns) : (goneG G D).ab b = (sweepG G).ab b := List.filter_congr fun n hn => by
  rw [decide_eq_decide]
  exact (s.live w ((w.ab b hb n).mp hn).1).symm
/-- one more is gone -/
theorem gone_ns {G : Gs} {D : List Nat} {x : Nat} : (goneG G D).ns.filter (· ≠ x) = (goneG G (x :: D)).ns := by
  show (G.ns.filter _).filter _ = G.ns.filter _
  rw [List.filter_filter]
  refine List.filter_congr fun n _ => ?_
  rw [← Bool.decide_and, decide_eq_decide, List.mem_cons, not_or]
theorem gone_ab {G : Gs} {D : List Nat} {x b : Nat} (h : ((G.ab b).filter fun n => decide (n ∉ D)).Nodup) : ((goneG G D).ab b).erase x = (goneG G (x :: D)).ab b := by
  show ((G.ab b).filter _).erase x = (G.ab b).filter _
  rw [h.erase_eq_filter, List.filter_filter]
  refine List.filter_congr fun n _ => ?_
  simp only [List.mem_cons, not_or, bne, ← Bool.decide_and]
  by_cases q : n = x
  · subst q
    simp
  · simp [q]
theorem gone_ab_out {G : Gs} {D : List Nat} {x b : Nat} (h : x ∉ G.ab b) : (goneG G D).ab b = (goneG G (x :: D)).ab b := by
  refine List.filter_congr fun n hn => ?_
  rw [decide_eq_decide, List.mem_cons, not_or]
  exact ⟨fun q => ⟨fun z => h (z ▸ hn), q⟩, fun q => q.2⟩
theorem gone_len {G : Gs} {D : List Nat} {x : Nat} (nd : G.ns.Nodup) (h : x ∈ (goneG G D).ns) : (goneG G (x :: D)).ns.length + 1 = (goneG G D).ns.length := by
  rw [← gone_ns]
  have e : (goneG G D).ns.filter (fun y => decide (y ≠ x)) = (goneG G D).ns.erase x := by
    have n2 : (goneG G D).ns.Nodup := nd.filter _
    rw [n2.erase_eq_filter]
    refine List.filter_congr fun n _ => ?_
    by_cases q : n = x
    · subst q
      simp
    · simp [q]
  rw [e, List.length_erase_of_mem h]
  have := List.length_pos_of_mem h
  omega
/-! ### the shape stays -/
theorem live_mono {G : Gs} {n : Nat} (h : Live G n) : Live G n := h
theorem wf_sweep {G : Gs} {n : Nat} (w : WF G) (hn : n ∈ G.ns) (hh : 0 < G.h n) : WF (sweepG (holdG G n (-1))) := by
  have mem : ∀ {m}, m ∈ (sweepG (holdG G n (-1))).ns ↔ m ∈ G.ns ∧ Live (holdG G n (-1)) m := by
    intro m
    show m ∈ G.ns.filter _ ↔ _
    rw [List.mem_filter, decide_eq_true_eq]
  have mab : ∀ {b m}, m ∈ (sweepG (holdG G n (-1))).ab b ↔ m ∈ G.ab b ∧ Live (holdG G n (-1)) m := by
    intro b m
    show m ∈ (G.ab b).filter _ ↔ _
    rw [List.mem_filter, decide_eq_true_eq]
  refine ⟨fun m hm => w.lt m (mem.mp hm).1, fun m hm => ?_, w.so.sublist List.filter_sublist, fun m hm rows e => w.lf m (mem.mp hm).1 rows e, fun m hm bs e => ?_, fun b hb m => ?_, fun b hb => (w.abs b (mem.mp hb).1).sublist List.filter_sublist, fun m hm => ?_⟩
  · show 0 ≤ setF G.h n (G.h n + -1) m
    by_cases q : m = n
    · subst q
      rw [setF_same]
      omega
    · rw [setF_ne q]
      exact w.h0 m (mem.mp hm).1
  · obtain ⟨j1, j2⟩ := mem.mp hm
    obtain ⟨k1, k2, k3⟩ := w.st m j1 bs e
    exact ⟨k1, k2, fun b hb => ⟨mem.mpr ⟨(k3 b hb).1, .up ((w.ab b (k3 b hb).1 m).mpr ⟨j1, bs, e, hb⟩) j2⟩, (k3 b hb).2⟩⟩
  · obtain ⟨j1, j2⟩ := mem.mp hb
    rw [mab, mem, w.ab b j1 m]
    exact ⟨fun ⟨⟨a1, a2⟩, a3⟩ => ⟨⟨a1, a3⟩, a2⟩, fun ⟨⟨a1, a3⟩, a2⟩ => ⟨⟨a1, a2⟩, a3⟩⟩
  · obtain ⟨j1, j2⟩ := mem.mp hm
    cases j2 with
    | held q => exact .inl q
    | up q l =>
      refine .inr fun z => ?_
      have := mab.mpr ⟨q, l⟩
      rw [z] at this
      exact List.not_mem_nil this
theorem swp_0 {G : Gs} {n : Nat} (w : WF G) (hn : n ∈ G.ns) : Swp (holdG G n (-1)) [] [n] := by
  refine ⟨fun d hd => absurd hd List.not_mem_nil, fun b hb _ hz hm => ?_, fun d hd => absurd hd List.not_mem_nil⟩
  by_cases q : b = n
  · exact List.mem_singleton.mpr q
  · have hz : ¬ 0 < setF G.h n (G.h n + -1) b := hz
    rw [setF_ne q] at hz
    rcases w.lv b hb with z | z
    · exact absurd z hz
    · obtain ⟨m, hmm⟩ := List.exists_mem_of_ne_nil _ z
      exact absurd (hm m hmm) List.not_mem_nil
end Tw

set_option Elab.async false
set_option linter.all false
set_option maxRecDepth 100000
set_option maxHeartbeats 4000000
/-! The sweep. -/
namespace Tw
open PySem PySem.Spec PyProof.Rows L2
open He (ga ma)
section
variable {K : PySem.W.Frag} {g : Nat → PyData} {H H' : Hp} {S : ShA} {G G' : Gs} {sn : List Nat}
theorem ShAt.congr (A : ShAt K g H S G sn) (e1 : G'.ns = G.ns) (e2 : ∀ n ∈ G.ns, G'.t n = G.t n ∧ G'.h n = G.h n ∧ G'.l n = G.l n ∧ G'.ab n = G.ab n) (e3 : G'.nx = G.nx) : ShAt K g H S G' sn := by
  refine ⟨?_, A.s, fun n hn => ?_, fun n hn => ?_, fun n hn => ?_, fun n hn => ?_, fun n hn m hm => ?_⟩
  · rw [e1, e3, dM_congr (F := fun n => .int (G'.h n)) (F' := fun n => .int (G.h n)) fun n hn => by rw [(e2 n hn).2.1]]
    exact A.c
  · rw [e1] at hn
    rw [(e2 n hn).2.2.2]
    exact A.al n hn
  · rw [e1] at hn
    rw [(e2 n hn).1]
    exact A.kd n hn
  · rw [e1] at hn
    rw [(e2 n hn).2.2.1]
    exact A.td n hn
  · rw [e1] at hn
    exact A.sal n hn
  · rw [e1] at hn hm
    exact A.ali n hn m hm
theorem Fr.mut {F : Addr → Prop} {q : Addr} {o : HO} (f : Fr F H H') (hq : H q = none) : Fr F H (L2.upd H' q o) := fun a u e n => by
  rw [upd_ne (ne_of_none e hq)]
  exact f a u e n
/-- a list beside the shelf is changed -/
theorem ShAt.beside {q : Addr} {xs ys : List V} (A : ShAt K g H S G sn) (hq : H q = some (.lst xs)) (nf : ¬ shF S G.ns q) : ShAt K g (upd H q (.lst ys)) S G sn :=
  A.away (F := fun a => a = q) (Fr.upd rfl) (TK.upd hq fun _ z => by cases z) fun a h z => nf (z ▸ h)
/-- the dicts lose a number -/
theorem Core.drop {x nx : Nat} {ns : List Nat} {kv tv av fv : Nat → V} (c : Core K H S (dM ns kv) (dM ns tv) (dM ns av) (dM ns fv) nx) :
    Core K (upd (upd (upd (upd H S.k (.dK (dropK (dM ns kv) (nK x)))) S.tg (.dK (dropK (dM ns tv) (nK x)))) S.a (.dK (dropK (dM ns av) (nK x)))) S.f (.dK (dropK (dM ns fv) (nK x)))) S (dM (ns.filter (· ≠ x)) kv) (dM (ns.filter (· ≠ x)) tv) (dM (ns.filter (· ≠ x)) av) (dM (ns.filter (· ≠ x)) fv) nx := by
  rw [dropK_dM, dropK_dM, dropK_dM, dropK_dM]
  exact c.uk.ut.ua.uf
end
theorem dpop_ {σ : L2.St} {H : Hp} {td ty : TE} {a : Addr} {ns : List Nat} {F : Nat → V} {n : Nat} {Q : VK} (hd : At td σ H (.ref a)) (hy : At ty σ H (iV n)) (h : H a = some (.dK (dM ns F))) (hn : n ∈ ns) (k : Q (F n) (upd H a (.dK (dropK (dM ns F) (nK n))))) : tDPop1 td ty σ H Q :=
  hd _ ⟨a, rfl, isD_k h, hy _ ⟨_, nK n, F n, h, rfl, valV_dM hn, k⟩⟩
theorem pop_ {K : PySem.W.Frag} {σ : L2.St} {H : Hp} {to : TE} {l : Addr} {ns : List Nat} {n : Nat} {Q : VK} (ha : At to σ H (.ref l)) (h : H l = some (.lst ((ns ++ [n]).map iV))) (k : Q (iV n) (upd H l (.lst (ns.map iV)))) : tBM0 K "list" rPop to σ H Q :=
  ha _ ⟨.inl ⟨rfl, _, SqL.of h⟩, l, _, iV n, rfl, rfl, h, by rw [List.map_append, List.length_append]; show (ns.map iV ++ [iV n])[_ + 1 - 1]? = _; rw [Nat.add_sub_cancel, List.getElem?_append_right (Nat.le_refl _), Nat.sub_self]; rfl, by rw [List.map_append]; show Q (iV n) (upd H l (.lst ((ns.map iV ++ [iV n]).dropLast))); rw [List.dropLast_concat]; exact k⟩
noncomputable def midG (G : Gs) (D : List Nat) (x : Nat) (cs : List Nat) : Gs := { goneG G D with ns := (goneG G (x :: D)).ns, ab := fun b => if b ∈ cs then ((goneG G D).ab b).erase x else (goneG G D).ab b }
theorem mid_0 {G : Gs} {D : List Nat} {x b : Nat} {cs : List Nat} (h : b ∉ cs) : (midG G D x cs).ab b = (goneG G D).ab b := if_neg h
theorem mid_1 {G : Gs} {D : List Nat} {x b : Nat} {cs : List Nat} (h : b ∈ cs) : (midG G D x cs).ab b = ((goneG G D).ab b).erase x := if_pos h
def spSweep (K : PySem.W.Frag) : Sp := fun vs H Q _ => ∃ g S G sn n, vs = [.ref S.p, iV n] ∧ ShAt K g H S G sn ∧ Wb G ∧ Swp G [] [n] ∧ (∀ m ∈ G.ns, 0 ≤ G.h m) ∧ G.ns.length ≤ 900 ∧ ∀ H', ShTo K g H S G H' S (sweepG G) sn → Q .non H'
def spLetGo (K : PySem.W.Frag) : Sp := fun vs H Q _ => ∃ g S G sn n, vs = [.ref S.p, iV n] ∧ ShAt K g H S G sn ∧ WF G ∧ n ∈ G.ns ∧ 0 < G.h n ∧ G.nx ≤ 900 ∧ ∀ H', ShTo K g H S G H' S (sweepG (holdG G n (-1))) sn → Q .non H'
section
variable {P : Program} {w : World} {K : PySem.W.Frag} {mg : Str → Option Value} {base : Heap}
theorem sc_sweep : FnScope ["self", "number", "todo", "here", "kind", "what", "branch"] ["self", "number"] (defScope (shm 9)) := ⟨rfl, rfl, rfl, by decide +kernel, rfl, by decide +kernel, by decide +kernel⟩
theorem ok_sweep (T : TX K mg) (F : Fd K "sweep" "Shelf.sweep" (shm 9) (ma K (ga K "Shelf") "sweep")) : OkF P w K mg base CX0 1 (ma K (ga K "Shelf") "sweep") ["self", "number"] (spSweep K) := by
  refine mkOk F sc_sweep (fun vs H Q E h => ?_) (fun _ _ _ _ _ _ us hl => match us, hl with | [_, _], _ => rfl) (fun cdv A outer s H vs Q E hr h => ?_)
  · obtain ⟨g, S, G, sn, n, rfl, _⟩ := h
    rfl
  · obtain ⟨g, S, G, sn, n, rfl, A0, wb, sw0, h0, hz, k⟩ := h
    have hu := hu_of hr
    have nd := sc_sweep.nd
    obtain ⟨t, c_STEM⟩ := T.c_STEM
    refine ⟨_, (pss_cons (ps_set (i := 2) nd rfl (by first | exact Or.inl rfl | exact Or.inr rfl) (pe_lst (pa_cons (pv 1) pa_nil)))
      (pss_one (ps_while PassesOwn.never (pt_cmpR (op_neD hr.units) (pv 2) (pe_lst pa_nil) (nomark _)) (pss_cons (ps_set (i := 3) nd rfl (by first | exact Or.inl rfl | exact Or.inr rfl) (pe_bm0 PySem.F.plainAttrs_list PySem.F.slot_list_pop PySem.F.type_list_pop (mt_pop) (pv 2)))
      (pss_one (ps_if (PW.pt (pw_and (pt_cmp (pc_din hu (pv 3) (pe_fld (pv 0) rfl))) (pw_and (pt_cmpR op_eq (pe_dget hu (pe_fld (pv 0) rfl) (pv 3) (fun _ _ => rfl)) pe_int (nomark _)) (pw_and1 (pt_cmpR (op_eqD hr.units) (pe_dget hu (pe_fld (pv 0) rfl) (pv 3) (fun _ _ => rfl)) (pe_lst pa_nil) (nomark _)))))) (pss_cons (ps_asg (pe_dpop1 (pe_fld (pv 0) rfl) (pv 3) ⟨rfl, rfl, rfl, rfl⟩) (pg_tup rfl (pgs_cons (pg_name (i := 4) nd rfl (by first | exact Or.inl rfl | exact Or.inr rfl)) (pgs_cons (pg_name (i := 5) nd rfl (by first | exact Or.inl rfl | exact Or.inr rfl)) pgs_nil))))
      (pss_cons (ps_expr (pe_dpop1 (pe_fld (pv 0) rfl) (pv 3) ⟨rfl, rfl, rfl, rfl⟩))
      (pss_cons (ps_expr (pe_dpop1 (pe_fld (pv 0) rfl) (pv 3) ⟨rfl, rfl, rfl, rfl⟩))
      (pss_cons (ps_expr (pe_dpop1 (pe_fld (pv 0) rfl) (pv 3) ⟨rfl, rfl, rfl, rfl⟩))
      (pss_one (ps_if (pt_cmpR op_eq (pv 4) (pe_glob rfl c_STEM (v := .str _) ⟨_, rfl⟩) (nomark _)) (pss_one (ps_for PassesOwn.never rfl (pi_tup (pv 5)) (pg_name (i := 6) nd rfl (by first | exact Or.inl rfl | exact Or.inr rfl)) (pss_cons (ps_expr (pe_remX rfl takes0 (pe_dget hu (pe_fld (pv 0) rfl) (pv 6) (fun _ _ => rfl)) (pv 3)))
      (pss_one (ps_expr (pe_bm PySem.F.plainAttrs_list PySem.F.slot_list_append PySem.F.type_list_append (mt_append) (pv 2) (pa_cons (pv 6) pa_nil))))))) pss_nil)))))) pss_nil)))))), ?_⟩
    refine sq_as (lst_ (vs := [iV n]) (ata_cons (at_var rfl) ata_nil) z1 fun q hq => ?_)
    have nfq : ¬ shF S G.ns q := fun z => by
      obtain ⟨o, ho, _⟩ := A0.some_ z
      rw [hq] at ho
      cases ho
    have sub : ∀ D a, shF S (goneG G D).ns a → shF S G.ns a := fun D a h => by
      rcases h with h | h | h | h | h | h | ⟨m, hm, h⟩
      · exact .inl h
      · exact .inr (.inl h)
      · exact .inr (.inr (.inl h))
      · exact .inr (.inr (.inr (.inl h)))
      · exact .inr (.inr (.inr (.inr (.inl h))))
      · exact .inr (.inr (.inr (.inr (.inr (.inl h)))))
      · exact .inr (.inr (.inr (.inr (.inr (.inr ⟨m, (mem_gone.mp hm).1, h⟩)))))
    have gz : ∀ D, (goneG G D).ns.length ≤ 900 := fun D => Nat.le_trans (List.length_filter_le _ _) hz
    have ndns : G.ns.Nodup := wb.so.imp fun q => Nat.ne_of_lt q
    have g0 : ShAt K g H S (goneG G []) sn := A0.congr (List.filter_eq_self.mpr fun a _ => by simp) (fun m hm => ⟨rfl, rfl, rfl, List.filter_eq_self.mpr fun a _ => by simp⟩) rfl
    refine st_while (fun m σ' H' => ∃ D td x3 x4 x5 x6, σ' = [some (.ref S.p), some (iV n), some (.ref q), x3, x4, x5, x6] ∧ H' q = some (.lst (td.map iV)) ∧ Fr (shF S G.ns) H H' ∧ ShAt K g H' S (goneG G D) sn ∧ Swp G D td ∧ td.length + 4 * (goneG G D).ns.length ≤ 4 * G.ns.length + 1 ∧ m = 5 * (goneG G D).ns.length + td.length) _
      ⟨[], [n], none, none, none, none, rfl, upd_same, Fr.same (same_new hq), g0.same (same_new hq), sw0, by have := List.length_filter_le (fun n => decide (n ∉ ([] : List Nat))) G.ns; show 1 + 4 * (G.ns.filter _).length ≤ _; omega, rfl⟩ ?_
    rintro m σ' H1 ⟨D, td, x3, x4, x5, x6, rfl, hq1, f1, A1, sw, hl, rfl⟩
    refine ⟨!td.isEmpty, smt_test (sm_neNil (at_var rfl) hq1), fun hb H2 s2 => ?_, fun hb H2 s2 => ?_⟩
    · obtain ⟨ts, x, et⟩ : ∃ ts x, td = ts ++ [x] := by
        have hne : td ≠ [] := fun e => by rw [e] at hb; cases hb
        exact ⟨td.dropLast, td.getLast hne, (List.dropLast_concat_getLast hne).symm⟩
      subst et
      have A2 := A1.same s2
      have hq2 := s2 _ _ hq1
      refine sq_as (pop_ (at_var rfl) hq2 ?_)
      have nfq1 : ¬ shF S (goneG G D).ns q := fun z => nfq (sub D q z)
      have A3 := A2.beside (ys := ts.map iV) hq2 nfq1
      have f3 : Fr (shF S G.ns) H (upd H2 q (.lst (ts.map iV))) := Fr.mut (f1.trans (Fr.same s2)) hq
      have hq3 : upd H2 q (.lst (ts.map iV)) q = some (.lst (ts.map iV)) := upd_same
      generalize upd H2 q (.lst (ts.map iV)) = H3 at A3 f3 hq3 ⊢
      rw [List.length_append] at hl
      have hl : ts.length + 1 + 4 * (goneG G D).ns.length ≤ 4 * G.ns.length + 1 := hl
      have el : (ts ++ [x]).length = ts.length + 1 := by rw [List.length_append]; rfl
      have tst : ∃ b, (b = true ↔ (x ∈ (goneG G D).ns ∧ G.h x = 0 ∧ (goneG G D).ab x = [])) ∧ SmT (tAnd (tTest (tDIn (tVar 3) (tFld K (tVar 0) "kept"))) (tAnd (tTest (tOp rEq (tDGet (tFld K (tVar 0) "freely") (tVar 3)) (tC (.int 0)))) (tTest (tOp (rEqD K) (tDGet (tFld K (tVar 0) "above") (tVar 3)) (tLst tNil))))) [some (.ref S.p), some (iV n), some (.ref q), some (iV x), x4, x5, x6] H3 b := by
        by_cases hx : x ∈ (goneG G D).ns
        · refine ⟨decide (G.h x = 0) && ((goneG G D).ab x).isEmpty, ?_, ?_⟩
          · rw [Bool.and_eq_true, decide_eq_true_eq, List.isEmpty_iff]
            exact ⟨fun q => ⟨hx, q⟩, fun q => q.2⟩
          · refine smt_andT (att_test (at_is (at_din (at_var rfl) (A3.c.kept T (at_var rfl)) (A3.dgk hx)) rfl)) (smt_and (att_test (at_eq (at_dget (A3.c.freely T (at_var rfl)) (at_var rfl) (A3.dgf hx)) at_c rfl dec_int)) fun _ => ?_)
            exact smt_test (sm_eqNil (at_dget (A3.c.above T (at_var rfl)) (at_var rfl) (A3.dga hx)) (A3.al x hx))
        · exact ⟨false, ⟨(fun q => by cases q), fun q => absurd q.1 hx⟩, smt_andF (att_test (at_is (at_din (at_var rfl) (A3.c.kept T (at_var rfl)) (dnone_dM A3.c.k hx)) rfl))⟩
      obtain ⟨b, hb1, hb2⟩ := tst
      refine st_ifS hb2 (fun hb H4 s4 => ?_) fun hb H4 s4 => ?_
      · obtain ⟨hx, hh, he⟩ := hb1.mp hb
        have A4 := A3.same s4
        have hq4 := s4 _ _ hq3
        obtain ⟨tp, ys, e1, ht, hy⟩ := (A4.kd x hx).tup_inv
        cases hy with
        | @cons y0 ys _ _ h1 hy2 =>
        cases hy2 with
        | @cons y1 _ _ _ hy1 hy3 =>
        cases hy3
        cases h1
        obtain ⟨wt, zs, rfl, hwt, hzs⟩ := hy1.tup_inv
        have hl2 := gone_len ndns hx
        have c1 := A4.c.uk (d := dropK (dM (goneG G D).ns S.kv) (nK x))
        have c2 := c1.ut (d := dropK (dM (goneG G D).ns S.tv) (nK x))
        have c3 := c2.ua (d := dropK (dM (goneG G D).ns fun n => .ref (S.al n)) (nK x))
        have tk4 := ((A4.c.tk (o := .dK (dropK (dM (goneG G D).ns S.kv) (nK x))) (.inr (.inl rfl))).trans (c1.tk (o := .dK (dropK (dM (goneG G D).ns S.tv) (nK x))) (.inr (.inr (.inl rfl))))).trans ((c2.tk (o := .dK (dropK (dM (goneG G D).ns fun n => .ref (S.al n)) (nK x))) (.inr (.inr (.inr (.inl rfl))))).trans (c3.tk (o := .dK (dropK (dM (goneG G D).ns fun n => .int (G.h n)) (nK x))) (.inr (.inr (.inr (.inr rfl))))))
        have lk4 := ((A4.c.lk (o := .dK (dropK (dM (goneG G D).ns S.kv) (nK x))) (.inr (.inl rfl))).trans (c1.lk (o := .dK (dropK (dM (goneG G D).ns S.tv) (nK x))) (.inr (.inr (.inl rfl))))).trans ((c2.lk (o := .dK (dropK (dM (goneG G D).ns fun n => .ref (S.al n)) (nK x))) (.inr (.inr (.inr (.inl rfl))))).trans (c3.lk (o := .dK (dropK (dM (goneG G D).ns fun n => .int (G.h n)) (nK x))) (.inr (.inr (.inr (.inr rfl))))))
        have f4 := (f3.trans (Fr.same s4)).trans (((Fr.upd (shF_k (G := G)) (H := H4) (o := .dK (dropK (dM (goneG G D).ns S.kv) (nK x)))).trans (Fr.upd (shF_tg (G := G)) (o := .dK (dropK (dM (goneG G D).ns S.tv) (nK x))))).trans ((Fr.upd (shF_a (G := G)) (o := .dK (dropK (dM (goneG G D).ns fun n => .ref (S.al n)) (nK x)))).trans (Fr.upd (shF_f (G := G)) (o := .dK (dropK (dM (goneG G D).ns fun n => .int (G.h n)) (nK x))))))
        have c4 := A4.c.drop (x := x)
        rw [gone_ns] at c4
        refine sq_asg (dpop_ (A4.c.kept T (at_var rfl)) (at_var rfl) A4.c.k hx ?_)
        rw [e1]
        refine gPair (i1 := 4) (i2 := 5) (A4.c.tk (.inr (.inl rfl)) _ _ ht) ?_
        refine sq_dr (dpop_ (c1.tags T (at_var rfl)) (at_var rfl) c1.tg hx ?_)
        refine sq_dr (dpop_ (F := fun n => .ref (S.al n)) (c2.above T (at_var rfl)) (at_var rfl) c2.a hx ?_)
        refine sq_dr (dpop_ (F := fun n => .int (G.h n)) (c3.freely T (at_var rfl)) (at_var rfl) c3.f hx ?_)
        have hxG := (mem_gone.mp hx).1
        have hxD := (mem_gone.mp hx).2
        have less : ∀ m, m ∈ (goneG G (x :: D)).ns → m ∈ (goneG G D).ns := fun m hm => by
          obtain ⟨j1, j2⟩ := mem_gone.mp hm
          exact mem_gone.mpr ⟨j1, fun z => j2 (List.mem_cons_of_mem _ z)⟩
        have A8 : ShAt K g (upd (upd (upd (upd H4 S.k (.dK (dropK (dM (goneG G D).ns S.kv) (nK x)))) S.tg (.dK (dropK (dM (goneG G D).ns S.tv) (nK x)))) S.a (.dK (dropK (dM (goneG G D).ns fun n => .ref (S.al n)) (nK x)))) S.f (.dK (dropK (dM (goneG G D).ns fun n => .int (G.h n)) (nK x)))) S (midG G D x []) sn :=
          ⟨c4, lk4 _ _ A4.s, fun m hm => by rw [mid_0 List.not_mem_nil]; exact lk4 _ _ (A4.al m (less m hm)), fun m hm => (A4.kd m (less m hm)).mono tk4 _ _, fun m hm => (A4.td m (less m hm)).mono tk4 _ _, fun m hm => A4.sal m (less m hm), fun m hm m2 hm2 => A4.ali m (less m hm) m2 (less m2 hm2)⟩
        have hq8 := lk4 _ _ hq4
        have hwt8 := tk4 _ _ hwt
        generalize upd (upd (upd (upd H4 S.k (.dK (dropK (dM (goneG G D).ns S.kv) (nK x)))) S.tg (.dK (dropK (dM (goneG G D).ns S.tv) (nK x)))) S.a (.dK (dropK (dM (goneG G D).ns fun n => .ref (S.al n)) (nK x)))) S.f (.dK (dropK (dM (goneG G D).ns fun n => .int (G.h n)) (nK x))) = H8 at A8 hq8 hwt8 f4 ⊢
        have sw2 := sw.take wb hx hh he
        have ndab : ∀ b ∈ G.ns, (G.ab b).Nodup := fun b hb => (wb.abs b hb).imp fun q => Nat.ne_of_lt q
        cases et : G.t x with
        | leaf rows =>
          refine st_Fn (att_test (at_eq (at_var (v := .str (kindS (G.t x))) rfl) at_c rfl (by rw [dec_str, et]; exact decF (show ¬ ("leaf" : Str) = "stem" by decide)))) ⟨_, ?_, x :: D, ts, _, _, _, _, rfl, hq8, f4, A8.congr rfl (fun m hm => ⟨rfl, rfl, rfl, ?_⟩) rfl, ?_, by omega, rfl⟩
          · rw [el]; omega
          · rw [mid_0 List.not_mem_nil]
            exact (gone_ab_out fun z => by
              obtain ⟨_, bs, e2, _⟩ := (wb.ab m (mem_gone.mp hm).1 x).mp z
              rw [et] at e2
              cases e2).symm
          · rw [et] at sw2
            have : ts ++ branchesOf (.leaf rows) = ts := List.append_nil ts
            rw [this] at sw2
            exact sw2
        | stem bs =>
          obtain ⟨ndb, lb4, hbs⟩ := wb.st x hxG bs et
          have hzs2 : TpA H4 zs (bs.map fun (b : Nat) => .int (b : Int)) := by
            rw [show (goneG G D).t x = .stem bs from et] at hzs
            exact hzs
          have ez := tp_ints hzs2
          subst ez
          refine st_T (att_test (at_eq (at_var (v := .str (kindS (G.t x))) rfl) at_c rfl (by rw [dec_str, et]; exact decT rfl))) ?_
          have hbn : ∀ b ∈ bs, b ∈ (goneG G (x :: D)).ns ∧ x ∈ (goneG G D).ab b := fun b hb => by
            obtain ⟨j1, j2⟩ := hbs b hb
            have j3 : x ∈ G.ab b := (wb.ab b j1 x).mpr ⟨hxG, bs, et, hb⟩
            refine ⟨mem_gone.mpr ⟨j1, fun z => ?_⟩, ?_⟩
            · rcases List.mem_cons.mp z with z | z
              · omega
              · exact hxD (sw.d b z x j3)
            · show x ∈ (G.ab b).filter _
              rw [List.mem_filter, decide_eq_true_eq]
              exact ⟨j3, hxD⟩
          refine st_forT (at_var rfl) hwt8 (fun i σ' H' => (∃ x9, σ' = [some (.ref S.p), some (iV n), some (.ref q), some (iV x), some (.str (kindS (G.t x))), some (.ref wt), x9]) ∧ H' q = some (.lst ((ts ++ bs.take i).map iV)) ∧ H' wt = some (.tup (bs.map iV)) ∧ Fr (shF S G.ns) H H' ∧ ShAt K g H' S (midG G D x (bs.take i)) sn)
            ⟨⟨_, rfl⟩, by rw [List.take_zero, List.append_nil]; exact hq8, hwt8, f4, A8⟩ (fun i σ' H' I => I.2.2.1) (fun i y σ' H' hy I => ?_) fun σ' H' I => ?_
          · obtain ⟨⟨x9, rfl⟩, hq9, hw9, f9, A9⟩ := I
            rw [List.getElem?_map] at hy
            obtain ⟨b, hb, rfl⟩ := Option.map_eq_some_iff.mp hy
            obtain ⟨hb1, hb2⟩ := hbn b (List.mem_of_getElem? hb)
            have hil := (List.getElem?_eq_some_iff.mp hb).1
            have et1 : bs.take (i + 1) = bs.take i ++ [b] := by
              rw [List.take_add_one, hb]
              rfl
            have hbt : b ∉ bs.take i := fun z => by
              have nt : (bs.take (i + 1)).Nodup := ndb.sublist (List.take_sublist _ _)
              rw [et1] at nt
              exact (List.nodup_append.mp nt).2.2 b z b (List.mem_singleton.mpr rfl) rfl
            refine sq_rem (at_dget (A9.c.above T (at_var rfl)) (at_var rfl) (A9.dga hb1)) (A9.al b hb1) (at_var rfl) (by rw [mid_0 hbt]; exact hb2) ?_
            have AA := A9.setAb (b := b) (bs := ((midG G D x (bs.take i)).ab b).erase x) hb1
            have ne1 : q ≠ S.al b := fun z => nfq (by rw [z]; exact shF_al (mem_gone.mp hb1).1)
            have hq10 : upd H' (S.al b) (.lst ((((midG G D x (bs.take i)).ab b).erase x).map iV)) q = some (.lst ((ts ++ bs.take i).map iV)) := by
              rw [upd_ne ne1]
              exact hq9
            have tk1 : TK H' (upd H' (S.al b) (.lst ((((midG G D x (bs.take i)).ab b).erase x).map iV))) := TK.upd (A9.al b hb1) fun _ z => by cases z
            refine st_app (at_var rfl) hq10 (at_var rfl) (by rw [List.length_map, List.length_append, List.length_take]; omega) ⟨⟨_, rfl⟩, ?_, ?_, ?_, ?_⟩
            · rw [upd_same, et1, ← List.append_assoc, List.map_append (l₁ := ts ++ bs.take i)]
              rfl
            · exact (TK.upd hq10 fun _ z => by cases z) _ _ (tk1 _ _ hw9)
            · exact Fr.mut (f9.trans (Fr.upd (shF_al (mem_gone.mp hb1).1))) hq
            · refine (AA.beside hq10 (fun z => nfq (sub (x :: D) q z))).congr rfl (fun m hm => ⟨rfl, rfl, rfl, ?_⟩) rfl
              show (midG G D x (bs.take (i + 1))).ab m = setF (midG G D x (bs.take i)).ab b (((midG G D x (bs.take i)).ab b).erase x) m
              by_cases e : m = b
              · subst e
                rw [setF_same, mid_0 hbt, mid_1 (by rw [et1]; exact List.mem_append_right _ (List.mem_singleton.mpr rfl))]
              · rw [setF_ne e]
                by_cases e2 : m ∈ bs.take i
                · rw [mid_1 e2, mid_1 (by rw [et1]; exact List.mem_append_left _ e2)]
                · rw [mid_0 e2, mid_0 (by rw [et1]; exact fun z => (List.mem_append.mp z).elim e2 fun z => e (List.mem_singleton.mp z))]
          · obtain ⟨⟨x9, rfl⟩, hq9, hw9, f9, A9⟩ := I
            rw [List.length_map, List.take_length] at A9 hq9
            have ebr : branchesOf (G.t x) = bs := by rw [et]; rfl
            rw [ebr] at sw2
            refine ⟨_, ?_, x :: D, ts ++ bs, _, _, _, _, rfl, hq9, f9, A9.congr rfl (fun m hm => ⟨rfl, rfl, rfl, ?_⟩) rfl, sw2, by rw [List.length_append]; omega, rfl⟩
            · rw [el, List.length_append]; omega
            · have hmG := (mem_gone.mp hm).1
              by_cases e : m ∈ bs
              · rw [mid_1 e]
                exact (gone_ab ((ndab m hmG).filter _)).symm
              · rw [mid_0 e]
                exact (gone_ab_out fun z => by
                  obtain ⟨_, cs, e2, e3⟩ := (wb.ab m hmG x).mp z
                  rw [et] at e2
                  cases e2
                  exact e e3).symm
      · refine nx_ ⟨_, ?_, D, ts, _, _, _, _, rfl, s4 _ _ hq3, f3.trans (Fr.same s4), A3.same s4, sw.skip (fun c => ?_) h0, by omega, rfl⟩
        · rw [el]; omega
        · rw [hb1.mpr c] at hb
          cases hb
    · have e : td = [] := by
        cases td with
        | nil => rfl
        | cons a r => cases hb
      subst e
      have A2 := A1.same s2
      refine k H2 ⟨A2.congr (sw.ns wb).symm (fun m hm => ⟨rfl, rfl, rfl, (sw.ab wb (mem_gone.mp hm).1).symm⟩) rfl, rfl, f1.trans (Fr.same s2), fun a h => .inl ?_⟩
      rw [← sw.ns wb] at h
      exact sub D a h
theorem sc_let_go : FnScope ["self", "number"] ["self", "number"] (defScope (shm 8)) := ⟨rfl, rfl, rfl, by decide +kernel, rfl, by decide +kernel, by decide +kernel⟩
theorem ok_let_go (T : TX K mg) (F : Fd K "let_go" "Shelf.let_go" (shm 8) (ma K (ga K "Shelf") "let_go")) (G_need : OkM P w K mg base CX0 (ga K "Shelf") "need" 1 (ma K (ga K "Shelf") "need") ["self", "number"] (spNeed0 K))
    (G_sweep : OkM P w K mg base CX0 (ga K "Shelf") "sweep" 1 (ma K (ga K "Shelf") "sweep") ["self", "number"] (spSweep K)) : OkF P w K mg base CX0 2 (ma K (ga K "Shelf") "let_go") ["self", "number"] (spLetGo K) := by
  refine mkOk F sc_let_go (fun vs H Q E h => ?_) (fun _ _ _ _ _ _ us hl => match us, hl with | [_, _], _ => rfl) (fun cdv A outer s H vs Q E hr h => ?_)
  · obtain ⟨g, S, G, sn, n, rfl, _⟩ := h
    rfl
  · obtain ⟨g, S, G, sn, n, rfl, A0, wf, hn, hh, hnx, k⟩ := h
    have hu := hu_of hr
    have nd := sc_let_go.nd
    refine ⟨_, (pss_cons (ps_expr (pe_m (pv 0) T.cl G_need (hr.mono (by decide)) (pa_cons (pv 1) pa_nil)))
      (pss_cons (ps_if (pt_cmpR op_eq (pe_dget hu (pe_fld (pv 0) rfl) (pv 1) (fun _ _ => rfl)) pe_int (nomark _)) (pss_one ps_never) pss_nil)
      (pss_cons (ps_dput hu (pe_fld (pv 0) rfl) (pv 1) (pe_op op_sub (pe_dget hu (pe_fld (pv 0) rfl) (pv 1) (fun _ _ => rfl)) pe_int) rfl)
      (pss_one (ps_expr (pe_m (pv 0) T.cl G_sweep (hr.mono (by decide)) (pa_cons (pv 1) pa_nil))))))), ?_⟩
    have hz : G.ns.length ≤ 900 := Nat.le_trans wf.len hnx
    obtain ⟨dx, ob⟩ := A0.c.ob
    refine sq_drop (at_meth (at_var rfl) ob rfl (ata_cons (at_var rfl) ata_nil) fun Q q => ⟨g, S, G, sn, n, rfl, A0, hn, q⟩) ?_
    refine sq_Fn (att_test (at_eq (at_dget (A0.c.freely T (at_var rfl)) (at_var rfl) (A0.dgf hn)) at_c rfl (by rw [dec_int]; exact decF (by omega)))) ?_
    refine sq_dput (at_I0 (at_dget (A0.c.freely T (at_var rfl)) (at_var rfl) (A0.dgf hn)) at_c rfl) (A0.c.freely T (at_var rfl)) (at_var rfl) (dput_old A0.c.f hn (by omega)) ?_
    have A1 := A0.setH (h' := setF G.h n (G.h n - 1))
    rw [setF_int]
    have f1 : Fr (shF S G.ns) H (upd H S.f (.dK (dM G.ns fun n_1 => .int (setF G.h n (G.h n - 1) n_1)))) := Fr.upd shF_f
    obtain ⟨dx1, ob1⟩ := A1.c.ob
    refine dr_ (wp_meth (at_var rfl) ob1 rfl (ata_cons (at_var rfl) ata_nil) ⟨g, S, holdG G n (-1), sn, n, rfl, A1, wf.wb.hold _ _, swp_0 wf hn, fun m hm => ?_, hz, fun H' Z => k H' ⟨Z.at_, Z.p, f1.trans Z.fr, fun a h => (Z.ft a h).imp id fun e => (upd_none e).2⟩⟩)
    show 0 ≤ setF G.h n (G.h n + -1) m
    by_cases q : m = n
    · subst q
      rw [setF_same]
      omega
    · rw [setF_ne q]
      exact wf.h0 m hm
end
end Tw

set_option Elab.async false
set_option linter.all false
set_option maxRecDepth 100000
set_option maxHeartbeats 4000000
/-! What is refused; a stem is put. -/
namespace Tw
open PySem PySem.Spec PyProof.Rows L2
open He (ga ma)
def spExcInit (K : PySem.W.Frag) : Sp := fun vs H Q _ => ∃ (a C : Addr) (n : Nat), vs = [.ref a, iV n] ∧ OexC K C ∧ PySem.W.findIn K (.ref C) "number" = some none ∧ H a = some (exo a C none) ∧
  ∀ d H', H d = none → d ≠ a → (∀ b o, H b = some o → b ≠ a → H' b = some o) → H' a = some (exo a C (some d)) → H' d = some (exd d [("number", iV n)]) → Q .non H'
theorem pmk_tw {X : Cx} {k : Nat} {x : Str} {C fI : Addr} {ps : List Str} {sp : Sp} {e : Expr} {es : List Expr} {ta : TA} {p pos : Pos} (W : OexC X.K C ∧ XfC X.K C ∧ PySem.W.findIn X.K (.ref C) "number" = some none ∧ PySem.W.findIn X.K (.ref C) "__init__" = some (some (.ref fI)) ∧ PySem.W.typeIn X.K (.ref fI) = some (.type "function"))
    (G : OkF X.prog X.w X.K X.mg X.base CX0 k fI ps sp) (hr : Room (k + 1) X.A) (hg : Gl X x) (hm : X.mg x = some (.ref C)) (ha : PA X (e :: es) ta)
    (hdb : (x == ("__debug__" : Str)) = false := by decide) (he : starEach (e :: es) X.env = (false, eval e X.env) :: starEach es X.env := by rfl) (hpl : (backTo pos (starEach es X.env)).any (·.1) = false := by rfl) :
    PMk X (.Call (.Name x p) (e :: es) [] pos) (tMkO C sp [] ta) := by
  obtain ⟨⟨fd, a, b⟩, c⟩ := G
  exact pmk_oex W.1 W.2.2.2.1 W.2.2.2.2 a hr b .nil pass0 hg hm ha hdb he hpl
section
variable {K : PySem.W.Frag} {C : Addr} {σ : L2.St} {H : Hp} {v : V} {te : TE} {n : Nat} {E : XK}
/-- raise C(n) -/
theorem mk_exc (T : OexC K C) (hf : PySem.W.findIn K (.ref C) "number" = some none) (he : At te σ H (iV n)) (q : ∀ d H', Same H H' → H' d = some (.xd [("number", iV n)]) → E (.ref C) (some d) H') : tMkO C (spExcInit K) [] (tCons te tNil) σ H E := he _ ⟨(show 1 ≤ 1000 by decide), fun a ha =>
  ⟨a, C, n, rfl, T, hf, upd_same, fun d H' hd hda hk h1 h2 => ⟨rfl, d, _, h1, h2, (upd_none hd).2, q d _ (fun b o hb => by
    have hba : b ≠ a := ne_of_none hb ha
    have hbd : b ≠ d := ne_of_none hb (upd_none hd).2
    rw [upd_ne hbd, del_ne hba]
    exact hk b o (by rw [upd_ne hba]; exact hb) hba) upd_same⟩⟩⟩
end
section
variable {P : Program} {w : World} {K : PySem.W.Frag} {mg : Str → Option Value} {base : Heap}
theorem sc_NoTwig : FnScope ["self", "number"] ["self", "number"] (defScope (inClass (top 5) 0)) := ⟨rfl, rfl, rfl, by decide +kernel, rfl, by decide +kernel, by decide +kernel⟩
theorem exc_init {D : Ends} {σ : L2.St} {H : Hp} {a C : Addr} {n : Nat} {s : Str} (h0 : σ[0]? = some (some (.ref a))) (h1 : σ[1]? = some (some (iV n))) (T : OexC K C) (hf : PySem.W.findIn K (.ref C) "number" = some none) (ha : H a = some (exo a C none))
    (k : ∀ d H', H d = none → d ≠ a → (∀ b o, H b = some o → b ≠ a → H' b = some o) → H' a = some (exo a C (some d)) → H' d = some (exd d [("number", iV n)]) → D.nx σ H') :
    tSeq (tDrop (tVeI K (tCons (tVar 0) (tCons (tC (.str s)) tNil)))) (tOst K "number" (tVar 0) (tVar 1)) D σ H :=
  ⟨_, h0, a, C, [.str s], rfl, by show 1 ≤ 1000; decide, T, ha, _, h1, _, h0, a, C, rfl, T, hf, .inl ⟨ha, fun dx hd hne => k dx _ hd hne (fun b o hb hba => by rw [upd_ne hba, upd_ne (ne_of_none hb hd)]; exact hb) upd_same (by rw [upd_ne hne]; exact upd_same)⟩⟩
theorem ok_NoTwig (T : TX K mg) (W : TwX K) (F : Fd K "__init__" "NoTwig.__init__" (inClass (top 5) 0) (ma K (ga K "NoTwig") "__init__")) : OkF P w K mg base CX0 1 (ma K (ga K "NoTwig") "__init__") ["self", "number"] (spExcInit K) := by
  refine mkOk F sc_NoTwig (fun vs H Q E h => ?_) (fun _ _ _ _ _ _ us hl => match us, hl with | [_, _], _ => rfl) (fun cdv A outer s H vs Q E hr h => ?_)
  · obtain ⟨a, C, n, rfl, _⟩ := h
    rfl
  · obtain ⟨a, C, n, rfl, O, hf, ha, k⟩ := h
    have nd := sc_NoTwig.nd
    refine ⟨_, (pss_cons (ps_expr (pe_twinit rfl T.g_TwigError W.ci (pa_cons (pv 0) (pa_cons pe_str pa_nil))))
      (pss_one (ps_ost (pv 0) (pv 1) rfl))), ?_⟩
    exact exc_init rfl rfl O hf ha k
theorem sc_NotHeld : FnScope ["self", "number"] ["self", "number"] (defScope (inClass (top 6) 0)) := ⟨rfl, rfl, rfl, by decide +kernel, rfl, by decide +kernel, by decide +kernel⟩
theorem ok_NotHeld (T : TX K mg) (W : TwX K) (F : Fd K "__init__" "NotHeld.__init__" (inClass (top 6) 0) (ma K (ga K "NotHeld") "__init__")) : OkF P w K mg base CX0 1 (ma K (ga K "NotHeld") "__init__") ["self", "number"] (spExcInit K) := by
  refine mkOk F sc_NotHeld (fun vs H Q E h => ?_) (fun _ _ _ _ _ _ us hl => match us, hl with | [_, _], _ => rfl) (fun cdv A outer s H vs Q E hr h => ?_)
  · obtain ⟨a, C, n, rfl, _⟩ := h
    rfl
  · obtain ⟨a, C, n, rfl, O, hf, ha, k⟩ := h
    have nd := sc_NotHeld.nd
    refine ⟨_, (pss_cons (ps_expr (pe_twinit rfl T.g_TwigError W.ci (pa_cons (pv 0) (pa_cons pe_str pa_nil))))
      (pss_one (ps_ost (pv 0) (pv 1) rfl))), ?_⟩
    exact exc_init rfl rfl O hf ha k
end
def spNeedX (K : PySem.W.Frag) : Sp := fun vs H Q E => ∃ g S G sn n, vs = [.ref S.p, iV n] ∧ ShAt K g H S G sn ∧ (n ∈ G.ns → Q .non H) ∧ (n ∉ G.ns → ∀ d H', Same H H' → H' d = some (.xd [("number", iV n)]) → E (.ref (ga K "NoTwig")) (some d) H')
def spNeedHeldX (K : PySem.W.Frag) : Sp := fun vs H Q E => ∃ g S G sn wl, ∃ bs : List Nat, vs = [.ref S.p, .ref wl] ∧ ShAt K g H S G sn ∧ H wl = some (.lst (bs.map iV)) ∧ (∀ b ∈ bs, b ∈ G.ns) ∧ (bs.find? (fun b => decide (G.h b = 0)) = none → Q .non H) ∧
  (∀ b, bs.find? (fun b => decide (G.h b = 0)) = some b → ∀ d H', Same H H' → H' d = some (.xd [("number", iV b)]) → E (.ref (ga K "NotHeld")) (some d) H')
theorem find_at {bs : List Nat} {p : Nat → Bool} {i b : Nat} (hb : bs[i]? = some b) (hp : p b = true) (h : ∀ c ∈ bs.take i, p c = false) : bs.find? p = some b := by
  have e : bs = bs.take i ++ b :: bs.drop (i + 1) := by
    have hi := (List.getElem?_eq_some_iff.mp hb)
    rw [← hi.2, List.getElem_cons_drop, List.take_append_drop]
  rw [e, List.find?_append, List.find?_eq_none.mpr fun c hc => by rw [h c hc]; exact Bool.false_ne_true, List.find?_cons_of_pos hp]
  rfl
section
variable {P : Program} {w : World} {K : PySem.W.Frag} {mg : Str → Option Value} {base : Heap}
theorem ok_needX (T : TX K mg) (W : TwX K) (F : Fd K "need" "Shelf.need" (shm 1) (ma K (ga K "Shelf") "need")) (G_NoTwig : OkF P w K mg base CX0 1 (ma K (ga K "NoTwig") "__init__") ["self", "number"] (spExcInit K)) : OkF P w K mg base (L2.CX P w) 3 (ma K (ga K "Shelf") "need") ["self", "number"] (spNeedX K) := by
  refine mkOkX F sc_need (fun vs H Q E h => ?_) (fun _ _ _ _ _ _ us hl => match us, hl with | [_, _], _ => rfl) (fun cdv A outer s H vs Q E hr h => ?_)
  · obtain ⟨g, S, G, sn, n, rfl, _⟩ := h
    rfl
  · obtain ⟨g, S, G, sn, n, rfl, A0, k1, k2⟩ := h
    have hu := hu_of hr
    have nd := sc_need.nd
    refine ⟨_, (pss_one (ps_if (pt_cmp (pc_dnotin hu (pv 1) (pe_fld (pv 0) rfl))) (pss_one (ps_raise rfl (takes_of rfl rfl rfl rfl) (pmk_tw (W.ox "NoTwig" (by decide)) G_NoTwig hr rfl T.g_NoTwig (pa_cons (pv 1) pa_nil)))) pss_nil)), ?_⟩
    by_cases hn : n ∈ G.ns
    · exact st_Fn (att_B (at_is (at_dnin (at_var rfl) (A0.c.kept T (at_var rfl)) (A0.dgk hn)) rfl)) (k1 hn)
    · exact st_T (att_B (at_is (at_dnin (at_var rfl) (A0.c.kept T (at_var rfl)) (dnone_dM A0.c.k hn)) rfl)) (mk_exc (W.ox "NoTwig" (by decide)).1 (W.ox "NoTwig" (by decide)).2.2.1 (at_var rfl) (k2 hn))
theorem ok_need_heldX (T : TX K mg) (W : TwX K) (F : Fd K "need_held" "Shelf.need_held" (shm 5) (ma K (ga K "Shelf") "need_held")) (G_NotHeld : OkF P w K mg base CX0 1 (ma K (ga K "NotHeld") "__init__") ["self", "number"] (spExcInit K)) : OkF P w K mg base (L2.CX P w) 3 (ma K (ga K "Shelf") "need_held") ["self", "branches"] (spNeedHeldX K) := by
  refine mkOkX F sc_need_held (fun vs H Q E h => ?_) (fun _ _ _ _ _ _ us hl => match us, hl with | [_, _], _ => rfl) (fun cdv A outer s H vs Q E hr h => ?_)
  · obtain ⟨g, S, G, sn, wl, bs, rfl, _⟩ := h
    rfl
  · obtain ⟨g, S, G, sn, wl, bs, rfl, A0, hw, hbs, k1, k2⟩ := h
    have hu := hu_of hr
    have nd := sc_need_held.nd
    refine ⟨_, (pss_one (ps_for (passes_of rfl) rfl (pi_list (pv 1)) (pg_name (i := 2) nd rfl (by first | exact Or.inl rfl | exact Or.inr rfl)) (pss_one (ps_if (pt_cmpR op_eq (pe_dget hu (pe_fld (pv 0) rfl) (pv 2) (fun _ _ => rfl)) pe_int (nomark _)) (pss_one (ps_raise rfl (takes_of rfl rfl rfl rfl) (pmk_tw (W.ox "NotHeld" (by decide)) G_NotHeld hr rfl T.g_NotHeld (pa_cons (pv 2) pa_nil)))) pss_nil)))), ?_⟩
    refine st_forL (at_var rfl) hw (fun i σ' H' => (∃ x, σ' = [some (.ref S.p), some (.ref wl), x]) ∧ H' = H ∧ ∀ c ∈ bs.take i, decide (G.h c = 0) = false) ⟨⟨_, rfl⟩, rfl, fun c hc => by simp at hc⟩ (fun i σ' H' I => by rw [I.2.1]; exact hw) (fun i x σ' H' hx I => ?_) fun σ' H' I => ?_
    · obtain ⟨⟨x0, rfl⟩, rfl, ok⟩ := I
      rw [List.getElem?_map] at hx
      obtain ⟨b, hb, rfl⟩ := Option.map_eq_some_iff.mp hx
      have hbn := hbs b (List.mem_of_getElem? hb)
      refine st_if (att_test (at_eq (at_dget (A0.c.freely T (at_var rfl)) (at_var rfl) (A0.dgf hbn)) at_c rfl dec_int)) (fun hz => ?_) fun hz => ?_
      · exact mk_exc (W.ox "NotHeld" (by decide)).1 (W.ox "NotHeld" (by decide)).2.2.1 (at_var rfl) (k2 b (find_at hb hz ok))
      · refine nx_ ⟨⟨_, rfl⟩, rfl, fun c hc => ?_⟩
        rw [List.take_add_one, hb] at hc
        rcases List.mem_append.mp hc with hc | hc
        · exact ok c hc
        · rw [List.mem_singleton.mp hc]
          exact hz
    · obtain ⟨_, rfl, ok⟩ := I
      rw [List.length_map, List.take_length] at ok
      exact k1 (List.find?_eq_none.mpr fun c hc => by rw [ok c hc]; exact Bool.false_ne_true)
end
/-! ### a stem is put -/
def stemG (G : Gs) (bs : List Nat) : Gs := handO (addT G (.stem bs) (labS (bs.map G.l))) bs G.nx
def spPutStem (K : PySem.W.Frag) : Sp := fun vs H Q E => ∃ g S G sn wl, ∃ bs : List Nat, vs = [.ref S.p, .ref wl] ∧ ShAt K g H S G sn ∧ WF G ∧ GridOk g ∧ G.nx ≤ 900 ∧ H wl = some (.lst (bs.map iV)) ∧ bs.length ≤ 100 ∧
  (∀ b, bs.find? (fun b => decide (b ∉ G.ns)) = some b → ∀ d H', Same H H' → H' d = some (.xd [("number", iV b)]) → E (.ref (ga K "NoTwig")) (some d) H') ∧
  (bs.find? (fun b => decide (b ∉ G.ns)) = none → ¬ LabOk (bs.map G.l) → ∀ H', Same H H' → E (.ref (ga K "NoStem")) none H') ∧
  (bs.find? (fun b => decide (b ∉ G.ns)) = none → LabOk (bs.map G.l) → ∀ b, bs.find? (fun b => decide (G.h b = 0)) = some b → ∀ d H', Same H H' → H' d = some (.xd [("number", iV b)]) → E (.ref (ga K "NotHeld")) (some d) H') ∧
  (bs.find? (fun b => decide (b ∉ G.ns)) = none → LabOk (bs.map G.l) → bs.find? (fun b => decide (G.h b = 0)) = none → ∀ S' H', ShTo K g H S G H' S' (stemG G bs) sn → Q (iV G.nx) H')
theorem hand_at {m : Nat} : ∀ {bs : List Nat} {G : Gs}, bs.Nodup → (handO G bs m).ns = G.ns ∧ (handO G bs m).t = G.t ∧ (handO G bs m).l = G.l ∧ (handO G bs m).nx = G.nx ∧ (∀ n, (handO G bs m).h n = if n ∈ bs then G.h n - 1 else G.h n) ∧ ∀ n, (handO G bs m).ab n = if n ∈ bs then G.ab n ++ [m] else G.ab n
  | [], G, _ => ⟨rfl, rfl, rfl, rfl, fun n => (if_neg List.not_mem_nil).symm, fun n => (if_neg List.not_mem_nil).symm⟩
  | b :: r, G, nd => by
    rw [List.nodup_cons] at nd
    obtain ⟨h1, h2, h3, h4, h5, h6⟩ := hand_at (m := m) (G := hand1 m G b) nd.2
    refine ⟨h1, h2, h3, h4, fun n => (h5 n).trans ?_, fun n => (h6 n).trans ?_⟩
    · show (if n ∈ r then setF G.h b (G.h b - 1) n - 1 else setF G.h b (G.h b - 1) n) = _
      by_cases e : n = b
      · subst e
        rw [if_neg nd.1, if_pos List.mem_cons_self, setF_same]
      · rw [setF_ne e]
        by_cases e2 : n ∈ r
        · rw [if_pos e2, if_pos (List.mem_cons_of_mem _ e2)]
        · rw [if_neg e2, if_neg fun z => (List.mem_cons.mp z).elim e e2]
    · show (if n ∈ r then setF G.ab b (G.ab b ++ [m]) n ++ [m] else setF G.ab b (G.ab b ++ [m]) n) = _
      by_cases e : n = b
      · subst e
        rw [if_neg nd.1, if_pos List.mem_cons_self, setF_same]
      · rw [setF_ne e]
        by_cases e2 : n ∈ r
        · rw [if_pos e2, if_pos (List.mem_cons_of_mem _ e2)]
        · rw [if_neg e2, if_neg fun z => (List.mem_cons.mp z).elim e e2]
theorem wf_addLeaf {G : Gs} (w : WF G) {rows : List (Nat × PyData)} (ok : RowsOk rows) : WF (addT G (.leaf rows) (labR rows)) := by
  have nx : G.nx ∉ G.ns := fun q => Nat.lt_irrefl _ (w.lt _ q)
  have ne : ∀ {n}, n ∈ G.ns → n ≠ G.nx := fun h z => nx (z ▸ h)
  have mem : ∀ {n}, n ∈ (addT G (.leaf rows) (labR rows)).ns ↔ n ∈ G.ns ∨ n = G.nx := by
    intro n
    show n ∈ G.ns ++ [G.nx] ↔ _
    rw [List.mem_append, List.mem_singleton]
  refine ⟨fun n hn => ?_, fun n hn => ?_, ?_, fun n hn r e => ?_, fun n hn bs e => ?_, fun b hb m => ?_, fun b hb => ?_, fun n hn => ?_⟩
  · rcases mem.mp hn with h | h
    · exact Nat.lt_succ_of_lt (w.lt n h)
    · rw [h]
      exact Nat.lt_succ_self _
  · show 0 ≤ setF G.h G.nx 1 n
    rcases mem.mp hn with h | h
    · rw [setF_ne (ne h)]
      exact w.h0 n h
    · rw [h, setF_same]
      decide
  · exact List.pairwise_append.mpr ⟨w.so, List.pairwise_singleton _ _, fun a ha b hb => by rw [List.mem_singleton.mp hb]; exact w.lt a ha⟩
  · have e : setF G.t G.nx (.leaf rows) n = .leaf r := e
    show RowsOk r ∧ setF G.l G.nx (labR rows) n = labR r
    rcases mem.mp hn with h | h
    · rw [setF_ne (ne h)] at e ⊢
      exact w.lf n h r e
    · rw [h, setF_same] at e ⊢
      cases e
      exact ⟨ok, rfl⟩
  · have e : setF G.t G.nx (.leaf rows) n = .stem bs := e
    rcases mem.mp hn with h | h
    · rw [setF_ne (ne h)] at e
      obtain ⟨h1, h2, h3⟩ := w.st n h bs e
      have eb : bs.map (setF G.l G.nx (labR rows)) = bs.map G.l := List.map_congr_left fun b hb => setF_ne (ne (h3 b hb).1)
      show LabOk (bs.map (setF G.l G.nx (labR rows))) ∧ setF G.l G.nx (labR rows) n = labS (bs.map (setF G.l G.nx (labR rows))) ∧ _
      rw [eb, setF_ne (ne h)]
      exact ⟨h1, h2, fun b hb => ⟨mem.mpr (.inl (h3 b hb).1), (h3 b hb).2⟩⟩
    · rw [h, setF_same] at e
      cases e
  · show m ∈ setF G.ab G.nx [] b ↔ m ∈ G.ns ++ [G.nx] ∧ ∃ bs, setF G.t G.nx (.leaf rows) m = .stem bs ∧ b ∈ bs
    have right : ∀ bs, (m ∈ G.ns ++ [G.nx]) → setF G.t G.nx (.leaf rows) m = .stem bs → m ∈ G.ns ∧ G.t m = .stem bs := fun bs h1 h2 => by
      rcases mem.mp h1 with q | q
      · rw [setF_ne (ne q)] at h2
        exact ⟨q, h2⟩
      · rw [q, setF_same] at h2
        cases h2
    rcases mem.mp hb with h | h
    · rw [setF_ne (ne h), w.ab b h m]
      constructor
      · rintro ⟨h1, bs, h2, h3⟩
        exact ⟨mem.mpr (.inl h1), bs, by rw [setF_ne (ne h1)]; exact h2, h3⟩
      · rintro ⟨h1, bs, h2, h3⟩
        obtain ⟨j1, j2⟩ := right bs h1 h2
        exact ⟨j1, bs, j2, h3⟩
    · subst h
      rw [setF_same]
      constructor
      · intro q
        exact absurd q List.not_mem_nil
      · rintro ⟨h1, bs, h2, h3⟩
        obtain ⟨j1, j2⟩ := right bs h1 h2
        exact absurd ((w.st m j1 bs j2).2.2 _ h3).1 nx
  · show (setF G.ab G.nx [] b).Pairwise _
    rcases mem.mp hb with h | h
    · rw [setF_ne (ne h)]
      exact w.abs b h
    · rw [h, setF_same]
      exact .nil
  · show 0 < setF G.h G.nx 1 n ∨ setF G.ab G.nx [] n ≠ []
    rcases mem.mp hn with h | h
    · rw [setF_ne (ne h), setF_ne (ne h)]
      exact w.lv n h
    · rw [h, setF_same]
      exact .inl (by decide)
theorem wf_addStem {G : Gs} (w : WF G) {bs : List Nat} (hb : ∀ b ∈ bs, b ∈ G.ns) (ok : LabOk (bs.map G.l)) (hh : ∀ b ∈ bs, G.h b ≠ 0) : WF (stemG G bs) := by
  have nx : G.nx ∉ G.ns := fun q => Nat.lt_irrefl _ (w.lt _ q)
  have ne : ∀ {n}, n ∈ G.ns → n ≠ G.nx := fun h z => nx (z ▸ h)
  have ndb : bs.Nodup := labok_lt ok fun b h => w.kb' (hb b h)
  obtain ⟨a1, a2, a3, a4, a5, a6⟩ := hand_at (m := G.nx) (G := addT G (.stem bs) (labS (bs.map G.l))) ndb
  have nxb : G.nx ∉ bs := fun q => nx (hb _ q)
  have mem : ∀ {n}, n ∈ (stemG G bs).ns ↔ n ∈ G.ns ∨ n = G.nx := by
    intro n
    unfold stemG
    rw [a1]
    show n ∈ G.ns ++ [G.nx] ↔ _
    rw [List.mem_append, List.mem_singleton]
  have et : (stemG G bs).t = setF G.t G.nx (.stem bs) := a2
  have el : (stemG G bs).l = setF G.l G.nx (labS (bs.map G.l)) := a3
  have en : (stemG G bs).nx = G.nx + 1 := a4
  have eh : ∀ n, (stemG G bs).h n = if n ∈ bs then setF G.h G.nx 1 n - 1 else setF G.h G.nx 1 n := a5
  have ea : ∀ n, (stemG G bs).ab n = if n ∈ bs then setF G.ab G.nx [] n ++ [G.nx] else setF G.ab G.nx [] n := a6
  have keep : ∀ cs : List Nat, (∀ b ∈ cs, b ∈ G.ns) → cs.map (setF G.l G.nx (labS (bs.map G.l))) = cs.map G.l := fun cs h => List.map_congr_left fun b hb => setF_ne (ne (h b hb))
  refine ⟨fun n hn => ?_, fun n hn => ?_, ?_, fun n hn r e => ?_, fun n hn cs e => ?_, fun b hb2 m => ?_, fun b hb2 => ?_, fun n hn => ?_⟩
  · rw [en]
    rcases mem.mp hn with h | h
    · exact Nat.lt_succ_of_lt (w.lt n h)
    · rw [h]
      exact Nat.lt_succ_self _
  · rw [eh]
    rcases mem.mp hn with h | h
    · rw [setF_ne (ne h)]
      have h0 := w.h0 n h
      by_cases q : n ∈ bs
      · rw [if_pos q]
        have := hh n q
        omega
      · rw [if_neg q]
        exact h0
    · rw [h, if_neg nxb, setF_same]
      decide
  · show (stemG G bs).ns.Pairwise _
    unfold stemG
    rw [a1]
    exact List.pairwise_append.mpr ⟨w.so, List.pairwise_singleton _ _, fun a ha b hb => by rw [List.mem_singleton.mp hb]; exact w.lt a ha⟩
  · rw [et] at e
    rw [el]
    rcases mem.mp hn with h | h
    · rw [setF_ne (ne h)] at e ⊢
      exact w.lf n h r e
    · rw [h, setF_same] at e
      cases e
  · rw [et] at e
    rw [el]
    rcases mem.mp hn with h | h
    · rw [setF_ne (ne h)] at e ⊢
      obtain ⟨h1, h2, h3⟩ := w.st n h cs e
      rw [keep cs fun b hb => (h3 b hb).1]
      exact ⟨h1, h2, fun b hb => ⟨mem.mpr (.inl (h3 b hb).1), (h3 b hb).2⟩⟩
    · rw [h, setF_same] at e ⊢
      cases e
      rw [keep bs hb]
      exact ⟨ok, rfl, fun b hb3 => ⟨mem.mpr (.inl (hb b hb3)), w.lt b (hb b hb3)⟩⟩
  · rw [ea, et, mem]
    have right : ∀ cs, m ∈ G.ns → setF G.t G.nx (.stem bs) m = .stem cs → G.t m = .stem cs := fun cs h1 h2 => by
      rw [setF_ne (ne h1)] at h2
      exact h2
    rcases mem.mp hb2 with h | h
    · rw [setF_ne (ne h)]
      have key : m ∈ G.ab b ↔ m ∈ G.ns ∧ ∃ cs, setF G.t G.nx (.stem bs) m = .stem cs ∧ b ∈ cs := by
        rw [w.ab b h m]
        constructor
        · rintro ⟨h1, cs, h2, h3⟩
          exact ⟨h1, cs, by rw [setF_ne (ne h1)]; exact h2, h3⟩
        · rintro ⟨h1, cs, h2, h3⟩
          exact ⟨h1, cs, right cs h1 h2, h3⟩
      by_cases q : b ∈ bs
      · rw [if_pos q, List.mem_append, List.mem_singleton, key]
        constructor
        · rintro (⟨h1, h2⟩ | h1)
          · exact ⟨.inl h1, h2⟩
          · exact ⟨.inr h1, bs, by rw [h1, setF_same], q⟩
        · rintro ⟨h1 | h1, h2⟩
          · exact .inl ⟨h1, h2⟩
          · exact .inr h1
      · rw [if_neg q, key]
        constructor
        · rintro ⟨h1, h2⟩
          exact ⟨.inl h1, h2⟩
        · rintro ⟨h1 | h1, h2⟩
          · exact ⟨h1, h2⟩
          · obtain ⟨cs, e1, e2⟩ := h2
            rw [h1, setF_same] at e1
            cases e1
            exact absurd e2 q
    · subst h
      rw [if_neg nxb, setF_same]
      constructor
      · intro q
        exact absurd q List.not_mem_nil
      · rintro ⟨h1 | h1, cs, h2, h3⟩
        · exact absurd ((w.st m h1 cs (right cs h1 h2)).2.2 _ h3).1 nx
        · rw [h1, setF_same] at h2
          cases h2
          exact absurd h3 nxb
  · rw [ea]
    rcases mem.mp hb2 with h | h
    · rw [setF_ne (ne h)]
      by_cases q : b ∈ bs
      · rw [if_pos q]
        exact List.pairwise_append.mpr ⟨w.abs b h, List.pairwise_singleton _ _, fun a ha c hc => by
          rw [List.mem_singleton.mp hc]
          exact w.lt a ((w.ab b h a).mp ha).1⟩
      · rw [if_neg q]
        exact w.abs b h
    · rw [h, if_neg nxb, setF_same]
      exact .nil
  · rw [ea, eh]
    rcases mem.mp hn with h | h
    · by_cases q : n ∈ bs
      · rw [if_pos q, if_pos q]
        exact .inr (by simp)
      · rw [if_neg q, if_neg q, setF_ne (ne h), setF_ne (ne h)]
        exact w.lv n h
    · rw [h, if_neg nxb, setF_same]
      exact .inl (by decide)
end Tw

set_option Elab.async false
set_option linter.all false
set_option maxRecDepth 100000
set_option maxHeartbeats 4000000
/-! put_stem. -/
namespace Tw
open PySem PySem.Spec PyProof.Rows L2
open He (ga ma)
theorem find_none {bs : List Nat} {p : Nat → Bool} (h : ∀ c ∈ bs, p c = false) : bs.find? p = none := List.find?_eq_none.mpr fun c hc => by
  rw [h c hc]
  exact Bool.false_ne_true
theorem ShTo.trans {K : PySem.W.Frag} {g : Nat → PyData} {H H1 H2 : Hp} {S S1 S2 : ShA} {G G1 G2 : Gs} {sn1 sn2 : List Nat} (a : ShTo K g H S G H1 S1 G1 sn1) (b : ShTo K g H1 S1 G1 H2 S2 G2 sn2) : ShTo K g H S G H2 S2 G2 sn2 := by
  refine ⟨b.at_, b.p.trans a.p, fun x o hx hn => b.fr x o (a.fr x o hx hn) fun z => ?_, fun x hx => ?_⟩
  · rcases a.ft x z with e | e
    · exact hn e
    · rw [hx] at e
      cases e
  · by_cases q : shF S G.ns x
    · exact .inl q
    · rcases b.ft x hx with e | e
      · exact a.ft x e
      · refine .inr ?_
        cases hh : H x with
        | none => rfl
        | some o =>
          rw [a.fr x o hh q] at e
          cases e
theorem rise_le {ns : List Nat} {N : Nat} (so : ns.Pairwise (· < ·)) (h : ∀ n ∈ ns, n < N) : ns.length ≤ N := by
  have gen : ∀ (ns : List Nat) (lo hi : Nat), ns.Pairwise (· < ·) → (∀ n ∈ ns, lo ≤ n ∧ n < hi) → lo ≤ hi → ns.length + lo ≤ hi := by
    intro ns
    induction ns with
    | nil => intro lo hi _ _ h; simpa using h
    | cons n r ih =>
      intro lo hi hp hb h
      rw [List.pairwise_cons] at hp
      have h1 := hb n List.mem_cons_self
      have := ih (n + 1) hi hp.2 (fun m hm => ⟨hp.1 m hm, (hb m (List.mem_cons_of_mem _ hm)).2⟩) (by omega)
      rw [List.length_cons]
      omega
  have := gen ns 0 N so (fun x hx => ⟨Nat.zero_le _, h x hx⟩) (Nat.zero_le _)
  simpa using this
section
variable {P : Program} {w : World} {K : PySem.W.Frag} {mg : Str → Option Value} {base : Heap}
theorem sc_put_stem : FnScope ["self", "numbers", "some", "branch", "tag", "number"] ["self", "numbers"] (defScope (shm 4)) := ⟨rfl, rfl, rfl, by decide +kernel, rfl, by decide +kernel, by decide +kernel⟩
theorem ok_put_stem (T : TX K mg) (F : Fd K "put_stem" "Shelf.put_stem" (shm 4) (ma K (ga K "Shelf") "put_stem")) (G_need : OkM P w K mg base (L2.CX P w) (ga K "Shelf") "need" 3 (ma K (ga K "Shelf") "need") ["self", "number"] (spNeedX K))
    (G_label_over : OkF P w K mg base (L2.CX P w) 6 (ga K "label_over") ["labels"] (spLabelOver K)) (G_need_held : OkM P w K mg base (L2.CX P w) (ga K "Shelf") "need_held" 3 (ma K (ga K "Shelf") "need_held") ["self", "branches"] (spNeedHeldX K))
    (G_hand_over : OkM P w K mg base CX0 (ga K "Shelf") "hand_over" 1 (ma K (ga K "Shelf") "hand_over") ["self", "branches", "number"] (spHandOver K)) (G_set_down : OkM P w K mg base CX0 (ga K "Shelf") "set_down" 1 (ma K (ga K "Shelf") "set_down") ["self", "kind", "what", "tag"] (spSetDown K)) :
    OkF P w K mg base (L2.CX P w) 7 (ma K (ga K "Shelf") "put_stem") ["self", "numbers"] (spPutStem K) := by
  refine mkOkX F sc_put_stem (fun vs H Q E h => ?_) (fun _ _ _ _ _ _ us hl => match us, hl with | [_, _], _ => rfl) (fun cdv A outer s H vs Q E hr h => ?_)
  · obtain ⟨g, S, G, sn, wl, bs, rfl, _⟩ := h
    rfl
  · obtain ⟨g, S, G, sn, wl, bs, rfl, A0, wf, GO, hnx, hw, hbl, k1, k2, k3, k4⟩ := h
    have hu := hu_of hr
    have nd := sc_put_stem.nd
    obtain ⟨t, c_STEM⟩ := T.c_STEM
    refine ⟨_, (pss_cons (ps_set (i := 2) nd rfl (by first | exact Or.inl rfl | exact Or.inr rfl) (pe_callTy (call_list_of) rfl T.f_list bt_list (pa_cons (pv 1) pa_nil)))
      (pss_cons (ps_for (passes_of rfl) rfl (pi_list (pv 2)) (pg_name (i := 3) nd rfl (by first | exact Or.inl rfl | exact Or.inr rfl)) (pss_one (ps_expr (pe_mX (pv 0) T.cl G_need (hr.mono (by decide)) (passes_call (takes_of rfl rfl rfl rfl) fun _ _ _ _ h => h) (pa_cons (pv 3) pa_nil)))))
      (pss_cons (ps_set (i := 4) nd rfl (by first | exact Or.inl rfl | exact Or.inr rfl) (pe_cX G_label_over (hr.mono (by decide)) rfl T.g_label_over (passes_call (takes_of rfl rfl rfl rfl) fun _ _ _ _ h => h) (pa_cons (pe_lc (own := [("branch", 3)]) (by rfl) nd (pi_list (pv 2)) (blkOk_by (N := ["self", "numbers", "some", "branch", "tag", "number"]) (sc := defScope (shm 4)) (own := [("branch", 3)]) (by decide +kernel)) (fun _ _ _ _ _ => (pg_name (i := 3) nd rfl (by first | exact Or.inl rfl | exact Or.inr rfl))) (fun _ _ _ _ _ => pts_nil) (fun _ _ _ _ _ => pe_dget hu (pe_fldK (K := K) rfl (pv 0) rfl) (pv 3) (fun _ _ => rfl))) pa_nil)))
      (pss_cons (ps_expr (pe_mX (pv 0) T.cl G_need_held (hr.mono (by decide)) (passes_call (takes_of rfl rfl rfl rfl) fun _ _ _ _ h => h) (pa_cons (pv 2) pa_nil)))
      (pss_cons (ps_set (i := 5) nd rfl (by first | exact Or.inl rfl | exact Or.inr rfl) (pe_m (pv 0) T.cl G_set_down (hr.mono (by decide)) (pa_cons (pe_glob rfl c_STEM (v := .str _) ⟨_, rfl⟩) (pa_cons (pv 2) (pa_cons (pv 4) pa_nil)))))
      (pss_cons (ps_expr (pe_m (pv 0) T.cl G_hand_over (hr.mono (by decide)) (pa_cons (pv 2) (pa_cons (pv 5) pa_nil))))
      (pss_one (ps_ret (pv 5))))))))), ?_⟩
    have hz : G.ns.length ≤ 900 := Nat.le_trans wf.len hnx
    refine sq_as (cb1 (at_then (at_var rfl) ⟨_, _, rfl, .inl (SqL.of hw), fun q hq => ?_⟩))
    have s1 := same_new (o := .lst (bs.map iV)) hq
    have A1 := A0.same s1
    have hq1 : upd H q (.lst (bs.map iV)) q = some (.lst (bs.map iV)) := upd_same
    have nfq : ¬ shF S G.ns q := fun z => by
      obtain ⟨o, ho, _⟩ := A0.some_ z
      rw [hq] at ho
      cases ho
    generalize upd H q (.lst (bs.map iV)) = H1 at s1 A1 hq1 ⊢
    obtain ⟨dx, ob⟩ := A1.c.ob
    refine sq_forL (at_var rfl) hq1 (fun i σ' H' => (∃ x, σ' = [some (.ref S.p), some (.ref wl), some (.ref q), x, none, none]) ∧ H' = H1 ∧ ∀ c ∈ bs.take i, decide (c ∉ G.ns) = false) ⟨⟨_, rfl⟩, rfl, fun c hc => by simp at hc⟩ (fun i σ' H' I => by rw [I.2.1]; exact hq1) (fun i x σ' H' hx I => ?_) fun σ' H' I => ?_
    · obtain ⟨⟨x0, rfl⟩, rfl, ok⟩ := I
      rw [List.getElem?_map] at hx
      obtain ⟨b, hb, rfl⟩ := Option.map_eq_some_iff.mp hx
      refine dr_ (wp_meth (at_var rfl) ob rfl (ata_cons (at_var rfl) ata_nil) ⟨g, S, G, sn, b, rfl, A1, fun hn => ⟨⟨_, rfl⟩, rfl, fun c hc => ?_⟩, fun hn d H2 s2 hd => ?_⟩)
      · rw [List.take_add_one, hb] at hc
        rcases List.mem_append.mp hc with hc | hc
        · exact ok c hc
        · rw [List.mem_singleton.mp hc]
          exact decF fun z => z hn
      · exact k1 b (find_at hb (decT hn) ok) d H2 (s1.trans s2) hd
    · obtain ⟨⟨x0, rfl⟩, rfl, ok⟩ := I
      rw [List.length_map, List.take_length] at ok
      have hbs : ∀ b ∈ bs, b ∈ G.ns := fun b hb => Classical.byContradiction fun z => of_decide_eq_false (ok b hb) z
      have fn1 := find_none ok
      refine sq_as (wp_callW ?_)
      refine lcL (xs := bs.map iV) (fun j y H' => ∃ b, bs[j]? = some b ∧ Tp H' y (labD g (G.l b))) (fun j y H1 H2 tk ⟨b, e, h⟩ => ⟨b, e, h.mono tk _ _⟩) (at_var rfl) hq1 (by rw [List.length_map]; omega) (fun j y2 H3 hj t3 Q2 q2 => ?_) fun D H3 us hD t3 hus hul hur => ?_
      · rw [List.getElem?_map] at hj
        obtain ⟨b, hb2, rfl⟩ := Option.map_eq_some_iff.mp hj
        have A3 := A1.same t3
        have hbn := hbs b (List.mem_of_getElem? hb2)
        exact at_then (at_dget (A3.c.tags T (at_var rfl)) (at_var rfl) (A3.dgt hbn)) (q2 _ _ (Same.refl _) ⟨b, hb2, A3.td b hbn⟩)
      · have hxs : TpA H3 us ((bs.map G.l).map (labD g)) := TpA.of_get (by rw [List.length_map, List.length_map, hul, List.length_map]) fun i v d f1 f2 => by
          obtain ⟨b, f3, f4⟩ := hur i v f1
          rw [List.getElem?_map, List.getElem?_map, f3] at f2
          cases f2
          exact f4
        have hk : ∀ l ∈ bs.map G.l, l.lo < 64 ∧ l.hi < 64 := fun l hl => by
          obtain ⟨b, hb2, rfl⟩ := List.mem_map.mp hl
          have kb := wf.kb' (hbs b hb2)
          have k1 := kb.a
          have k2 := kb.b
          exact ⟨by omega, by omega⟩
        refine ⟨g, D, us, bs.map G.l, rfl, hus, hxs, by rw [List.length_map]; omega, GO, hk, fun lok tv H4 t4 htv => ?_, fun h H4 t4 => k2 fn1 h H4 ((s1.trans t3).trans t4)⟩
        have A4 := (A1.same t3).same t4
        obtain ⟨dx4, ob4⟩ := A4.c.ob
        have hq4 := t4 _ _ (t3 _ _ hq1)
        have t14 := (s1.trans t3).trans t4
        refine sq_dr (wp_meth (at_var rfl) ob4 rfl (ata_cons (at_var rfl) ata_nil) ⟨g, S, G, sn, q, bs, rfl, A4, hq4, hbs, fun fh => ?_, fun b fb d H5 t5 hd => k3 fn1 lok b fb d H5 (t14.trans t5) hd⟩)
        refine sq_as (wp_meth (at_var rfl) ob4 rfl (ata_cons at_c (ata_cons (at_var rfl) (ata_cons (at_var rfl) ata_nil))) ⟨g, S, G, sn, .stem bs, labS (bs.map G.l), q, bs.map iV, tv, rfl, A4, hq4, ints_tp bs, htv, wf.lt, by omega, fun S' H5 Z => ?_⟩)
        have hq5 := Z.fr _ _ hq4 nfq
        have ob5 := Z.at_.c.ob
        obtain ⟨dx5, ob5⟩ := ob5
        rw [Z.p] at ob5
        have nf5 : ¬ shF S' (addT G (.stem bs) (labS (bs.map G.l))).ns q := fun z => by
          rcases Z.ft q z with e | e
          · exact nfq e
          · rw [hq4] at e
            cases e
        have la : ∀ n ∈ (addT G (.stem bs) (labS (bs.map G.l))).ns, ((addT G (.stem bs) (labS (bs.map G.l))).ab n).length ≤ 900 := fun n hn => by
          show (setF G.ab G.nx [] n).length ≤ 900
          by_cases e : n = G.nx
          · subst e
            rw [setF_same]
            exact Nat.zero_le _
          · rw [setF_ne e]
            have hnG : n ∈ G.ns := by
              rcases List.mem_append.mp hn with h | h
              · exact h
              · exact absurd (List.mem_singleton.mp h) e
            exact Nat.le_trans (rise_le (wf.abs n hnG) fun m hm => wf.lt m ((wf.ab n hnG m).mp hm).1) hnx
        refine sq_dr (wp_meth (at_var rfl) ob5 rfl (ata_cons (at_var rfl) (ata_cons (at_var rfl) ata_nil)) ⟨g, S', addT G (.stem bs) (labS (bs.map G.l)), sn, q, bs, G.nx, by rw [Z.p], Z.at_, hq5, nf5, fun b hb => List.mem_append_left _ (hbs b hb), by show (G.ns ++ [G.nx]).length ≤ 1000; rw [List.length_append]; show _ + 1 ≤ 1000; omega, fun n hn => by have := la n hn; omega, fun H6 Z2 => ?_⟩)
        refine st_ret (at_var rfl) (k4 fn1 lok fh S' H6 (ShTo.pre t14 (Z.trans Z2)))
end
end Tw

set_option Elab.async false
set_option linter.all false
set_option maxRecDepth 100000
set_option maxHeartbeats 4000000
/-! The law: the well, what is pulled. -/
namespace Tw
open PySem PySem.Spec PyProof.Rows L2
open He (ga ma)
def WellOk (H : Hp) (w : Addr) : Prop := ∃ a b c d : Int, H w = some (.lst [.int a, .int b, .int c, .int d]) ∧ 0 ≤ a ∧ a < 2147483647 ∧ 0 ≤ b ∧ 0 ≤ d ∧ b + d ≤ 100000 ∧ 0 ≤ c
def spPull : Sp := fun vs H Q _ => ∃ (w : Addr) (m : Nat), vs = [.ref w, .int (m : Int)] ∧ 0 < m ∧ m < 1000 ∧ WellOk H w ∧ ∀ (r : Nat) H', r < m → Fr (fun a => a = w) H H' → WellOk H' w → Q (iV r) H'
section
variable {K : PySem.W.Frag} {σ : L2.St} {H : Hp} {tv to ti ta : TE} {p : Addr} {xs : List V} {v x : V} {k i j : Int} {jn : Nat} {D : Ends} {u : TS}
theorem sq_lset (hv : At tv σ H v) (ha : At to σ H (.ref p)) (hi : At ti σ H (.int k)) (h : H p = some (.lst xs)) (hj : ixN xs.length k = some jn) (q : u D σ (upd H p (.lst (xs.set jn v)))) : tSeq (tAsg tv (gSub to ti rSetL)) u D σ H := hv _ (ha _ (hi _ ⟨p, xs, k, jn, rfl, rfl, h, hj, q⟩))
theorem at_mul (ha : At ta σ H (.int i)) (hb : At tv σ H (.int j)) (c : CMul i j) : At (tOp (rI CMul fun i j => .int (i * j)) ta tv) σ H (.int (i * j)) := at_I ha hb c rfl
theorem at_mod (ha : At ta σ H (.int i)) (hb : At tv σ H (.int j)) (c : 0 < j) : At (tOp (rI (fun _ j => 0 < j) fun i j => .int (i % j)) ta tv) σ H (.int (i % j)) := at_I ha hb c rfl
theorem at_div (ha : At ta σ H (.int i)) (hb : At tv σ H (.int j)) (c : CDiv i j) : At (tOp (rI CDiv fun i j => .int (i / j)) ta tv) σ H (.int (i / j)) := at_I ha hb c rfl
end
theorem opW {σ : L2.St} {H : Hp} {ta tb : TE} {r : R2} {Q : VK} (h : ta σ H fun x H1 => tb σ H1 fun y H2 => r x y H2 Q) : tOp r ta tb σ H Q := h
theorem SqL.sm {K : PySem.W.Frag} {H H' : Hp} {a : Addr} {xs : List V} (s : Same H H') (h : SqL K H a xs) : SqL K H' a xs := by
  rcases h with (h | ⟨o, h⟩) | h
  · exact .inl (.inl (s _ _ h))
  · exact .inl (.inr ⟨o, s _ _ h⟩)
  · exact .inr h
theorem at_lenS {K : PySem.W.Frag} {σ : L2.St} {H : Hp} {tr : TA} {p : Addr} {xs : List V} (h : AtA tr σ H [.ref p]) (hp : SqL K H p xs) : At (tCB (fun vs H Q => ∃ p ys, vs = [V.ref p] ∧ (SqL K H p ys ∨ SqT K H p ys) ∧ Q (.int (ys.length : Int)) H) tr) σ H (.int (xs.length : Int)) :=
  at_cb h fun _ q => ⟨p, xs, rfl, .inl hp, q⟩
theorem Fr.w {w : Addr} {H : Hp} {o : HO} : Fr (fun a => a = w) H (L2.upd H w o) := Fr.upd rfl
section
variable {P : Program} {w : World} {K : PySem.W.Frag} {mg : Str → Option Value} {base : Heap}
theorem sc__law_pull : FnScope ["_law_well_here", "_law_many", "_law_first", "_law_second", "_law_found"] ["_law_well_here", "_law_many"] (defScope (top 31)) := ⟨rfl, rfl, rfl, by decide +kernel, rfl, by decide +kernel, by decide +kernel⟩
theorem ok__law_pull (T : TX K mg) (F : Fd K "_law_pull" "_law_pull" (top 31) (ga K "_law_pull")) : OkF P w K mg base CX0 1 (ga K "_law_pull") ["_law_well_here", "_law_many"] spPull := by
  refine mkOk F sc__law_pull (fun vs H Q E h => ?_) (fun _ _ _ _ _ _ us hl => match us, hl with | [_, _], _ => rfl) (fun cdv A outer s H vs Q E hr h => ?_)
  · obtain ⟨wl, m, rfl, _⟩ := h
    rfl
  · obtain ⟨wl, m, rfl, hm, hm2, ⟨a, b, c, d, hw, a0, a1, b0, d0, bd, c0⟩, k⟩ := h
    have nd := sc__law_pull.nd
    refine ⟨_, (pss_cons (ps_if (pt_cmpR op_eq (pe_ix ix_list (pv 0) pe_int (fun _ _ => rfl)) pe_int (nomark _)) (pss_one (ps_ret pe_int)) pss_nil)
      (pss_cons (ps_asg (pe_op op_sub (pe_ix ix_list (pv 0) pe_int (fun _ _ => rfl)) pe_int) (pg_sub (pv 0) pe_int set_list))
      (pss_cons (ps_if (pt_cmpR op_gt (pe_ix ix_list (pv 0) pe_int (fun _ _ => rfl)) pe_int (nomark _)) (pss_cons (ps_set (i := 4) nd rfl (by first | exact Or.inl rfl | exact Or.inr rfl) (pe_op op_mod (pe_ix ix_list (pv 0) pe_int (fun _ _ => rfl)) (pv 1)))
      (pss_cons (ps_asg (pe_op op_fdivW (pe_ix ix_list (pv 0) pe_int (fun _ _ => rfl)) (pv 1)) (pg_sub (pv 0) pe_int set_list))
      (pss_one (ps_ret (pv 4))))) pss_nil)
      (pss_cons (ps_asg (pe_op op_add (pe_ix ix_list (pv 0) pe_int (fun _ _ => rfl)) pe_int) (pg_sub (pv 0) pe_int set_list))
      (pss_cons (ps_set (i := 2) nd rfl (by first | exact Or.inl rfl | exact Or.inr rfl) (pe_op op_mod (pe_op op_mul (pe_op op_add (pe_ix ix_list (pv 0) pe_int (fun _ _ => rfl)) pe_int) (pe_op op_add pe_int (pe_op op_mul pe_int (pe_ix ix_list (pv 0) pe_int (fun _ _ => rfl))))) pe_int))
      (pss_cons (ps_set (i := 3) nd rfl (by first | exact Or.inl rfl | exact Or.inr rfl) (pe_op op_mod (pe_op op_mul (pe_op op_add (pe_op op_fdiv (pv 2) pe_int) pe_int) (pe_op op_add (pe_op op_mod (pv 2) pe_int) pe_int)) pe_int))
      (pss_one (ps_ret (pe_op op_mod (pe_op op_fdiv (pv 3) pe_int) (pv 1)))))))))), ?_⟩
    have hmI : (0 : Int) < (m : Int) := by omega
    refine sq_ifn (att_test (at_eq (at_ixL (at_var rfl) at_c hw (atI_nat (j := 3) rfl)) at_c rfl dec_int)) (fun hz => ?_) fun hz => ?_
    · exact st_ret at_c (k 0 H hm (Fr.refl _ _) ⟨a, b, c, d, hw, a0, a1, b0, d0, bd, c0⟩)
    · have hz := of_decide_eq_false hz
      refine sq_lset (at_I0 (at_ixL (at_var rfl) at_c hw (atI_nat (j := 3) rfl)) at_c rfl) (at_var rfl) at_c hw (jn := 3) rfl ?_
      have hw1 : upd H wl (.lst (List.set [.int a, .int b, .int c, .int d] 3 (.int (d - 1)))) wl = some (.lst [.int a, .int b, .int c, .int (d - 1)]) := upd_same
      have f1 : Fr (fun x => x = wl) H (upd H wl (.lst (List.set [.int a, .int b, .int c, .int d] 3 (.int (d - 1))))) := Fr.w
      generalize upd H wl (.lst (List.set [.int a, .int b, .int c, .int d] 3 (.int (d - 1)))) = H1 at hw1 f1 ⊢
      refine sq_ifn (att_test (at_I0 (at_ixL (at_var rfl) at_c hw1 (atI_nat (j := 2) rfl)) at_c rfl)) (fun hc => ?_) fun hc => ?_
      · refine sq_set (at_mod (at_ixL (at_var rfl) at_c hw1 (atI_nat (j := 2) rfl)) (at_var rfl) hmI) ?_
        refine sq_lset (at_I (z := .int (c / (m : Int))) (at_ixL (at_var rfl) at_c hw1 (atI_nat (j := 2) rfl)) (at_var rfl) (wide_div hmI (b := 10) (by rw [Int.natAbs_natCast]; omega) (by decide) (by decide)) rfl) (at_var rfl) at_c hw1 (jn := 2) rfl ?_
        have er : (c % (m : Int)) = (((c % (m : Int)).toNat : Nat) : Int) := by
          have := Int.emod_nonneg c (show (m : Int) ≠ 0 by omega)
          omega
        refine st_ret (at_is (at_var rfl) (congrArg V.int er)) (k _ _ ?_ (f1.trans Fr.w) ⟨a, b, c / m, d - 1, upd_same, a0, a1, b0, by omega, by omega, Int.ediv_nonneg c0 (by omega)⟩)
        have := Int.emod_lt_of_pos c hmI
        have := Int.emod_nonneg c (show (m : Int) ≠ 0 by omega)
        omega
      · refine sq_lset (at_I0 (at_ixL (at_var rfl) at_c hw1 (atI_nat (j := 1) rfl)) at_c rfl) (at_var rfl) at_c hw1 (jn := 1) rfl ?_
        have hw2 : upd H1 wl (.lst (List.set [.int a, .int b, .int c, .int (d - 1)] 1 (.int (b + 1)))) wl = some (.lst [.int a, .int (b + 1), .int c, .int (d - 1)]) := upd_same
        have f2 : Fr (fun x => x = wl) H (upd H1 wl (.lst (List.set [.int a, .int b, .int c, .int (d - 1)] 1 (.int (b + 1))))) := f1.trans Fr.w
        generalize upd H1 wl (.lst (List.set [.int a, .int b, .int c, .int (d - 1)] 1 (.int (b + 1)))) = H2 at hw2 f2 ⊢
        refine sq_set (at_mod (at_mul (at_I0 (at_ixL (at_var rfl) at_c hw2 (atI_nat (j := 0) rfl)) at_c rfl) (at_I0 at_c (at_mul at_c (at_ixL (at_var rfl) at_c hw2 (atI_nat (j := 1) rfl)) (.inl ⟨by decide, by decide⟩)) rfl) (.inl ⟨by omega, by omega⟩)) at_c (by decide)) ?_
        generalize ef : (a + 1) * (48271 + 7919 * (b + 1)) % 2147483629 = f
        have f0 : 0 ≤ f := by rw [← ef]; exact Int.emod_nonneg _ (by decide)
        have f9 : f < 2147483629 := by rw [← ef]; exact Int.emod_lt_of_pos _ (by decide)
        have g0 : 0 ≤ f / 8 := Int.ediv_nonneg f0 (by decide)
        have g9 : f / 8 < 2147483629 := by omega
        refine sq_set (at_mod (at_mul (at_I0 (at_div (at_var rfl) at_c ⟨by decide, by decide⟩) at_c rfl) (at_I0 (at_mod (at_var rfl) at_c (by decide)) at_c rfl) (.inl ⟨by omega, by omega⟩)) at_c (by decide)) ?_
        have er : (f / 8 + 3) * (f % 1009 + 613) % 1000000007 / 16 % (m : Int) = ((((f / 8 + 3) * (f % 1009 + 613) % 1000000007 / 16 % (m : Int)).toNat : Nat) : Int) := by
          have := Int.emod_nonneg ((f / 8 + 3) * (f % 1009 + 613) % 1000000007 / 16) (show (m : Int) ≠ 0 by omega)
          omega
        refine st_ret (at_is (at_mod (at_div (at_var rfl) at_c ⟨by decide, by decide⟩) (at_var rfl) hmI) (congrArg V.int er)) (k _ _ ?_ f2 ⟨a, b + 1, c, d - 1, hw2, a0, a1, by omega, by omega, by omega, c0⟩)
        · have h1 := Int.emod_lt_of_pos ((f / 8 + 3) * (f % 1009 + 613) % 1000000007 / 16) hmI
          have h2 := Int.emod_nonneg ((f / 8 + 3) * (f % 1009 + 613) % 1000000007 / 16) (show (m : Int) ≠ 0 by omega)
          omega
end
def spWell (K : PySem.W.Frag) : Sp := fun vs H Q _ => ∃ (a : Addr) (ns : List Int) (k : Nat), vs = [.ref a, .int (k : Int)] ∧ SqL K H a (ns.map V.int) ∧ ns.length ≤ 63 ∧ k ≤ 63 ∧ ∀ w H', Same H H' → H w = none → WellOk H' w → Q (.ref w) H'
section
variable {P : Program} {w : World} {K : PySem.W.Frag} {mg : Str → Option Value} {base : Heap}
theorem sc__law_well : FnScope ["_law_script", "_law_k", "_law_left", "_law_cell", "_law_digits"] ["_law_script", "_law_k"] (defScope (top 30)) := ⟨rfl, rfl, rfl, by decide +kernel, rfl, by decide +kernel, by decide +kernel⟩
theorem ok__law_well (T : TX K mg) (F : Fd K "_law_well" "_law_well" (top 30) (ga K "_law_well")) : OkF P w K mg base CX0 1 (ga K "_law_well") ["_law_script", "_law_k"] (spWell K) := by
  refine mkOk F sc__law_well (fun vs H Q E h => ?_) (fun _ _ _ _ _ _ us hl => match us, hl with | [_, _], _ => rfl) (fun cdv A outer s H vs Q E hr h => ?_)
  · obtain ⟨a, ns, k, rfl, _⟩ := h
    rfl
  · obtain ⟨a, ns, k, rfl, ha, hn, hk, q⟩ := h
    have nd := sc__law_well.nd
    refine ⟨_, (pss_cons (ps_set (i := 2) nd rfl (by first | exact Or.inl rfl | exact Or.inr rfl) (pe_ix ix_list (pe_lst (pa_cons pe_int (pa_cons pe_int pa_nil))) (pe_callTy (call_int1) rfl T.f_int bt_int (pa_cons (pe_cmpR op_eq (pv 1) pe_int (nomark _)) pa_nil)) (fun _ _ => rfl)))
      (pss_cons (ps_set (i := 3) nd rfl (by first | exact Or.inl rfl | exact Or.inr rfl) (pe_ix ix_list (pe_op op_cat (pe_callTy (call_list_of) rfl T.f_list bt_list (pa_cons (pv 0) pa_nil)) (pe_lst (pa_cons pe_int pa_nil))) (pe_op op_mod (pv 1) (pe_callB (call_max2 rfl) rfl T.f_max bt_max (pa_cons pe_int (pa_cons (pe_callB (call_len_seq) rfl T.f_len bt_len (pa_cons (pv 0) pa_nil)) pa_nil)))) (fun _ _ => rfl)))
      (pss_cons (ps_set (i := 4) nd rfl (by first | exact Or.inl rfl | exact Or.inr rfl) (pe_op op_mul (pe_callB (call_abs) rfl T.f_abs bt_abs (pa_cons (pv 3) pa_nil)) (pe_callTy (call_int1) rfl T.f_int bt_int (pa_cons (pe_and (pe_cmpR op_ge (pe_callB (call_abs) rfl T.f_abs bt_abs (pa_cons (pv 3) pa_nil)) (pe_op op_pow pe_int pe_int) (nomark _)) (pe_one (pe_cmpR op_lt (pv 1) (pe_callB (call_len_seq) rfl T.f_len bt_len (pa_cons (pv 0) pa_nil)) (nomark _)))) pa_nil))))
      (pss_one (ps_ret (pe_lst (pa_cons (pe_op op_mod (pv 3) pe_int) (pa_cons (pe_op op_mul pe_int (pv 1)) (pa_cons (pv 4) (pa_cons (pv 2) pa_nil)))))))))), ?_⟩
    obtain ⟨lf, el, l0, l9⟩ : ∃ lf : Int, atI [V.int 240, V.int 2400] (if decide ((k : Int) = 0) = true then 1 else 0) = some (.int lf) ∧ 0 ≤ lf ∧ lf ≤ 2400 := by
      by_cases e : (k : Int) = 0
      · rw [decT e]
        exact ⟨2400, rfl, by decide, by decide⟩
      · rw [decF e]
        exact ⟨240, rfl, by decide, by decide⟩
    refine sq_as (opW (lst_ (vs := [.int 240, .int 2400]) (ata_cons at_c (ata_cons at_c ata_nil)) z2 fun p hp => at_then (at_cb (ata_cons (at_eq (at_var rfl) at_c rfl dec_int) ata_nil) fun Q q => .inr ⟨_, rfl, q⟩) ⟨p, _, _, _, rfl, rfl, SqL.of upd_same, el, ?_⟩))
    have s1 := same_new (o := .lst [.int 240, .int 2400]) hp
    have ha1 := SqL.sm s1 ha
    generalize upd H p (.lst [.int 240, .int 2400]) = H1 at s1 ha1 ⊢
    have hnl : (ns.map V.int).length = ns.length := List.length_map _
    have hmx : (if ((ns.length : Nat) : Int) > 1 then ((ns.length : Nat) : Int) else 1) = ((max 1 ns.length : Nat) : Int) := by
      by_cases e : ns.length ≤ 1
      · rw [if_neg (by omega), Nat.max_eq_left e]
        rfl
      · rw [if_pos (by omega), Nat.max_eq_right (by omega)]
    have hj : k % max 1 ns.length < (ns.map V.int ++ [V.int 0]).length := by
      rw [List.length_append, hnl]
      have := Nat.mod_lt k (show 0 < max 1 ns.length by omega)
      show _ < ns.length + 1
      omega
    obtain ⟨c, ec⟩ : ∃ c : Int, (ns.map V.int ++ [V.int 0])[k % max 1 ns.length]? = some (.int c) := by
      have e : ns.map V.int ++ [V.int 0] = (ns ++ [0]).map V.int := by rw [List.map_append]; rfl
      rw [e] at hj ⊢
      rw [List.length_map] at hj
      rw [List.getElem?_map, List.getElem?_eq_getElem hj]
      exact ⟨_, rfl⟩
    refine sq_as (opW (opW (cb1 (at_then (at_var rfl) ⟨a, _, rfl, .inl ha1, fun q1 hq1 => lst_ (vs := [.int 0]) (ata_cons at_c ata_nil) z1 fun q2 hq2 => ⟨q1, q2, ns.map V.int, [.int 0], rfl, rfl, same_new hq2 _ _ upd_same, upd_same, zl (by rw [hnl]; show _ + 1 ≤ _; omega), fun q3 hq3 => ?_⟩⟩))))
    have s2 := ((s1.trans (same_new (o := .lst (ns.map V.int)) hq1)).trans (same_new (o := .lst [.int 0]) hq2)).trans (same_new (o := .lst (ns.map V.int ++ [.int 0])) hq3)
    have ha2 := SqL.sm s2 ha
    have hl2 : upd (upd (upd H1 q1 (.lst (ns.map V.int))) q2 (.lst [.int 0])) q3 (.lst (ns.map V.int ++ [.int 0])) q3 = some (.lst (ns.map V.int ++ [.int 0])) := upd_same
    generalize upd (upd (upd H1 q1 (.lst (ns.map V.int))) q2 (.lst [.int 0])) q3 (.lst (ns.map V.int ++ [.int 0])) = H2 at s2 ha2 hl2 ⊢
    refine at_then (at_mod (at_var rfl) (at_cb (z := .int ((max 1 ns.length : Nat) : Int)) (ata_cons at_c (ata_cons (at_lenS (ata_cons (at_var rfl) ata_nil) ha2) ata_nil)) fun Q q => ⟨_, _, rfl, by rw [hnl, hmx]; exact q⟩) (by omega)) ⟨q3, _, _, .int c, rfl, rfl, SqL.of hl2, ?_, ?_⟩
    · have e : ((k : Int) % ((max 1 ns.length : Nat) : Int)) = ((k % max 1 ns.length : Nat) : Int) := (Int.natCast_emod _ _).symm
      rw [e]
      exact atI_nat ec
    · have hab : ∀ {σ : L2.St}, σ[3]? = some (some (V.int c)) → At (tCB (fun xs H Q => ∃ i, xs = [V.int i] ∧ Q (V.int (if i < 0 then -i else i)) H) (tCons (tVar 3) tNil)) σ H2 (.int (if c < 0 then -c else c)) := fun h => at_cb (ata_cons (at_var h) ata_nil) fun Q q => ⟨c, rfl, q⟩
      have pw : At (tOp (rI CPow fun i j => V.int (i ^ j.toNat)) (tC (V.int 10)) (tC (V.int 18))) ((L2.start ["_law_script", "_law_k", "_law_left", "_law_cell", "_law_digits"] [V.ref a, V.int (k : Int)]).set 2 (some (.int lf)) |>.set 3 (some (.int c))) H2 (.int (10 ^ 18)) := at_I at_c at_c ⟨by decide, by decide, by decide⟩ rfl
      have c0 : 0 ≤ (if c < 0 then -c else c) := by split <;> omega
      obtain ⟨b, hb⟩ : ∃ b : Bool, At (tAndV (tOp (rI0 fun i j => V.bl (decide (j ≤ i))) (tCB (fun xs H Q => ∃ i, xs = [V.int i] ∧ Q (V.int (if i < 0 then -i else i)) H) (tCons (tVar 3) tNil)) (tOp (rI CPow fun i j => V.int (i ^ j.toNat)) (tC (V.int 10)) (tC (V.int 18))))
          (tOp (rI0 fun i j => V.bl (decide (i < j))) (tVar 1) (tCB (fun xs H Q => ∃ p ys, xs = [V.ref p] ∧ (SqL K H p ys ∨ SqT K H p ys) ∧ Q (.int (ys.length : Int)) H) (tCons (tVar 0) tNil)))) ((L2.start ["_law_script", "_law_k", "_law_left", "_law_cell", "_law_digits"] [V.ref a, V.int (k : Int)]).set 2 (some (.int lf)) |>.set 3 (some (.int c))) H2 (.bl b) := by
        by_cases e : (10 : Int) ^ 18 ≤ (if c < 0 then -c else c)
        · exact ⟨_, at_andT (at_I0 (hab rfl) pw (congrArg V.bl (decT e))) (at_I0 (at_var rfl) (at_lenS (ata_cons (at_var rfl) ata_nil) ha2) rfl)⟩
        · exact ⟨false, at_andF (at_I0 (hab rfl) pw (congrArg V.bl (decF e)))⟩
      refine sq_set (at_mul (hab rfl) (at_cb (ata_cons hb ata_nil) fun Q q => .inr ⟨b, rfl, q⟩) (.inr (by cases b <;> exact ⟨by decide, by decide⟩))) ?_
      refine rt_ (lst_ (vs := [.int (c % 2147483647), .int (1000 * (k : Int)), .int ((if c < 0 then -c else c) * (if b = true then 1 else 0)), .int lf]) (ata_cons (at_mod (at_var rfl) at_c (by decide)) (ata_cons (at_mul at_c (at_var rfl) (.inl ⟨by decide, by decide⟩)) (ata_cons (at_var rfl) (ata_cons (at_var rfl) ata_nil)))) z4 fun r hr => q r _ (s2.trans (same_new hr)) (s2.free hr) ?_)
      refine ⟨_, _, _, _, upd_same, Int.emod_nonneg _ (by decide), Int.emod_lt_of_pos _ (by decide), by omega, l0, by omega, ?_⟩
      cases b with
      | true => rw [if_pos rfl, Int.mul_one]; exact c0
      | false => rw [if_neg Bool.false_ne_true, Int.mul_zero]; exact Int.le_refl _
end
end Tw

set_option Elab.async false
set_option linter.all false
set_option maxRecDepth 100000
set_option maxHeartbeats 4000000
/-! Rules of our own: list(reversed(a list)). -/
namespace Tw
open PySem PySem.Spec PyProof.Rows L2
section
variable {P0 : Program} {w0 : World} {B : Around} {EE : Value → Shared → Prop} {s0 : Shared}
theorem ext_rev {it l : Addr} {ys : Array Value} {T : Addr} {c0 : Nat} {R : Result → Shared → Prop} (hh : B.in1.handled = none) (hit : s0.heap.IsRevIter it l ((ys.size : Int) - 1)) (hl : s0.heap.IsList l ys) (hne : l ≠ it) (hn : ys.size ≤ sizeLine) (hT1 : T ≠ it) (hT2 : T ≠ l)
    (hT : s0.heap.get? T = some { cls := .type "list", data := .seq #[] c0 })
    (hR : ∀ s1 acc c1, Moved (T :: [it]) (fun a b => b = a) s0 s1 → s1.heap.get? T = some { cls := .type "list", dict := none, data := .seq acc c1, slots := #[] } → ItemsOf (fun i v => ys[ys.size - 1 - i]? = some v) acc ys.size → R (.ok (.ret .none)) s1) :
    wpAny (model P0 w0) B.in1 (Builtin.List.listExtendWith (.ref T) (.ref it) .none)
      (fun fin s1 => match fin with | .done f => R (.ok f) s1 | .again c1 => c1.quiet = true ∧ codeAny (model P0 w0) B c1 R s1) (fun e s1 => R (.error e) s1) s0 := by
  have W := (Walks.listRev (prog := P0) (w := w0) (A := B.in1) hh it l hne ys).toS
  have hTf : T ∉ [it, l] := by
    simp only [List.mem_cons, List.not_mem_nil, or_false, not_or]
    exact ⟨hT1, hT2⟩
  have ti : s0.TypeIs (.ref it) "list_reverseiterator" := hit.typeIs
  have same : Builtin.List.listSameRef (.ref T) (.ref it) = false := by simp [Builtin.List.listSameRef, hT1]
  unfold Builtin.List.listExtendWith
  refine wpAny_bind (wpAny_typeOf ti ?_)
  rw [if_neg (by rw [same]; decide)]
  refine wpAny_bind (wpAny_pyIter_revIter hit ?_)
  refine wpAny_bind (wpAny_holding ?_)
  unfold Builtin.List.listLengthHint
  refine wpAny_bind (wpAny_specialOf ti RT.nolen_lri ?_)
  show wpAny _ B.in1 (specialOf (Value.ref it) (Str.ofString "__length_hint__") >>= _) _ _ _
  refine wpAny_bind (wpAny_specialOf ti RT.hint_lri ?_)
  generalize hx : ("list_reverseiterator.__length_hint__" : String) = x0
  wp_delta
  rw [show splitId x0 = some ("list_reverseiterator", "__length_hint__") from by subst hx; decide +kernel]
  subst hx
  refine wpAny_bind (wpAny_isInstance (b := true) ti (by rw [isSubtype_type]; kernel_rfl) ?_)
  refine wpAny_pure ?_
  rw [if_neg (by decide)]
  have ez : ((ys.size : Nat) : Int) - 1 - ((0 : Nat) : Int) = (ys.size : Int) - 1 := by omega
  exact wpAny_pure ⟨plainId_quiet F.plain_extend_loop _, codeAny_extend_loopS W hn _ hTf _ ys.size 0 _ _ _ rfl (Nat.zero_le _) ⟨Nat.zero_le _, by rw [ez]; exact hit, hl⟩ hT (ItemsOf.nil _) fun s1 acc c1 hm hS1 hacc => hR s1 acc c1 hm hS1 hacc⟩
theorem call_lst_rev {it l : Addr} {ys : Array Value} {Q : Value → Shared → Prop} (hh : B.handled = none) (hit : s0.heap.IsRevIter it l ((ys.size : Int) - 1)) (hl : s0.heap.IsList l ys) (hne : l ≠ it) (hn : ys.size ≤ sizeLine)
    (hQ : ∀ (h1 : Heap) (tk : Nat) (acc : Array Value) (c1 : Nat), (∀ b o, b ≠ it → s0.heap.get? b = some o → h1.get? b = some o) → h1.get? s0.heap.objs.size = some { cls := .type "list", dict := none, data := .seq acc c1, slots := #[] } →
      ItemsOf (fun i v => ys[ys.size - 1 - i]? = some v) acc ys.size → Q (.ref s0.heap.objs.size) { s0 with heap := h1, toks := tk }) : wpAny (model P0 w0) B (call (.type "list") [.ref it]) Q EE s0 := by
  obtain ⟨oi, hoi, _⟩ := id hit
  obtain ⟨ol, hol, _⟩ := id hl
  have n1 : s0.heap.objs.size ≠ it := Nat.ne_of_gt (Heap.lt_size hoi)
  have n2 : s0.heap.objs.size ≠ l := Nat.ne_of_gt (Heap.lt_size hol)
  refine callType_codes (Q₁ := fun ob s1 => ob = .ref s0.heap.objs.size ∧ s1 = { s0 with heap := s0.heap.push { cls := .type "list", data := .seq #[] } }) F.called_list (F.typeCall_list_1 _) F.entry_list_init (code_list_new _ ⟨rfl, rfl⟩) fun ob s1 h1 => ?_
  obtain ⟨rfl, rfl⟩ := h1
  have hT0 : (s0.heap.push { cls := .type "list", data := .seq #[] }).get? s0.heap.objs.size = some { cls := .type "list", data := .seq #[] } := Heap.get?_push_size _ rfl
  refine ⟨⟨_, hT0, rfl⟩, F.args_list_init_2 _ _, ?_⟩
  show wpAny _ B.in1.in1 (do let old ← Builtin.List.listItems (.ref s0.heap.objs.size); Builtin.List.listUpdate (.ref s0.heap.objs.size) (fun _ => #[]); letGo old.toList.reverse; Builtin.List.listExtendWith (.ref s0.heap.objs.size) (.ref it) .none) _ _ _
  refine wpAny_bind ?_
  unfold Builtin.List.listItems
  refine wpAny_bind (wpAny_seqItems hT0 rfl (wpAny_pure ?_))
  show wpAny _ B.in1.in1 (updateSeq s0.heap.objs.size (fun _ => #[]) >>= fun _ => letGo (#[] : Array Value).toList.reverse >>= fun _ => Builtin.List.listExtendWith (.ref s0.heap.objs.size) (.ref it) .none) _ _ _
  refine wpAny_bind (wpAny_updateSeq hT0 rfl ?_)
  have hT1 := Heap.get?_update_self (Obj.mapSeq (fun _ => (#[] : Array Value))) hT0 rfl
  have keep : ∀ b o, b ≠ s0.heap.objs.size → (s0.heap.push { cls := .type "list", data := .seq #[] }).get? b = some o → ((s0.heap.push { cls := .type "list", data := .seq #[] }).update s0.heap.objs.size (Obj.mapSeq (fun _ => (#[] : Array Value)))).get? b = some o :=
    fun b o hb e => (Heap.get?_update_other _ _ (Ne.symm hb)).trans e
  refine wpAny_bind (wpAny_letGo ?_)
  have keep0 : ∀ b o, s0.heap.get? b = some o → ((s0.heap.push { cls := .type "list", data := .seq #[] }).update s0.heap.objs.size (Obj.mapSeq (fun _ => (#[] : Array Value)))).get? b = some o :=
    fun b o e => keep b o (Nat.ne_of_lt (Heap.lt_size e)) (Heap.get?_push_of_some _ e)
  refine ext_rev (B := B.in1) hh (hit.at fun o e => keep0 it o e) (by obtain ⟨o, e, r⟩ := id hl; exact ⟨o, keep0 l o e, r⟩) hne hn n1 n2 hT1 fun s1 acc c1 hm hS1 hacc => ⟨rfl, ?_⟩
  rw [Moved.eq_with hm] at hS1 ⊢
  refine hQ s1.heap s1.toks acc c1 (fun b o hb e => hm.heap b o (fun hmem => ?_) (keep0 b o e)) hS1 hacc
  rcases List.mem_cons.mp hmem with e1 | hmem
  · exact absurd (Heap.lt_size e) (by rw [e1]; exact Nat.lt_irrefl _)
  · exact hb (List.mem_singleton.mp hmem)
end
/-- list(reversed(x)), x a list: a new list -/
def tLstRev (K : PySem.W.Frag) (te : TE) : TE := fun σ H Q => te σ H fun v H1 => ∃ (a : Addr) (xs : List V), v = .ref a ∧ SqL K H1 a xs ∧ ∀ q, H1 q = none → Q (.ref q) (upd H1 q (.lst xs.reverse))
section
variable {X : Cx}
theorem pe_lstRev {e : Expr} {te : TE} {p p2 pos pos2 : Pos} (hc : X.calm = true) (hg : Gl X "list") (hm : X.mg "list" = none) (hg2 : Gl X "reversed") (hm2 : X.mg "reversed" = none) (he : PE X e te)
    (hs : starEach [e] X.env = (false, eval e X.env) :: starEach [] X.env := by rfl)
    (hs2 : starEach [.Call (.Name "reversed" p2) [e] [] pos2] X.env = (false, eval (.Call (.Name "reversed" p2) [e] [] pos2) X.env) :: starEach [] X.env := by rfl) :
    PE X (.Call (.Name "list" p) [.Call (.Name "reversed" p2) [e] [] pos2] [] pos) (tLstRev X.K te) := by
  refine ⟨fun pins s0 σ H Q J h => ?_⟩
  refine Call_ (ld_blt J hg hm bt_list (PyProof.Rows.callWith_type1 (args_cons (Call_ (ld_blt J hg2 hm2 PyProof.Rows.boot_reversed (PyProof.Rows.callWith_type1 (args_cons (thn (he.run pins s0 σ H _ J h) fun u s1 ⟨v, H1, J1, r1, q1⟩ => args_nil ?_) hs) hs rfl))) hs2) hs2 rfl))
  obtain ⟨a, xs, ev, hq, q⟩ := q1
  subst ev
  obtain rfl : u = Value.ref a := r1
  obtain ⟨its, rv, pl, hz⟩ := J1.list hq
  refine call_reversed_list pl.isList (args_nil ?_)
  have k0 : ∀ b o, s1.heap.get? b = some o → (s1.heap.push (revObj a ((its.toArray.size : Int) - 1))).get? b = some o := fun b o e => Heap.get?_push_of_some _ e
  have J2 : Inv X pins σ H1 { s1 with heap := s1.heap.push (revObj a ((its.toArray.size : Int) - 1)) } := J1.kept (t' := s1.toks) k0
  obtain ⟨f0, f1, f2, f3, f4, f5⟩ := J1.fpOk (H' := H1) (b := s1.heap.objs.size) (Nat.le_refl _) (J1.hok.fresh (Nat.le_refl _))
  have hl := pl.isList
  obtain ⟨ol, hol, _⟩ := id hl
  have hne : a ≠ s1.heap.objs.size := Nat.ne_of_lt (Heap.lt_size hol)
  have hn : its.toArray.size ≤ sizeLine := by
    rw [List.size_toArray, ← rv.length]
    exact hz
  have fr1 : H1 (s1.heap.push (revObj a ((its.toArray.size : Int) - 1))).objs.size = none := J2.hok.fresh (Nat.le_refl _)
  refine call_lst_rev (s0 := { s1 with heap := s1.heap.push (revObj a ((its.toArray.size : Int) - 1)) }) (J1.ok.hd hc) ⟨_, Heap.get?_push_size _ rfl, rfl, rfl⟩ (hl.push _) hne hn fun h1 tk acc c1 hk hs1 hi => ?_
  refine ⟨.ref _, _, J2.turnedNew (t' := tk) (ch := [s1.heap.objs.size]) (ob := .lst xs.reverse) (fun b o hb e => hk b o (fun z => hb (List.mem_singleton.mpr z)) e) (fun b hb => ?_) (Nat.le_refl _) ?_, rfl, q _ fr1⟩
  · rw [List.mem_singleton.mp hb]
    exact ⟨f0, f1, f2, f3, f4, f5⟩
  · refine ⟨by rw [List.length_reverse]; exact hz, acc.toList, c1, RT.vals_rev rv hi, ?_⟩
    rw [Array.toArray_toList]
    exact hs1
end
/-- sorted(xs), xs a list of triples of ints: a new list of the same ones -/
def rSort3 (K : PySem.W.Frag) : List V → Hp → VK → Prop := fun vs H Q => ∃ (a : Addr) (xs : List V), vs = [V.ref a] ∧ SqL K H a xs ∧ (∀ x ∈ xs, ∃ (t : Addr) (i j k : Int), x = V.ref t ∧ H t = some (.tup [.int i, .int j, .int k])) ∧
  ∀ ys p, ys.Perm xs → H p = none → Q (.ref p) (upd H p (.lst ys))
section
open PySem.W
theorem each_refs {R : Value → Addr → Prop} : ∀ {as : List Addr}, (∀ a ∈ as, R (.ref a) a) → EachIs R (as.map Value.ref) as
  | [], _ => .nil
  | a :: as, h => .cons (h a List.mem_cons_self) (each_refs fun b hb => h b (List.mem_cons_of_mem _ hb))
theorem refs_each : ∀ {us : List Value} {as : List Addr}, EachIs (fun v (a : Addr) => v = Value.ref a) us as → us = as.map Value.ref
  | _, _, .nil => rfl
  | _, _, .cons h t => by rw [h, refs_each t, List.map_cons]
def tripD (H : Hp) (b : Addr) : PyData := match H b with
  | some (.tup [.int i, .int j, .int k]) => .tuple [.int i, .int j, .int k]
  | _ => .tuple [.int 0, .int 0, .int 0]
theorem tripD_is {H : Hp} {b : Addr} : ∃ i j k, tripD H b = .tuple [.int i, .int j, .int k] := by
  unfold tripD
  split
  · exact ⟨_, _, _, rfl⟩
  · exact ⟨_, _, _, rfl⟩
theorem vals_refs : ∀ {as : List Addr}, Vals (as.map V.ref) (as.map Value.ref)
  | [] => .nil
  | a :: as => .cons (show RelV (.ref a) (.ref a) from rfl) vals_refs
variable {X : Cx}
theorem cr_sort3 (hu : X.A.units + 64 < cLine) : CallR X (.builtin "sorted") (rSort3 X.K) := by
  intro pins s0 σ H vs us Q J r h
  obtain ⟨a, xs, rfl, hs, hx, q⟩ := h
  obtain ⟨its, rv, hl, hz⟩ := J.list hs
  rw [Vals.ref1 r]
  obtain ⟨e1, e2⟩ := bkV_refs rv fun x m => by
    obtain ⟨t, i, j, k, e, _⟩ := hx x m
    exact ⟨t, e⟩
  obtain ⟨as, rfl⟩ : ∃ as : List Addr, its = as.map Value.ref := by
    clear hl rv e1
    induction its with
    | nil => exact ⟨[], rfl⟩
    | cons u us ih =>
      obtain ⟨as, ea⟩ := ih fun v hv => e2 v (List.mem_cons_of_mem _ hv)
      obtain ⟨b, eb⟩ := e2 u List.mem_cons_self
      exact ⟨b :: as, by rw [ea, eb, List.map_cons]⟩
  have ex : xs = as.map V.ref := by
    rw [e1, List.map_map]
    rfl
  have hxa : ∀ b ∈ as, ∃ i j k, H b = some (.tup [.int i, .int j, .int k]) := fun b hb => by
    obtain ⟨t, i, j, k, e, ht⟩ := hx (.ref b) (by rw [ex]; exact List.mem_map.mpr ⟨b, hb, rfl⟩)
    cases e
    exact ⟨i, j, k, ht⟩
  have hlen : as.length ≤ sizeLine := by
    rw [ex, List.length_map] at hz
    exact hz
  refine sorted_data (vs := as.map Value.ref) (bs := as) (enc := tripD H) (R := fun v (a : Addr) => v = Value.ref a) hl.isList (each_refs fun b _ => rfl) (each_refs fun b hb => ?_) (fun d hd d' hd' => ?_) (.inl fun d hd => ?_) hlen (fun b hb => ?_) fun out hol ho => ?_
  · obtain ⟨i, j, k, ht⟩ := hxa b hb
    have ed : tripD H b = .tuple [.int i, .int j, .int k] := by
      unfold tripD
      rw [ht]
    rw [ed]
    exact Dp.reads J _ _ _ ((Tp.tup ht (.cons (.int i) (.cons (.int j) (.cons (.int k) .nil)))).dp _ _) (show RelV (.ref b) (.ref b) from rfl)
  · obtain ⟨b, _, rfl⟩ := List.mem_map.mp hd
    obtain ⟨b', _, rfl⟩ := List.mem_map.mp hd'
    obtain ⟨i, j, k, e⟩ := tripD_is (H := H) (b := b)
    obtain ⟨i', j', k', e'⟩ := tripD_is (H := H) (b := b')
    rw [e, e']
    simp [alike, alikeAll]
  · obtain ⟨b, _, rfl⟩ := List.mem_map.mp hd
    obtain ⟨i, j, k, e⟩ := tripD_is (H := H) (b := b)
    exact ⟨_, _, e⟩
  · obtain ⟨i, j, k, e⟩ := tripD_is (H := H) (b := b)
    rw [e]
    have : (PyData.tuple [.int i, .int j, .int k]).depth ≤ 2 := by simp [PyData.depth, PyData.depthAll]
    omega
  · have eo := refs_each ho
    subst eo
    obtain ⟨ep, he'⟩ := PyProof.Rows.sortedAll_at s0.heap (as.map Value.ref) ((as.mergeSort (dataLe false (tripD H))).map Value.ref).toArray
    have pm : ((as.mergeSort (dataLe false (tripD H))).map V.ref).Perm xs := by
      rw [ex]
      exact (List.mergeSort_perm _ _).map V.ref
    refine ⟨.ref _, upd H (s0.heap.objs.size + 1) (.lst ((as.mergeSort (dataLe false (tripD H))).map V.ref)), J.laid (t' := s0.toks) (fun _ _ => PyProof.Rows.sortedAll_old) (Nat.le_succ _) ⟨by rw [pm.length_eq]; exact hz, _, ep, vals_refs, he'⟩, rfl, q _ _ pm (J.hok.fresh (Nat.le_succ _))⟩
end
end Tw

set_option Elab.async false
set_option linter.all false
set_option maxRecDepth 100000
set_option maxHeartbeats 4000000
/-! The law's own state; rows and labels by it. -/
namespace Tw
open PySem PySem.Spec PyProof.Rows L2
open He (ga ma)
structure LwA where
  tw : Addr
  ho : Addr
  gr : Addr
  to : Addr
  tv : Nat → Addr
  wh : Nat → Addr
structure LwAt (g : Nat → PyData) (H : Hp) (L : LwA) (G : Gs) : Prop where
  tw : H L.tw = some (.dK (dM G.ns fun n => .ref (L.tv n)))
  ho : H L.ho = some (.dK (dM G.ns fun n => .int (G.h n)))
  gr : ∃ gs, H L.gr = some (.lst gs) ∧ TpA H gs ((List.range 64).map g)
  to : H L.to = some (.lst ((List.range G.nx).map iV))
  kd : ∀ n ∈ G.ns, H (L.tv n) = some (.tup [.str (kindS (G.t n)), .ref (L.wh n)]) ∧ ∃ xs, H (L.wh n) = some (.lst xs) ∧ TpA H xs (whatD g (G.t n))
  th : L.tw ≠ L.ho
  gt : L.gr ≠ L.to
  wt : ∀ n ∈ G.ns, L.wh n ≠ L.to
  nz : G.nx ≤ 900
theorem LwAt.same {g : Nat → PyData} {H H' : Hp} {L : LwA} {G : Gs} (A : LwAt g H L G) (s : Same H H') : LwAt g H' L G := by
  obtain ⟨gs, h1, h2⟩ := A.gr
  exact ⟨s _ _ A.tw, s _ _ A.ho, ⟨gs, s _ _ h1, h2.sm s⟩, s _ _ A.to, fun n hn => by
    obtain ⟨h1, xs, h2, h3⟩ := A.kd n hn
    exact ⟨s _ _ h1, xs, s _ _ h2, h3.sm s⟩, A.th, A.gt, A.wt, A.nz⟩
theorem LwAt.dgt {g : Nat → PyData} {H : Hp} {L : LwA} {G : Gs} {n : Nat} (A : LwAt g H L G) (hn : n ∈ G.ns) : DGet H L.tw (.int (n : Int)) (some (.ref (L.tv n))) := dget_dM (F := fun n => .ref (L.tv n)) A.tw hn
theorem LwAt.dgh {g : Nat → PyData} {H : Hp} {L : LwA} {G : Gs} {n : Nat} (A : LwAt g H L G) (hn : n ∈ G.ns) : DGet H L.ho (.int (n : Int)) (some (.int (G.h n))) := dget_dM (F := fun n => .int (G.h n)) A.ho hn
theorem LwAt.bs {g : Nat → PyData} {H : Hp} {L : LwA} {G : Gs} {n : Nat} {bs : List Nat} (A : LwAt g H L G) (hn : n ∈ G.ns) (e : G.t n = .stem bs) : H (L.wh n) = some (.lst (bs.map iV)) := by
  obtain ⟨_, xs, h2, h3⟩ := A.kd n hn
  rw [e] at h3
  rw [h2, tp_ints h3]
theorem TpA.append {H : Hp} : ∀ {ds : List PyData} {vs : List V} {es : List PyData} {us : List V}, TpA H vs ds → TpA H us es → TpA H (vs ++ us) (ds ++ es)
  | [], _, _, _, h, k => by cases h; exact k
  | _ :: _, _, _, _, h, k => by
    cases h with
    | cons h1 h2 => exact .cons h1 (TpA.append h2 k)
/-! ### rows of a twig -/
def rwF (G : Gs) : Nat → Nat → List (Nat × PyData)
  | 0, _ => []
  | f + 1, n => match G.t n with
    | .leaf rows => rows
    | .stem bs => bs.flatMap (rwF G f)
def szF (G : Gs) : Nat → Nat → Nat
  | 0, _ => 1
  | f + 1, n => match G.t n with
    | .leaf _ => 1
    | .stem bs => 1 + (bs.map (szF G f)).sum
def rowsG (G : Gs) (n : Nat) : List (Nat × PyData) := rwF G (n + 1) n
def szG (G : Gs) (n : Nat) : Nat := szF G (n + 1) n
theorem rwF_fuel {G : Gs} (w : WF G) : ∀ (f f' n : Nat), n ∈ G.ns → n < f → n < f' → rwF G f n = rwF G f' n ∧ szF G f n = szF G f' n
  | 0, _, _, _, h, _ => absurd h (Nat.not_lt_zero _)
  | _, 0, _, _, _, h => absurd h (Nat.not_lt_zero _)
  | f + 1, f' + 1, n, hn, h1, h2 => by
    cases e : G.t n with
    | leaf rows => simp [rwF, szF, e]
    | stem bs =>
      obtain ⟨_, _, h3⟩ := w.st n hn bs e
      have q : ∀ b ∈ bs, rwF G f b = rwF G f' b ∧ szF G f b = szF G f' b := fun b hb => rwF_fuel w f f' b (h3 b hb).1 (by have := (h3 b hb).2; omega) (by have := (h3 b hb).2; omega)
      simp only [rwF, szF, e]
      exact ⟨by rw [List.flatMap_def, List.flatMap_def, List.map_congr_left fun b hb => (q b hb).1], by rw [List.map_congr_left fun b hb => (q b hb).2]⟩
theorem rowsG_leaf {G : Gs} {n : Nat} {rows : List (Nat × PyData)} (e : G.t n = .leaf rows) : rowsG G n = rows ∧ szG G n = 1 := by simp [rowsG, szG, rwF, szF, e]
theorem rowsG_stem {G : Gs} {n : Nat} {bs : List Nat} (w : WF G) (hn : n ∈ G.ns) (e : G.t n = .stem bs) : rowsG G n = bs.flatMap (rowsG G) ∧ szG G n = 1 + (bs.map (szG G)).sum := by
  obtain ⟨_, _, h3⟩ := w.st n hn bs e
  have q : ∀ b ∈ bs, rwF G n b = rowsG G b ∧ szF G n b = szG G b := fun b hb => rwF_fuel w n (b + 1) b (h3 b hb).1 (h3 b hb).2 (Nat.lt_succ_self _)
  constructor
  · show rwF G (n + 1) n = _
    simp only [rwF, e]
    rw [List.flatMap_def, List.flatMap_def, List.map_congr_left fun b hb => (q b hb).1]
  · show szF G (n + 1) n = _
    simp only [szF, e]
    rw [List.map_congr_left fun b hb => (q b hb).2]
/-- the label tells of the rows -/
structure LabR (l : Lb) (r : List (Nat × PyData)) : Prop where
  ne : r ≠ []
  lo : r.head?.map (·.1) = some l.lo
  hi : r.getLast?.map (·.1) = some l.hi
  cnt : r.length = l.cnt
theorem labr_flat {bs : List Nat} {l : Nat → Lb} {R : Nat → List (Nat × PyData)} (h : bs ≠ []) (k : ∀ b ∈ bs, LabR (l b) (R b)) : LabR (labS (bs.map l)) (bs.flatMap R) := by
  induction bs with
  | nil => exact absurd rfl h
  | cons b r ih =>
    have kb := k b List.mem_cons_self
    by_cases e : r = []
    · subst e
      have er : [b].flatMap R = R b := by simp
      rw [er]
      refine ⟨kb.ne, kb.lo, kb.hi, ?_⟩
      show _ = (l b).cnt + 0
      rw [kb.cnt]
      rfl
    · have ih := ih e fun c hc => k c (List.mem_cons_of_mem _ hc)
      have ef : (b :: r).flatMap R = R b ++ r.flatMap R := by simp
      rw [ef]
      refine ⟨by simp [kb.ne], ?_, ?_, ?_⟩
      · rw [List.head?_append]
        have hl := kb.lo
        cases q : (R b).head? with
        | none => rw [q] at hl; cases hl
        | some x => rw [q] at hl; exact hl
      · rw [List.getLast?_append]
        have hl := ih.hi
        cases q : (r.flatMap R).getLast? with
        | none => rw [q] at hl; cases hl
        | some x =>
          rw [q] at hl
          have e2 : (labS ((b :: r).map l)).hi = (labS (r.map l)).hi := by
            cases r with
            | nil => exact absurd rfl e
            | cons c s =>
              show ((((b :: c :: s).map l).getLast?).map (·.hi)).getD 0 = ((((c :: s).map l).getLast?).map (·.hi)).getD 0
              rw [List.map_cons, List.map_cons, List.getLast?_cons_cons]
          rw [e2]
          exact hl
      · rw [List.length_append, kb.cnt, ih.cnt]
        rfl
theorem rows_lab {G : Gs} (w : WF G) : ∀ (N n : Nat), n < N → n ∈ G.ns → LabR (G.l n) (rowsG G n) ∧ 1 ≤ szG G n
  | 0, _, h, _ => absurd h (Nat.not_lt_zero _)
  | N + 1, n, h, hn => by
    cases e : G.t n with
    | leaf rows =>
      obtain ⟨h1, h2⟩ := w.lf n hn rows e
      obtain ⟨e1, e2⟩ := rowsG_leaf (G := G) e
      rw [e1, e2, h2]
      have hl := h1.l1
      cases rows with
      | nil => simp at hl
      | cons r s =>
        refine ⟨⟨by simp, rfl, ?_, rfl⟩, Nat.le_refl _⟩
        show _ = some ((((r :: s).getLast?).map (·.1)).getD 0)
        cases q : (r :: s).getLast? with
        | none => simp at q
        | some v => rfl
    | stem bs =>
      obtain ⟨h1, h2, h3⟩ := w.st n hn bs e
      obtain ⟨e1, e2⟩ := rowsG_stem w hn e
      rw [e1, e2, h2]
      exact ⟨labr_flat (fun z => by have := h1.l2; rw [z] at this; simp at this) fun b hb => (rows_lab w N b (by have := (h3 b hb).2; omega) (h3 b hb).1).1, by omega⟩
theorem rows_lab' {G : Gs} (w : WF G) {n : Nat} (hn : n ∈ G.ns) : LabR (G.l n) (rowsG G n) := (rows_lab w (n + 1) n (Nat.lt_succ_self _) hn).1
theorem sz_pos {G : Gs} (w : WF G) {n : Nat} (hn : n ∈ G.ns) : 1 ≤ szG G n := (rows_lab w (n + 1) n (Nat.lt_succ_self _) hn).2
theorem flat_len {G : Gs} (w : WF G) : ∀ {td : List Nat}, (∀ b ∈ td, b ∈ G.ns) → td.length ≤ (td.flatMap (rowsG G)).length
  | [], _ => Nat.le_refl _
  | b :: r, h => by
    have h1 := (rows_lab' w (h b List.mem_cons_self)).ne
    have h2 := flat_len w fun c hc => h c (List.mem_cons_of_mem _ hc)
    have h3 : 1 ≤ (rowsG G b).length := List.length_pos_iff.mpr h1
    rw [List.flatMap_cons, List.length_append, List.length_cons]
    omega
theorem rows_64 {G : Gs} (w : WF G) {n : Nat} (hn : n ∈ G.ns) : (rowsG G n).length ≤ 64 := by
  have h := (rows_lab' w hn).cnt
  have k := w.kb' hn
  have k1 := k.d
  have k2 := k.b
  omega
def spRowsOf : Sp := fun vs H Q _ => ∃ g L G n, vs = [.ref L.tw, iV n] ∧ LwAt g H L G ∧ WF G ∧ n ∈ G.ns ∧ ∀ q xs H', Same H H' → H' q = some (.lst xs) → TpA H' xs ((rowsG G n).map (rowD g)) → Q (.ref q) H'
theorem lstRevW {K : PySem.W.Frag} {σ : L2.St} {H : Hp} {te : TE} {Q : VK} (h : te σ H fun v H1 => ∃ (a : Addr) (xs : List V), v = .ref a ∧ SqL K H1 a xs ∧ ∀ q, H1 q = none → Q (.ref q) (upd H1 q (.lst xs.reverse))) : tLstRev K te σ H Q := h
theorem dgetW {σ : L2.St} {H : Hp} {td ty : TE} {a : Addr} {Q : VK} (hd : At td σ H (.ref a)) (hy : ty σ H fun y H2 => ∃ b v, V.ref a = .ref b ∧ DGet H2 b y (some v) ∧ Q v H2) : tDGet td ty σ H Q := hd _ hy
section
variable {P : Program} {w : World} {K : PySem.W.Frag} {mg : Str → Option Value} {base : Heap}
theorem sc__law_rows_of : FnScope ["_law_twigs", "_law_number", "_law_todo", "_law_found", "_law_kind", "_law_what"] ["_law_twigs", "_law_number"] (defScope (top 37)) := ⟨rfl, rfl, rfl, by decide +kernel, rfl, by decide +kernel, by decide +kernel⟩
theorem ok__law_rows_of (T : TX K mg) (F : Fd K "_law_rows_of" "_law_rows_of" (top 37) (ga K "_law_rows_of")) : OkF P w K mg base CX0 1 (ga K "_law_rows_of") ["_law_twigs", "_law_number"] spRowsOf := by
  refine mkOk F sc__law_rows_of (fun vs H Q E h => ?_) (fun _ _ _ _ _ _ us hl => match us, hl with | [_, _], _ => rfl) (fun cdv A outer s H vs Q E hr h => ?_)
  · obtain ⟨g, L, G, n, rfl, _⟩ := h
    rfl
  · obtain ⟨g, L, G, n, rfl, A0, wf, hn, k⟩ := h
    have hu := hu_of hr
    have nd := sc__law_rows_of.nd
    refine ⟨_, (pss_cons (ps_set (i := 2) nd rfl (by first | exact Or.inl rfl | exact Or.inr rfl) (pe_lst (pa_cons (pv 1) pa_nil)))
      (pss_cons (ps_set (i := 3) nd rfl (by first | exact Or.inl rfl | exact Or.inr rfl) (pe_lst pa_nil))
      (pss_cons (ps_while PassesOwn.never (pt_cmpR (op_neD hr.units) (pv 2) (pe_lst pa_nil) (nomark _)) (pss_cons (ps_asg (pe_dget hu (pv 0) (pe_bm0 PySem.F.plainAttrs_list PySem.F.slot_list_pop PySem.F.type_list_pop (mt_pop) (pv 2)) (fun _ _ => rfl)) (pg_tup rfl (pgs_cons (pg_name (i := 4) nd rfl (by first | exact Or.inl rfl | exact Or.inr rfl)) (pgs_cons (pg_name (i := 5) nd rfl (by first | exact Or.inl rfl | exact Or.inr rfl)) pgs_nil))))
      (pss_one (ps_if (pt_cmpR op_eq (pv 4) pe_str (nomark _)) (pss_one (ps_set (i := 3) nd rfl (by first | exact Or.inl rfl | exact Or.inr rfl) (pe_op op_cat (pv 3) (pe_callTy (call_list_of) rfl T.f_list bt_list (pa_cons (pv 5) pa_nil))))) (pss_one (ps_set (i := 2) nd rfl (by first | exact Or.inl rfl | exact Or.inr rfl) (pe_op op_cat (pv 2) (pe_lstRev rfl rfl T.f_list rfl T.f_reversed (pv 5)))))))))
      (pss_one (ps_ret (pv 3)))))), ?_⟩
    refine sq_as (lst_ (vs := [iV n]) (ata_cons (at_var rfl) ata_nil) z1 fun q hq => ?_)
    refine sq_as ⟨z0, fun p hp => ?_⟩
    have hq0 : H q = none := hq
    have hqp : q ≠ p := ne_of_none (o := .lst [iV n]) upd_same hp
    have s0 := (same_new (o := .lst [iV n]) hq).trans (same_new (o := .lst []) hp)
    have hq1 : upd (upd H q (.lst [iV n])) p (.lst []) q = some (.lst [iV n]) := by rw [upd_ne (ne_of_none upd_same hp)]; exact upd_same
    have hp1 : upd (upd H q (.lst [iV n])) p (.lst []) p = some (.lst []) := upd_same
    generalize upd (upd H q (.lst [iV n])) p (.lst []) = H1 at s0 hq1 hp1 ⊢
    refine sq_while (fun m σ' H' => ∃ tq td fq fs x3 x4 rs, σ' = [some (.ref L.tw), some (iV n), some (.ref tq), some (.ref fq), x3, x4] ∧ Same H H' ∧ H tq = none ∧ tq ≠ fq ∧ H' tq = some (.lst (td.map iV)) ∧ H' fq = some (.lst fs) ∧ TpA H' fs (rs.map (rowD g)) ∧ rs ++ td.reverse.flatMap (rowsG G) = rowsG G n ∧ (∀ b ∈ td, b ∈ G.ns) ∧ m = (td.map (szG G)).sum) _
      ⟨q, [n], p, [], none, none, [], rfl, s0, hq0, hqp, hq1, hp1, .nil, by simp, (fun b hb => by rw [List.mem_singleton.mp hb]; exact hn), rfl⟩ ?_
    rintro m σ' H2 ⟨tq, td, fq, fs, x3, x4, rs, rfl, s2, htq, hqp, hq2, hf2, hfs, ef, htd, rfl⟩
    have A2 := A0.same s2
    have r64 := rows_64 wf hn
    have ef2 := congrArg List.length ef
    rw [List.length_append] at ef2
    have hrs := hfs.length
    rw [List.length_map] at hrs
    refine ⟨!td.isEmpty, smt_test (sm_neNil (at_var rfl) hq2), fun hb H3 s3 => ?_, fun hb H3 s3 => ?_⟩
    · obtain ⟨ts, x, et⟩ : ∃ ts x, td = ts ++ [x] := by
        have hne : td ≠ [] := fun e => by rw [e] at hb; cases hb
        exact ⟨td.dropLast, td.getLast hne, (List.dropLast_concat_getLast hne).symm⟩
      subst et
      have hx := htd x (List.mem_append_right _ (List.mem_singleton.mpr rfl))
      have hts : ∀ b ∈ ts, b ∈ G.ns := fun b hb => htd b (List.mem_append_left _ hb)
      have A3 := A2.same s3
      have hq3 := s3 _ _ hq2
      refine sq_asg (dgetW (a := L.tw) (at_var rfl) (pop_ (at_var rfl) hq3 ?_))
      have tk : TK H3 (upd H3 tq (.lst (ts.map iV))) := TK.upd hq3 fun _ z => by cases z
      have s4 : Same H (upd H3 tq (.lst (ts.map iV))) := same_mut (s2.trans s3) htq
      have A4 := A0.same s4
      have hf4 : upd H3 tq (.lst (ts.map iV)) fq = some (.lst fs) := by
        rw [upd_ne hqp.symm]
        exact s3 _ _ hf2
      have hq4 : upd H3 tq (.lst (ts.map iV)) tq = some (.lst (ts.map iV)) := upd_same
      have hfs4 := (hfs.sm s3).mono tk _ _
      generalize upd H3 tq (.lst (ts.map iV)) = H4 at s4 A4 hf4 hq4 hfs4 ⊢
      refine ⟨_, _, rfl, A4.dgt hx, ?_⟩
      obtain ⟨ht, xs, hw, hxs⟩ := A4.kd x hx
      refine gPair (i1 := 4) (i2 := 5) ht ?_
      have htd2 : (ts ++ [x]).reverse.flatMap (rowsG G) = rowsG G x ++ ts.reverse.flatMap (rowsG G) := by
        rw [List.reverse_append]
        rfl
      have esz : ((ts ++ [x]).map (szG G)).sum = (ts.map (szG G)).sum + szG G x := by
        rw [List.map_append, List.sum_append]
        simp
      have hlen : ts.length + 1 ≤ 64 := by
        have q1 := flat_len wf (td := (ts ++ [x]).reverse) (fun b hb => htd b (List.mem_reverse.mp hb))
        rw [List.length_reverse, List.length_append] at q1
        have q2 : ts.length + 1 ≤ ((ts ++ [x]).reverse.flatMap (rowsG G)).length := q1
        omega
      rw [htd2] at ef
      cases et : G.t x with
      | leaf rows =>
        obtain ⟨r1, r2⟩ := rowsG_leaf (G := G) et
        have hxr := hxs.length
        rw [et] at hxs hxr
        have hxr : xs.length = rows.length := by rw [hxr]; exact List.length_map _
        have hrl : rows.length ≤ 64 := by rw [← r1]; exact rows_64 wf hx
        refine st_T (att_test (at_eq (at_var (v := .str "leaf") rfl) at_c rfl (by rw [dec_str]; exact decT rfl))) (as_ (opW (at_then (at_var rfl) (cb1 (at_then (at_var rfl) ⟨L.wh x, xs, rfl, .inl (SqL.of hw), fun l hl => ⟨fq, l, fs, xs, rfl, rfl, same_new hl _ _ hf4, upd_same, zl (by omega), fun r hr => ?_⟩⟩)))))
        have s5 := (same_new (o := .lst xs) hl).trans (same_new (o := .lst (fs ++ xs)) hr)
        refine ⟨(ts.map (szG G)).sum, by rw [esz, r2]; omega, tq, ts, r, fs ++ xs, _, _, rs ++ rows, rfl, s4.trans s5, htq, ?_, s5 _ _ hq4, upd_same, ?_, ?_, hts, rfl⟩
        · exact ne_of_none (same_new (o := .lst xs) hl _ _ hq4) hr
        · rw [List.map_append]
          exact (hfs4.sm s5).append (hxs.sm s5)
        · rw [← ef, r1, List.append_assoc]
      | stem bs =>
        obtain ⟨r1, r2⟩ := rowsG_stem wf hx et
        obtain ⟨k1, _, k3⟩ := wf.st x hx bs et
        have hbl : bs.length ≤ 4 := by have := k1.l4; rw [List.length_map] at this; exact this
        have hw2 := A4.bs hx et
        refine st_F (att_test (at_eq (at_var (v := .str "stem") rfl) at_c rfl (by rw [dec_str]; exact decF (show ¬ ("stem" : Str) = "leaf" by decide)))) (as_ (opW (at_then (at_var rfl) (lstRevW (at_then (at_var rfl) ⟨L.wh x, bs.map iV, rfl, SqL.of hw2, fun l hl => ⟨tq, l, ts.map iV, (bs.map iV).reverse, rfl, rfl, same_new hl _ _ hq4, upd_same, zl (by rw [List.length_reverse, List.length_map, List.length_map]; omega), fun r hr => ?_⟩⟩)))))
        have s5 := (same_new (o := .lst (bs.map iV).reverse) hl).trans (same_new (o := .lst (ts.map iV ++ (bs.map iV).reverse)) hr)
        refine ⟨((ts ++ bs.reverse).map (szG G)).sum, ?_, r, ts ++ bs.reverse, fq, fs, _, _, rs, rfl, s4.trans s5, s4.free (upd_none hr).2, ?_, ?_, s5 _ _ hf4, hfs4.sm s5, ?_, ?_, rfl⟩
        · rw [esz, r2, List.map_append, List.sum_append, List.map_reverse, List.sum_reverse]
          omega
        · exact (ne_of_none (same_new (o := .lst (bs.map iV).reverse) hl _ _ hf4) hr).symm
        · rw [upd_same, List.map_append, List.map_reverse]
        · rw [← ef, r1, List.reverse_append, List.reverse_reverse, List.flatMap_append]
        · intro b hb
          rcases List.mem_append.mp hb with hb | hb
          · exact hts b hb
          · exact (k3 b (List.mem_reverse.mp hb)).1
    · have e : td = [] := by
        cases td with
        | nil => rfl
        | cons a r => cases hb
      subst e
      refine st_ret (at_var rfl) (k fq fs H3 (s2.trans s3) (s3 _ _ hf2) ?_)
      rw [← ef]
      simp only [List.reverse_nil, List.flatMap_nil, List.append_nil]
      exact hfs.sm s3
end
end Tw

set_option Elab.async false
set_option linter.all false
set_option maxRecDepth 100000
set_option maxHeartbeats 4000000
/-! The law: label, above, shared. -/
namespace Tw
open PySem PySem.Spec PyProof.Rows L2
open He (ga ma)
theorem lcW {K : PySem.W.Frag} {σ : L2.St} {H : Hp} {Q : VK} {tl te : TE} {g : TG} {tt : TT} {vs : List Nat} (h : tl σ H fun x H1 => tLc (iList K (tC x)) g tt te vs σ H1 Q) : tLc (iList K tl) g tt te vs σ H Q := h
theorem sortedW {σ : L2.St} {H : Hp} {te : TE} {a : Addr} {ns : List Nat} {F : Nat → V} {Q : VK} (hd : At te σ H (.ref a)) (h : H a = some (.dK (dM ns F))) (so : ns.Pairwise (· < ·)) (k : ∀ p, H p = none → Q (.ref p) (upd H p (.lst (ns.map iV)))) : tCB rSortedK (tCons te tNil) σ H Q :=
  cb1 (hd _ ⟨a, dM ns F, ns.map fun (n : Nat) => (n : Int), rfl, .inl h, by rw [dM_keys, List.map_map]; rfl, fun ys p h1 h2 hp => by
    rw [sorted_same h1 h2 (rising_int so), List.map_map]
    exact k p hp⟩)
theorem rise_ext {xs ys : List Nat} (h1 : xs.Pairwise (· < ·)) (h2 : ys.Pairwise (· < ·)) (h : ∀ m, m ∈ xs ↔ m ∈ ys) : xs = ys :=
  ((List.perm_ext_iff_of_nodup (h1.imp fun q => Nat.ne_of_lt q) (h2.imp fun q => Nat.ne_of_lt q)).mpr h).eq_of_pairwise (fun a b _ _ h3 h4 => absurd h3 (Nat.lt_asymm h4)) h1 h2
def isAb (G : Gs) (n one : Nat) : Bool := match G.t one with
  | .stem bs => decide (n ∈ bs)
  | .leaf _ => false
theorem above_eq {G : Gs} (w : WF G) {n : Nat} (hn : n ∈ G.ns) : G.ns.filter (isAb G n) = G.ab n := by
  refine rise_ext (w.so.sublist List.filter_sublist) (w.abs n hn) fun m => ?_
  rw [List.mem_filter, w.ab n hn m]
  refine and_congr_right fun hm => ?_
  unfold isAb
  cases e : G.t m with
  | leaf rows => exact ⟨fun q => (by cases q), fun ⟨bs, q, _⟩ => (by cases q)⟩
  | stem bs =>
    show decide (n ∈ bs) = true ↔ _
    rw [decide_eq_true_eq]
    exact ⟨fun q => ⟨bs, rfl, q⟩, fun ⟨cs, q, q2⟩ => by cases q; exact q2⟩
def spLawLabel : Sp := fun vs H Q _ => ∃ g L G n, vs = [.ref L.tw, iV n] ∧ LwAt g H L G ∧ WF G ∧ n ∈ G.ns ∧ ∀ v H', Same H H' → Tp H' v (labD g (G.l n)) → Q v H'
def spLawAbove : Sp := fun vs H Q _ => ∃ g L G n, vs = [.ref L.tw, iV n] ∧ LwAt g H L G ∧ WF G ∧ n ∈ G.ns ∧ ∀ q H', Same H H' → H' q = some (.lst ((G.ab n).map iV)) → Q (.ref q) H'
def spLawShared : Sp := fun vs H Q _ => ∃ g L G n, vs = [.ref L.tw, .ref L.ho, iV n] ∧ LwAt g H L G ∧ WF G ∧ n ∈ G.ns ∧ (Alone G n → ∀ H', Same H H' → Q .non H') ∧ (¬ Alone G n → ∀ H' k, Same H H' → Q (iV k) H')
section
variable {P : Program} {w : World} {K : PySem.W.Frag} {mg : Str → Option Value} {base : Heap}
theorem sc__law_label : FnScope ["_law_twigs", "_law_number", "_law_here", "_law_high", "_law_rows"] ["_law_twigs", "_law_number"] (defScope (top 38)) := ⟨rfl, rfl, rfl, by decide +kernel, rfl, by decide +kernel, by decide +kernel⟩
theorem ok__law_label (T : TX K mg) (F : Fd K "_law_label" "_law_label" (top 38) (ga K "_law_label")) (G__law_rows_of : OkF P w K mg base CX0 1 (ga K "_law_rows_of") ["_law_twigs", "_law_number"] spRowsOf) : OkF P w K mg base CX0 2 (ga K "_law_label") ["_law_twigs", "_law_number"] spLawLabel := by
  refine mkOk F sc__law_label (fun vs H Q E h => ?_) (fun _ _ _ _ _ _ us hl => match us, hl with | [_, _], _ => rfl) (fun cdv A outer s H vs Q E hr h => ?_)
  · obtain ⟨g, L, G, n, rfl, _⟩ := h
    rfl
  · obtain ⟨g, L, G, n, rfl, A0, wf, hn, k⟩ := h
    have hu := hu_of hr
    have nd := sc__law_label.nd
    refine ⟨_, (pss_cons (ps_set (i := 2) nd rfl (by first | exact Or.inl rfl | exact Or.inr rfl) (pv 1))
      (pss_cons (ps_set (i := 3) nd rfl (by first | exact Or.inl rfl | exact Or.inr rfl) pe_int)
      (pss_cons (ps_while PassesOwn.never (pt_cmpR op_eq (pe_ix ix_tup (pe_dget hu (pv 0) (pv 2) (fun _ _ => rfl)) pe_int (fun _ _ => rfl)) pe_str (nomark _)) (pss_cons (ps_set (i := 2) nd rfl (by first | exact Or.inl rfl | exact Or.inr rfl) (pe_ix ix_list (pe_ix ix_tup (pe_dget hu (pv 0) (pv 2) (fun _ _ => rfl)) pe_int (fun _ _ => rfl)) pe_int (fun _ _ => rfl)))
      (pss_one (ps_set (i := 3) nd rfl (by first | exact Or.inl rfl | exact Or.inr rfl) (pe_op op_add (pv 3) pe_int)))))
      (pss_cons (ps_set (i := 4) nd rfl (by first | exact Or.inl rfl | exact Or.inr rfl) (pe_c G__law_rows_of (hr.mono (by decide)) rfl T.g__law_rows_of (pa_cons (pv 0) (pa_cons (pv 1) pa_nil))))
      (pss_one (ps_ret (pe_tup (pa_cons (pv 3) (pa_cons (pe_ix ix_tup (pe_ix ix_list (pv 4) pe_int (fun _ _ => rfl)) pe_int (fun _ _ => rfl)) (pa_cons (pe_ix ix_tup (pe_ix ix_list (pv 4) (pe_un un_neg pe_int) (fun _ _ => rfl)) pe_int (fun _ _ => rfl)) (pa_cons (pe_callB (call_len_seq) rfl T.f_len bt_len (pa_cons (pv 4) pa_nil)) pa_nil))))))))))), ?_⟩
    refine sq_set (at_var rfl) (sq_set at_c ?_)
    refine sq_while (fun m σ' H' => ∃ x c, σ' = [some (.ref L.tw), some (iV n), some (iV x), some (iV c), none] ∧ Same H H' ∧ x ∈ G.ns ∧ (G.l n).ht = c + (G.l x).ht ∧ m = x) n ⟨n, 0, rfl, Same.refl _, hn, (Nat.zero_add _).symm, rfl⟩ ?_
    rintro m σ' H1 ⟨x, c, rfl, s1, hx, eh, rfl⟩
    have A1 := A0.same s1
    obtain ⟨ht, xs, hw, hxs⟩ := A1.kd m hx
    refine ⟨decide (kindS (G.t m) = "stem"), (att_test (at_eq (at_ixT (at_dget (at_var rfl) (at_var rfl) (A1.dgt hx)) at_c ht (atI_nat (j := 0) rfl)) at_c rfl dec_str)).sm, fun hb H2 s2 => ?_, fun hb H2 s2 => ?_⟩
    · have hb := of_decide_eq_true hb
      cases et : G.t m with
      | leaf rows => rw [et] at hb; exact absurd hb (by show ¬ ("leaf" : Str) = "stem"; decide)
      | stem bs =>
        obtain ⟨k1, k2, k3⟩ := wf.st m hx bs et
        have A2 := A1.same s2
        have hw2 := A2.bs hx et
        cases bs with
        | nil => exact absurd k1.l2 (by simp)
        | cons b0 r =>
          obtain ⟨hb0, hlt⟩ := k3 b0 List.mem_cons_self
          obtain ⟨ht2, _⟩ := A2.kd m hx
          refine sq_set (at_ixL (at_ixT (at_dget (at_var rfl) (at_var rfl) (A2.dgt hx)) at_c ht2 (atI_nat (j := 1) rfl)) at_c hw2 (atI_nat (j := 0) rfl)) ?_
          refine st_set (at_I0 (z := iV (c + 1)) (at_var rfl) at_c rfl) ⟨b0, hlt, b0, c + 1, rfl, s1.trans s2, hb0, ?_, rfl⟩
          rw [eh, k2]
          show c + ((G.l b0).ht + 1) = c + 1 + (G.l b0).ht
          omega
    · have hb := of_decide_eq_false hb
      have h0 : (G.l m).ht = 0 := by
        cases et : G.t m with
        | leaf rows => rw [(wf.lf m hx rows et).2]; rfl
        | stem bs => rw [et] at hb; exact absurd rfl hb
      rw [h0, Nat.add_zero] at eh
      have A2 := A1.same s2
      refine sq_as (wp_call (ata_cons (at_var rfl) (ata_cons (at_var rfl) ata_nil)) ⟨g, L, G, n, rfl, A2, wf, hn, fun q ys H3 s3 hq hy => ?_⟩)
      have lr := rows_lab' wf hn
      have hl := hy.length
      rw [List.length_map] at hl
      have h0 : 0 < (rowsG G n).length := List.length_pos_iff.mpr lr.ne
      have e1 : (rowsG G n)[0]? = some (rowsG G n)[0] := List.getElem?_eq_getElem h0
      have e2 : (rowsG G n)[(rowsG G n).length - 1]? = some (rowsG G n)[(rowsG G n).length - 1] := List.getElem?_eq_getElem (by omega)
      obtain ⟨a1, k1, v1, x1, y1, t1, u1⟩ := row_at hy e1
      obtain ⟨a2, k2, v2, x2, y2, t2, u2⟩ := row_at hy e2
      refine rt_ (tup_ (vs := [iV c, k1, k2, .int (ys.length : Int)]) (ata_cons (at_var rfl) (ata_cons (at_ixT (at_ixL (at_var rfl) at_c hq (atI_nat (j := 0) x1)) at_c y1 (atI_nat (j := 0) (by rfl)))
        (ata_cons (at_ixT (at_ixL (at_var rfl) (at_U at_c rfl) hq (atI_last (by rw [hl]; exact x2))) at_c y2 (atI_nat (j := 0) (by rfl))) (ata_cons (at_lenL (ata_cons (at_var rfl) ata_nil) hq) ata_nil)))) z4 fun p hp => k _ _ (((s1.trans s2).trans s3).trans (same_new hp)) ?_)
      have el : labD g (G.l n) = .tuple [.int (c : Int), g ((rowsG G n)[0]).1, g ((rowsG G n)[(rowsG G n).length - 1]).1, .int (ys.length : Int)] := by
        have j1 := lr.lo
        have j2 := lr.hi
        rw [List.head?_eq_getElem?, e1] at j1
        rw [List.getLast?_eq_getElem?, e2] at j2
        have j1 := Option.some.inj j1
        have j2 := Option.some.inj j2
        unfold labD
        rw [← j1, ← j2, ← lr.cnt, eh, hl]
      rw [el]
      exact Tp.mk hp (.cons (.int _) (.cons t1 (.cons t2 (.cons (.int _) .nil))))
theorem sc__law_above : FnScope ["_law_twigs", "_law_number", "_law_one"] ["_law_twigs", "_law_number"] (defScope (top 39)) := ⟨rfl, rfl, rfl, by decide +kernel, rfl, by decide +kernel, by decide +kernel⟩
theorem ok__law_above (T : TX K mg) (F : Fd K "_law_above" "_law_above" (top 39) (ga K "_law_above")) : OkF P w K mg base CX0 1 (ga K "_law_above") ["_law_twigs", "_law_number"] spLawAbove := by
  refine mkOk F sc__law_above (fun vs H Q E h => ?_) (fun _ _ _ _ _ _ us hl => match us, hl with | [_, _], _ => rfl) (fun cdv A outer s H vs Q E hr h => ?_)
  · obtain ⟨g, L, G, n, rfl, _⟩ := h
    rfl
  · obtain ⟨g, L, G, n, rfl, A0, wf, hn, k⟩ := h
    have hu := hu_of hr
    have nd := sc__law_above.nd
    refine ⟨_, (pss_one (ps_ret (pe_lc (own := [("_law_one", 2)]) (by rfl) nd (pi_list (pe_callB (cr_sortedK rfl) rfl T.f_sorted bt_sorted (pa_cons (pv 0) pa_nil))) (blkOk_by (N := ["_law_twigs", "_law_number", "_law_one"]) (sc := defScope (top 39)) (own := [("_law_one", 2)]) (by decide +kernel)) (fun _ _ _ _ _ => (pg_name (i := 2) nd rfl (by first | exact Or.inl rfl | exact Or.inr rfl))) (fun _ _ _ _ _ => (pts_one (PW.pt (pw_and (pt_cmpR op_eq (pe_ix (ixT (K := K) rfl) (pe_dget hu (pv 0) (pv 2) (fun _ _ => rfl)) pe_int (fun _ _ => rfl)) pe_str (nomark _)) (pw_and1 (pt_cmpR (op_inK (K := K) rfl) (pv 1) (pe_ix (ixT (K := K) rfl) (pe_dget hu (pv 0) (pv 2) (fun _ _ => rfl)) pe_int (fun _ _ => rfl)) rfl)))))) (fun _ _ _ _ _ => pv 2)))), ?_⟩
    refine rt_ (lcW (sortedW (F := fun n => .ref (L.tv n)) (at_var rfl) A0.tw wf.so fun p hp => ?_))
    have s1 := same_new (o := .lst (G.ns.map iV)) hp
    refine lcN (isAb G n) at_c upd_same (by have := wf.len; have := A0.nz; omega) (fun m hm H2 s2 => ?_) fun D H2 hD s2 hD2 => k D H2 (s1.trans s2) (by rw [hD2, above_eq wf hn])
    have A2 := A0.same (s1.trans s2)
    obtain ⟨ht, _⟩ := A2.kd m hm
    unfold isAb
    cases et : G.t m with
    | leaf rows =>
      rw [et] at ht
      exact (att_andF (att_test (at_eq (at_ixT (at_dget (at_var rfl) (at_var rfl) (A2.dgt hm)) at_c ht (atI_nat (j := 0) rfl)) at_c rfl (by rw [dec_str]; exact decF (show ¬ ("leaf" : Str) = "stem" by decide))))).sm
    | stem bs =>
      rw [et] at ht
      have hw2 := A2.bs hm et
      exact (att_andT (att_test (at_eq (at_ixT (at_dget (at_var rfl) (at_var rfl) (A2.dgt hm)) at_c ht (atI_nat (j := 0) rfl)) at_c rfl (by rw [dec_str]; exact decT rfl))) (att_test (at_is (at_inL (neg := false) (at_var rfl) (at_ixT (at_dget (at_var rfl) (at_var rfl) (A2.dgt hm)) at_c ht (atI_nat (j := 1) rfl)) hw2) rfl))).sm
theorem sc__law_shared : FnScope ["_law_twigs", "_law_holds", "_law_number", "_law_here", "_law_stems"] ["_law_twigs", "_law_holds", "_law_number"] (defScope (top 40)) := ⟨rfl, rfl, rfl, by decide +kernel, rfl, by decide +kernel, by decide +kernel⟩
theorem ok__law_shared (T : TX K mg) (F : Fd K "_law_shared" "_law_shared" (top 40) (ga K "_law_shared")) (G__law_above : OkF P w K mg base CX0 1 (ga K "_law_above") ["_law_twigs", "_law_number"] spLawAbove) : OkF P w K mg base CX0 2 (ga K "_law_shared") ["_law_twigs", "_law_holds", "_law_number"] spLawShared := by
  refine mkOk F sc__law_shared (fun vs H Q E h => ?_) (fun _ _ _ _ _ _ us hl => match us, hl with | [_, _, _], _ => rfl) (fun cdv A outer s H vs Q E hr h => ?_)
  · obtain ⟨g, L, G, n, rfl, _⟩ := h
    rfl
  · obtain ⟨g, L, G, n, rfl, A0, wf, hn, k1, k2⟩ := h
    have hu := hu_of hr
    have nd := sc__law_shared.nd
    refine ⟨_, (pss_cons (ps_set (i := 3) nd rfl (by first | exact Or.inl rfl | exact Or.inr rfl) (pv 2))
      (pss_one (ps_while PassesOwn.never (pt_val pe_bl) (pss_cons (ps_set (i := 4) nd rfl (by first | exact Or.inl rfl | exact Or.inr rfl) (pe_c G__law_above (hr.mono (by decide)) rfl T.g__law_above (pa_cons (pv 0) (pa_cons (pv 3) pa_nil))))
      (pss_cons (ps_if (pt_cmpR op_ne (pe_op op_add (pe_callB (call_len_seq) rfl T.f_len bt_len (pa_cons (pv 4) pa_nil)) (pe_dget hu (pv 1) (pv 3) (fun _ _ => rfl))) pe_int (nomark _)) (pss_one (ps_ret (pv 3))) pss_nil)
      (pss_cons (ps_if (pt_cmpR (op_eqD hr.units) (pv 4) (pe_lst pa_nil) (nomark _)) (pss_one (ps_ret pe_non)) pss_nil)
      (pss_one (ps_set (i := 3) nd rfl (by first | exact Or.inl rfl | exact Or.inr rfl) (pe_ix ix_list (pv 4) pe_int (fun _ _ => rfl)))))))))), ?_⟩
    refine sq_set (at_var rfl) (st_while (fun m σ' H' => ∃ x y, σ' = [some (.ref L.tw), some (.ref L.ho), some (iV n), some (iV x), y] ∧ x ∈ G.ns ∧ (Alone G n ↔ Alone G x) ∧ Same H H' ∧ m = G.nx - x) (G.nx - n) ⟨n, _, rfl, hn, Iff.rfl, Same.refl _, rfl⟩ ?_)
    rintro m σ' H1 ⟨x, y, rfl, hx, ia, s1, rfl⟩
    refine ⟨true, smt_B at_c.sm, fun _ H2 s2 => ?_, fun q => by cases q⟩
    have A2 := A0.same (s1.trans s2)
    refine sq_as (wp_call (ata_cons (at_var rfl) (ata_cons (at_var rfl) ata_nil)) ⟨g, L, G, x, rfl, A2, wf, hx, fun q H3 s3 hq => ?_⟩)
    have A3 := A2.same s3
    have s13 := (s1.trans s2).trans s3
    have h0 := wf.h0 x hx
    have hll : ((G.ab x).map iV).length = (G.ab x).length := List.length_map _
    refine sq_ifn (att_test (at_ne (at_I0 (at_lenL (ata_cons (at_var rfl) ata_nil) hq) (at_dget (at_var rfl) (at_var rfl) (A3.dgh hx)) rfl) at_c rfl dec_int)) (fun hb => ?_) fun hb => ?_
    · have hb : ¬ (((G.ab x).map iV).length : Int) + G.h x = 1 := by simpa using hb
      rw [hll] at hb
      refine st_ret (at_var rfl) (k2 (fun h => ?_) H3 x s13)
      cases ia.mp h with
      | top e1 e2 => exact hb (by rw [e1, e2]; rfl)
      | up e1 e2 _ => exact hb (by rw [e1, e2]; rfl)
    · have hb : (((G.ab x).map iV).length : Int) + G.h x = 1 := by simpa using hb
      rw [hll] at hb
      refine sq_ifSn (smt_test (sm_eqNil (at_var rfl) hq)) (fun he H4 s4 => ?_) fun he H4 s4 => ?_
      · have e := List.isEmpty_iff.mp he
        rw [e] at hb
        exact st_ret at_c (k1 (ia.mpr (.top e (by simpa using hb))) H4 (s13.trans s4))
      · cases e : G.ab x with
        | nil => rw [e] at he; cases he
        | cons p r =>
          rw [e] at hb
          have hr0 : r = [] ∧ G.h x = 0 := by
            simp only [List.length_cons] at hb
            have : r.length = 0 := by omega
            exact ⟨List.length_eq_zero_iff.mp this, by omega⟩
          obtain ⟨er, eh⟩ := hr0
          subst er
          obtain ⟨hp, hlt⟩ := wf.up.ab x hx p (by rw [e]; exact List.mem_singleton.mpr rfl)
          have hq4 := s4 _ _ hq
          rw [e] at hq4
          refine st_set (at_ixL (at_var rfl) at_c hq4 (atI_nat (j := 0) rfl)) ⟨G.nx - p, ?_, p, _, rfl, hp, ia.trans ⟨fun h => ?_, fun h => .up e eh h⟩, s13.trans s4, rfl⟩
          · have := wf.lt p hp
            omega
          · cases h with
            | top e2 _ => rw [e] at e2; cases e2
            | up e2 _ h => rw [e] at e2; cases e2; exact h
end
end Tw

set_option Elab.async false
set_option linter.all false
set_option maxRecDepth 100000
set_option maxHeartbeats 4000000
/-! The law: what is refused; what is picked. -/
namespace Tw
open PySem PySem.Spec PyProof.Rows L2
open He (ga ma)
theorem u65 {k : Nat} {A : Around} (hr : Room k A) : A.units + 65 < cLine := by
  have := hr.un
  omega
def missing (G : Gs) (bs : List Nat) : Option Nat := bs.find? (fun b => decide (b ∉ G.ns))
def unheld (G : Gs) (bs : List Nat) : Option Nat := bs.find? (fun b => decide (G.h b = 0))
def spLawWrong : Sp := fun vs H Q _ => ∃ g L G wl, ∃ bs : List Nat, vs = [.ref L.tw, .ref wl, .non] ∧ LwAt g H L G ∧ WF G ∧ GridOk g ∧ H wl = some (.lst (bs.map iV)) ∧ bs.length ≤ 100 ∧
  (∀ b, missing G bs = some b → ∀ v H', Same H H' → Tp H' v (.tuple [.str "twig", .int (b : Int)]) → Q v H') ∧
  (missing G bs = none → ¬ LabOk (bs.map G.l) → ∀ v H', Same H H' → Tp H' v (.tuple [.str "stem"]) → Q v H') ∧ (missing G bs = none → LabOk (bs.map G.l) → ∀ H', Same H H' → Q .non H')
def spLawUnheld : Sp := fun vs H Q _ => ∃ g L G wl, ∃ bs : List Nat, vs = [.ref L.ho, .ref wl] ∧ LwAt g H L G ∧ (∀ b ∈ bs, b ∈ G.ns) ∧ H wl = some (.lst (bs.map iV)) ∧
  (∀ b, unheld G bs = some b → ∀ v H', Same H H' → Tp H' v (.tuple [.str "held", .int (b : Int)]) → Q v H') ∧ (unheld G bs = none → Q .non H)
def spPicked : Sp := fun vs H Q _ => ∃ w sl, ∃ cs : List Nat, vs = [.ref w, .ref sl] ∧ WellOk H w ∧ H sl = some (.lst (cs.map iV)) ∧ sl ≠ w ∧ cs ≠ [] ∧ cs.length < 1000 ∧ ∀ c H', c ∈ cs → Fr (fun a => a = w) H H' → WellOk H' w → Q (iV c) H'
section
variable {P : Program} {w : World} {K : PySem.W.Frag} {mg : Str → Option Value} {base : Heap}
theorem sc__law_unheld : FnScope ["_law_holds", "_law_numbers", "_law_number"] ["_law_holds", "_law_numbers"] (defScope (top 46)) := ⟨rfl, rfl, rfl, by decide +kernel, rfl, by decide +kernel, by decide +kernel⟩
theorem ok__law_unheld (T : TX K mg) (F : Fd K "_law_unheld" "_law_unheld" (top 46) (ga K "_law_unheld")) : OkF P w K mg base CX0 1 (ga K "_law_unheld") ["_law_holds", "_law_numbers"] spLawUnheld := by
  refine mkOk F sc__law_unheld (fun vs H Q E h => ?_) (fun _ _ _ _ _ _ us hl => match us, hl with | [_, _], _ => rfl) (fun cdv A outer s H vs Q E hr h => ?_)
  · obtain ⟨g, L, G, wl, bs, rfl, _⟩ := h
    rfl
  · obtain ⟨g, L, G, wl, bs, rfl, A0, hbs, hw, k1, k2⟩ := h
    have hu := hu_of hr
    have nd := sc__law_unheld.nd
    refine ⟨_, (pss_cons (ps_for PassesOwn.never rfl (pi_list (pv 1)) (pg_name (i := 2) nd rfl (by first | exact Or.inl rfl | exact Or.inr rfl)) (pss_one (ps_if (pt_cmpR op_eq (pe_dget hu (pv 0) (pv 2) (fun _ _ => rfl)) pe_int (nomark _)) (pss_one (ps_ret (pe_tup (pa_cons pe_str (pa_cons (pv 2) pa_nil))))) pss_nil)))
      (pss_one (ps_ret pe_non))), ?_⟩
    refine sq_forL (at_var rfl) hw (fun i σ' H' => (∃ x, σ' = [some (.ref L.ho), some (.ref wl), x]) ∧ H' = H ∧ ∀ c ∈ bs.take i, decide (G.h c = 0) = false) ⟨⟨_, rfl⟩, rfl, fun c hc => by simp at hc⟩ (fun i σ' H' I => by rw [I.2.1]; exact hw) (fun i x σ' H' hx I => ?_) fun σ' H' I => ?_
    · obtain ⟨⟨x0, rfl⟩, rfl, ok⟩ := I
      rw [List.getElem?_map] at hx
      obtain ⟨b, hb, rfl⟩ := Option.map_eq_some_iff.mp hx
      have hbn := hbs b (List.mem_of_getElem? hb)
      refine st_if (att_test (at_eq (at_dget (at_var rfl) (at_var rfl) (A0.dgh hbn)) at_c rfl dec_int)) (fun hz => ?_) fun hz => ?_
      · exact rt_ (tup_ (vs := [.str "held", iV b]) (ata_cons at_c (ata_cons (at_var rfl) ata_nil)) z2 fun p hp => k1 b (find_at hb hz ok) _ _ (same_new hp) (Tp.mk hp (.cons (.str _) (.cons (.int _) .nil))))
      · refine nx_ ⟨⟨_, rfl⟩, rfl, fun c hc => ?_⟩
        rw [List.take_add_one, hb] at hc
        rcases List.mem_append.mp hc with hc | hc
        · exact ok c hc
        · rw [List.mem_singleton.mp hc]
          exact hz
    · obtain ⟨⟨x0, rfl⟩, rfl, ok⟩ := I
      rw [List.length_map, List.take_length] at ok
      exact st_ret at_c (k2 (find_none ok))
theorem sc__law_wrong : FnScope ["_law_twigs", "_law_numbers", "_law_high", "_law_number", "_law_labels", "_law_j"] ["_law_twigs", "_law_numbers", "_law_high"] (defScope (top 45)) := ⟨rfl, rfl, rfl, by decide +kernel, rfl, by decide +kernel, by decide +kernel⟩
theorem ok__law_wrong (T : TX K mg) (F : Fd K "_law_wrong" "_law_wrong" (top 45) (ga K "_law_wrong")) (G__law_label : OkF P w K mg base CX0 2 (ga K "_law_label") ["_law_twigs", "_law_number"] spLawLabel) (G__law_less : OkF P w K mg base CX0 5 (ga K "_law_less") ["_law_one", "_law_other"] spAhead) : OkF P w K mg base CX0 6 (ga K "_law_wrong") ["_law_twigs", "_law_numbers", "_law_high"] spLawWrong := by
  refine mkOk F sc__law_wrong (fun vs H Q E h => ?_) (fun _ _ _ _ _ _ us hl => match us, hl with | [_, _, _], _ => rfl) (fun cdv A outer s H vs Q E hr h => ?_)
  · obtain ⟨g, L, G, wl, bs, rfl, _⟩ := h
    rfl
  · obtain ⟨g, L, G, wl, bs, rfl, A0, wf, GO, hw, hbl, k1, k2, k3⟩ := h
    have hu := hu_of hr
    have nd := sc__law_wrong.nd
    refine ⟨_, (pss_cons (ps_for PassesOwn.never rfl (pi_list (pv 1)) (pg_name (i := 3) nd rfl (by first | exact Or.inl rfl | exact Or.inr rfl)) (pss_one (ps_if (pt_cmp (pc_dnotin hu (pv 3) (pv 0))) (pss_one (ps_ret (pe_tup (pa_cons pe_str (pa_cons (pv 3) pa_nil))))) pss_nil)))
      (pss_cons (ps_setLc (i := 4) (own := [("_law_number", 3)]) (by rfl) nd rfl rfl (sw_true rfl rfl rfl (by decide +kernel)) (pi_list (pv 1)) (blkOk_by (N := ["_law_twigs", "_law_numbers", "_law_high", "_law_number", "_law_labels", "_law_j"]) (sc := defScope (top 45)) (own := [("_law_number", 3)]) (by decide +kernel)) (fun _ _ _ _ _ => (pg_name (i := 3) nd rfl (by first | exact Or.inl rfl | exact Or.inr rfl))) (fun _ _ _ _ _ => pts_nil) (fun _ _ _ _ _ => pe_c G__law_label (hr.mono (by decide)) rfl T.g__law_label (pa_cons (pv 0) (pa_cons (pv 3) pa_nil))))
      (pss_cons (ps_if (PW.pt (pw_or (pt_not (pt_chain op_le op_le pe_int (pe_callB (call_len_seq) rfl T.f_len bt_len (pa_cons (pv 4) pa_nil)) pe_int)) (pw_or1 (PW.pt (pw_and (pt_cmp (pc_notN (pv 2))) (pw_and1 (pt_cmpR op_ne (pe_op op_add (pe_ix ix_tup (pe_ix ix_list (pv 4) pe_int (fun _ _ => rfl)) pe_int (fun _ _ => rfl)) pe_int) (pv 2) (nomark _)))))))) (pss_one (ps_ret (pe_tup (pa_cons pe_str pa_nil)))) pss_nil)
      (pss_cons (ps_for PassesOwn.never rfl (pi_range2 rfl T.f_range (pa_cons pe_int (pa_cons (pe_callB (call_len_seq) rfl T.f_len bt_len (pa_cons (pv 4) pa_nil)) pa_nil))) (pg_name (i := 5) nd rfl (by first | exact Or.inl rfl | exact Or.inr rfl)) (pss_one (ps_if (PW.pt (pw_or (pt_cmpR op_ne (pe_ix ix_tup (pe_ix ix_list (pv 4) (pv 5) (fun _ _ => rfl)) pe_int (fun _ _ => rfl)) (pe_ix ix_tup (pe_ix ix_list (pv 4) pe_int (fun _ _ => rfl)) pe_int (fun _ _ => rfl)) (nomark _)) (pw_or1 (pt_not (pt_val (pe_c G__law_less (hr.mono (by decide)) rfl T.g__law_less (pa_cons (pe_ix ix_tup (pe_ix ix_list (pv 4) (pe_op op_sub (pv 5) pe_int) (fun _ _ => rfl)) pe_int (fun _ _ => rfl)) (pa_cons (pe_ix ix_tup (pe_ix ix_list (pv 4) (pv 5) (fun _ _ => rfl)) pe_int (fun _ _ => rfl)) pa_nil)))))))) (pss_one (ps_ret (pe_tup (pa_cons pe_str pa_nil)))) pss_nil)))
      (pss_one (ps_ret pe_non)))))), ?_⟩
    refine sq_forL (at_var rfl) hw (fun i σ' H' => (∃ x, σ' = [some (.ref L.tw), some (.ref wl), some .non, x, none, none]) ∧ H' = H ∧ ∀ c ∈ bs.take i, decide (c ∉ G.ns) = false) ⟨⟨_, rfl⟩, rfl, fun c hc => by simp at hc⟩ (fun i σ' H' I => by rw [I.2.1]; exact hw) (fun i x σ' H' hx I => ?_) fun σ' H' I => ?_
    · obtain ⟨⟨x0, rfl⟩, rfl, ok⟩ := I
      rw [List.getElem?_map] at hx
      obtain ⟨b, hb, rfl⟩ := Option.map_eq_some_iff.mp hx
      by_cases hn : b ∈ G.ns
      · refine st_Fn (att_test (at_is (at_dnin (at_var rfl) (at_var rfl) (A0.dgt hn)) rfl)) ⟨⟨_, rfl⟩, rfl, fun c hc => ?_⟩
        rw [List.take_add_one, hb] at hc
        rcases List.mem_append.mp hc with hc | hc
        · exact ok c hc
        · rw [List.mem_singleton.mp hc]
          exact decF fun z => z hn
      · exact st_T (att_test (at_is (at_dnin (at_var rfl) (at_var rfl) (dnone_dM A0.tw hn)) rfl)) (rt_ (tup_ (vs := [.str "twig", iV b]) (ata_cons at_c (ata_cons (at_var rfl) ata_nil)) z2 fun p hp => k1 b (find_at hb (decT hn) ok) _ _ (same_new hp) (Tp.mk hp (.cons (.str _) (.cons (.int _) .nil)))))
    · obtain ⟨⟨x0, rfl⟩, rfl, ok⟩ := I
      rw [List.length_map, List.take_length] at ok
      have hbs : ∀ b ∈ bs, b ∈ G.ns := fun b hb => Classical.byContradiction fun z => of_decide_eq_false (ok b hb) z
      have fn1 : missing G bs = none := find_none ok
      refine sq_as (lcL (xs := bs.map iV) (fun j y H' => ∃ b, bs[j]? = some b ∧ Tp H' y (labD g (G.l b))) (fun j y H1 H2 tk ⟨b, e, h⟩ => ⟨b, e, h.mono tk _ _⟩) (at_var rfl) hw (by rw [List.length_map]; omega) (fun j y2 H3 hj t3 Q2 q2 => ?_) fun D H3 us hD t3 hus hul hur => ?_)
      · rw [List.getElem?_map] at hj
        obtain ⟨b, hb2, rfl⟩ := Option.map_eq_some_iff.mp hj
        exact wp_call (ata_cons (at_var rfl) (ata_cons (at_var rfl) ata_nil)) ⟨g, L, G, b, rfl, A0.same t3, wf, hbs b (List.mem_of_getElem? hb2), fun v H4 s4 hv => q2 v H4 s4 ⟨b, hb2, hv⟩⟩
      · have hx : TpA H3 us ((bs.map G.l).map (labD g)) := TpA.of_get (by rw [List.length_map, List.length_map, hul, List.length_map]) fun i v d f1 f2 => by
          obtain ⟨b, f3, f4⟩ := hur i v f1
          rw [List.getElem?_map, List.getElem?_map, f3] at f2
          cases f2
          exact f4
        have hk : ∀ l ∈ bs.map G.l, l.lo < 64 ∧ l.hi < 64 := fun l hl => by
          obtain ⟨b, hb2, rfl⟩ := List.mem_map.mp hl
          have kb := wf.kb' (hbs b hb2)
          have k1 := kb.a
          have k2 := kb.b
          exact ⟨by omega, by omega⟩
        have hl : us.length = (bs.map G.l).length := by rw [hul, List.length_map, List.length_map]
        generalize hls : bs.map G.l = ls at hx hk hl k2 k3
        have stem : ∀ σ H4, Same H3 H4 → ¬ LabOk ls → tRet (tTup (tCons (tC (.str "stem")) tNil)) { nx := fun _ H' => Q .non H', rt := Q } σ H4 := fun σ H4 s4 hn => rt_ (tup_ (vs := [.str "stem"]) (ata_cons at_c ata_nil) z1 fun p hp => k2 fn1 hn _ _ ((t3.trans s4).trans (same_new hp)) (Tp.mk hp (.cons (.str _) .nil)))
        by_cases hlen : 2 ≤ ls.length ∧ ls.length ≤ 4
        · refine sq_Fn (att_orF (att_nT (att_test (at_chT at_c (at_lenL (ata_cons (at_var rfl) ata_nil) hus) (fun _ q => rI0_at (by rw [decT (by omega)]) q) at_c (fun _ q => rI0_at (by rw [decT (by omega)]) q)))) (att_andF (att_test (at_is (at_notN (at_var rfl)) rfl)))) ?_
          have e0 : ls[0]? = some ls[0] := List.getElem?_eq_getElem (by omega)
          refine sq_forR2 (lo := 1) (n := us.length) (ata_cons at_c (ata_cons (at_lenL (ata_cons (at_var rfl) ata_nil) hus) ata_nil)) ⟨by omega, by decide⟩ (fun i σ' H2 => (∃ x2 x3, σ' = [some (.ref L.tw), some (.ref wl), some .non, x2, some (.ref D), x3]) ∧ Same H3 H2 ∧ ∀ k a b z, 1 ≤ k → k < i → ls[k]? = some b → ls[k - 1]? = some a → ls[0]? = some z → b.ht = z.ht ∧ a.hi < b.lo)
            ⟨⟨_, _, rfl⟩, Same.refl _, fun k a b z h1 h2 => absurd h1 (by omega)⟩ (fun i σ' H2 hi1 hi2 I => ?_) fun m σ' H2 hm1 hm2 I => ?_
          · obtain ⟨⟨x2, x3, rfl⟩, s2, ok⟩ := I
            have er : ls[i]? = some ls[i] := List.getElem?_eq_getElem (by omega)
            have er1 : ls[i - 1]? = some ls[i - 1] := List.getElem?_eq_getElem (by omega)
            have hx2 := hx.sm s2
            have hw2 := s2 _ _ hus
            obtain ⟨a0, p0, q0, f0, t0, _, _⟩ := lab_at hx2 e0
            obtain ⟨a1, p1, q1, f1, t1, u1, v1⟩ := lab_at hx2 er1
            obtain ⟨a2, p2, q2, f2, t2, u2, v2⟩ := lab_at hx2 er
            have gk1 := GO.d _ (hk _ (List.mem_of_getElem? er1)).2
            have gk2 := GO.d _ (hk _ (List.mem_of_getElem? er)).1
            refine st_ifS (smt_or (att_test (at_ne (at_ixT (at_ixL (at_var rfl) (at_var rfl) hw2 (atI_nat f2)) at_c t2 (atI_nat (j := 0) rfl)) (at_ixT (at_ixL (at_var rfl) at_c hw2 (atI_nat (j := 0) f0)) at_c t0 (atI_nat (j := 0) rfl)) rfl dec_int)) fun _ => smt_not (smt_B (sm_call
              (ata_cons (at_ixT (at_ixL (at_var rfl) (at_I0 (at_var rfl) at_c (congrArg V.int (show ((i : Nat) : Int) - 1 = ((i - 1 : Nat) : Int) by omega))) hw2 (atI_nat f1)) at_c t1 (atI_nat (j := 2) rfl)) (ata_cons (at_ixT (at_ixL (at_var rfl) (at_var rfl) hw2 (atI_nat f2)) at_c t2 (atI_nat (j := 1) rfl)) ata_nil))
              fun Q q => ⟨_, _, _, _, rfl, v1, u2, gk1.s 2, gk2.s 2, gk1.f 3, gk2.f 3, q⟩))) (fun hb H4 s4 => ?_) fun hb H4 s4 => ?_
            · refine stem _ H4 (s2.trans s4) fun q => ?_
              obtain ⟨j1, j2⟩ := q.st i _ _ _ hi1 er er1 e0
              rw [GO.lt _ _ (hk _ (List.mem_of_getElem? er1)).2 (hk _ (List.mem_of_getElem? er)).1, decT j2, decT (by rw [j1])] at hb
              cases hb
            · refine nx_ ⟨⟨_, _, rfl⟩, s2.trans s4, fun k a b z h1 h2 g1 g2 g3 => ?_⟩
              by_cases e : k = i
              · subst e
                rw [er] at g1
                rw [er1] at g2
                rw [e0] at g3
                cases g1
                cases g2
                cases g3
                rw [Bool.or_eq_false_iff, Bool.not_eq_false', Bool.not_eq_false', GO.lt _ _ (hk _ (List.mem_of_getElem? er1)).2 (hk _ (List.mem_of_getElem? er)).1] at hb
                have h3 := of_decide_eq_true hb.1
                exact ⟨by omega, of_decide_eq_true hb.2⟩
              · exact ok k a b z h1 (by omega) g1 g2 g3
          · obtain ⟨⟨x2, x3, rfl⟩, s2, ok⟩ := I
            exact st_ret at_c (k3 fn1 ⟨hlen.1, hlen.2, fun k a b z h1 g1 => ok k a b z h1 (by have := (List.getElem?_eq_some_iff.mp g1).1; omega) g1⟩ H2 (t3.trans s2))
        · refine sq_T (att_orT (att_nF (att_test ?_))) (stem _ H3 (Same.refl _) fun q => hlen ⟨q.l2, q.l4⟩)
          by_cases h2 : 2 ≤ ls.length
          · exact at_chT at_c (at_lenL (ata_cons (at_var rfl) ata_nil) hus) (fun _ q => rI0_at (by rw [decT (by omega)]) q) at_c (fun _ q => rI0_at (by rw [decF (by omega)]) q)
          · exact at_chF at_c (at_lenL (ata_cons (at_var rfl) ata_nil) hus) (fun _ q => rI0_at (by rw [decF (by omega)]) q)
theorem sc__law_picked : FnScope ["_law_well_here", "_law_some"] ["_law_well_here", "_law_some"] (defScope (top 48)) := ⟨rfl, rfl, rfl, by decide +kernel, rfl, by decide +kernel, by decide +kernel⟩
theorem ok__law_picked (T : TX K mg) (F : Fd K "_law_picked" "_law_picked" (top 48) (ga K "_law_picked")) (G__law_pull : OkF P w K mg base CX0 1 (ga K "_law_pull") ["_law_well_here", "_law_many"] spPull) : OkF P w K mg base CX0 2 (ga K "_law_picked") ["_law_well_here", "_law_some"] spPicked := by
  refine mkOk F sc__law_picked (fun vs H Q E h => ?_) (fun _ _ _ _ _ _ us hl => match us, hl with | [_, _], _ => rfl) (fun cdv A outer s H vs Q E hr h => ?_)
  · obtain ⟨wl, sl, cs, rfl, _⟩ := h
    rfl
  · obtain ⟨wl, sl, cs, rfl, W0, hs, ne, hne, hz, k⟩ := h
    have hu := hu_of hr
    have nd := sc__law_picked.nd
    refine ⟨_, (pss_one (ps_ret (pe_ix ix_list (pv 1) (pe_c G__law_pull (hr.mono (by decide)) rfl T.g__law_pull (pa_cons (pv 0) (pa_cons (pe_callB (call_len_seq) rfl T.f_len bt_len (pa_cons (pv 1) pa_nil)) pa_nil))) (fun _ _ => rfl)))), ?_⟩
    have hl : (cs.map iV).length = cs.length := List.length_map _
    refine rt_ (opW (at_then (at_var rfl) (wp_call (ata_cons (at_var rfl) (ata_cons (at_lenL (ata_cons (at_var rfl) ata_nil) hs) ata_nil)) ⟨wl, cs.length, by rw [hl], List.length_pos_iff.mpr hne, hz, W0, fun r H1 hr1 f1 W1 => ?_⟩)))
    have e : cs[r]? = some cs[r] := List.getElem?_eq_getElem hr1
    exact ⟨sl, _, _, iV cs[r], rfl, rfl, SqL.of (f1 _ _ hs ne), atI_nat (by rw [List.getElem?_map, e]; rfl), k _ H1 (List.mem_of_getElem? e) f1 W1⟩
end
end Tw

set_option Elab.async false
set_option linter.all false
set_option maxRecDepth 100000
set_option maxHeartbeats 4000000
/-! The law: a run of twigs. -/
namespace Tw
open PySem PySem.Spec PyProof.Rows L2
open He (ga ma)
def lwF (L : LwA) (ns : List Nat) (a : Addr) : Prop := a = L.tw ∨ a = L.ho ∨ a = L.gr ∨ a = L.to ∨ ∃ n ∈ ns, a = L.wh n
theorem LwAt.away {g : Nat → PyData} {H H' : Hp} {L : LwA} {G : Gs} {F : Addr → Prop} (A : LwAt g H L G) (f : Fr F H H') (tk : TK H H') (hF : ∀ a, lwF L G.ns a → ¬ F a) : LwAt g H' L G := by
  obtain ⟨gs, h1, h2⟩ := A.gr
  exact ⟨f _ _ A.tw (hF _ (.inl rfl)), f _ _ A.ho (hF _ (.inr (.inl rfl))), ⟨gs, f _ _ h1 (hF _ (.inr (.inr (.inl rfl)))), h2.mono tk _ _⟩, f _ _ A.to (hF _ (.inr (.inr (.inr (.inl rfl))))), fun n hn => by
    obtain ⟨h1, xs, h2, h3⟩ := A.kd n hn
    exact ⟨tk _ _ h1, xs, f _ _ h2 (hF _ (.inr (.inr (.inr (.inr ⟨n, hn, rfl⟩))))), h3.mono tk _ _⟩, A.th, A.gt, A.wt, A.nz⟩
theorem WellOk.same {H H' : Hp} {w : Addr} (h : WellOk H w) (s : Same H H') : WellOk H' w := by
  obtain ⟨a, b, c, d, e, r⟩ := h
  exact ⟨a, b, c, d, s _ _ e, r⟩
theorem WellOk.tk {H H' : Hp} {w : Addr} (h : WellOk H w) (f : Fr (fun a => a = w) H H') : TK H H' := by
  obtain ⟨a, b, c, d, e, r⟩ := h
  exact fun x xs hx => f x _ hx fun z => by
    subst z
    rw [e] at hx
    cases hx
theorem WellOk.free {H H' : Hp} {w q : Addr} (h : WellOk H w) (f : Fr (fun a => a = w) H H') (h' : WellOk H' w) (e : H' q = none) : H q = none := by
  cases hq : H q with
  | none => rfl
  | some o =>
    by_cases z : q = w
    · subst z
      obtain ⟨a, b, c, d, e2, r⟩ := h'
      rw [e2] at e
      cases e
    · rw [f q o hq z] at e
      cases e
theorem LwAt.pull {g : Nat → PyData} {H H' : Hp} {L : LwA} {G : Gs} {w : Addr} (A : LwAt g H L G) (W : WellOk H w) (hw : ¬ lwF L G.ns w) (f : Fr (fun a => a = w) H H') : LwAt g H' L G := A.away f (W.tk f) fun a h z => hw (z ▸ h)
section
variable {K : PySem.W.Frag} {σ : L2.St} {H : Hp} {te tl tb : TE} {t u : TT} {Q : Bool → Hp → Prop} {QV : VK} {D : Ends} {s1 s us tbd : TS} {g : TG} {v : V} {a : Addr} {ns : List Nat} {xs : List V} {i1 i2 i3 : Nat}
theorem torW (h : t σ H fun b H1 => if b = true then Q true H1 else u σ H1 Q) : tOr t u σ H Q := by
  have e : tOr t u σ H Q = (t σ H fun b H1 => if b = true then Q true H1 else u σ H1 Q) := by
    unfold tOr
    congr 1
  rw [e]
  exact h
theorem testW (h : te σ H fun x H1 => ∃ k, x = .bl k ∧ Q k H1) : tTest te σ H Q := h
theorem lst1W (h : te σ H fun x H1 => 1 ≤ sizeLine ∧ ∀ p, H1 p = none → QV (.ref p) (upd H1 p (.lst [x]))) : tLst (tCons te tNil) σ H QV := h
theorem tup2W (h : te σ H fun x H1 => tb σ H1 fun y H2 => 2 ≤ sizeLine ∧ ∀ p, H2 p = none → QV (.ref p) (upd H2 p (.tup [x, y]))) : tTup (tCons te (tCons tb tNil)) σ H QV := h
theorem forW (h : tl σ H fun x H1 => tSeq (tFor (iList K (tC x)) g tbd) us D σ H1) : tSeq (tFor (iList K tl) g tbd) us D σ H := h
theorem sq_cont (I : L2.St → Hp → Prop) (k : ∀ σ' H', I σ' H' → us D σ' H') (h : (∀ σ' H', I σ' H' → us D σ' H') → tSeq s us D σ H) : tSeq s us D σ H := h k
theorem gTrip {v1 v2 v3 : V} {R : L2.St → Hp → Prop} (ha : H a = some (.tup [v1, v2, v3])) (k : R (((σ.set i1 (some v1)).set i2 (some v2)).set i3 (some v3)) H) : gTup K 3 (gCons (gName i1) (gCons (gName i2) (gCons (gName i3) gNil))) (.ref a) σ H R :=
  ⟨a, _, rfl, SqT.of ha, rfl, v1, _, rfl, v2, _, rfl, v3, _, rfl, rfl, k⟩
/-- all of a comprehension over a list have T -/
theorem lcA {vs : List Nat} {tt : TT} (T : V → Hp → Prop) (hT : ∀ y H H', TK H H' → T y H → T y H') (hl : At tl σ H (.ref a)) (hx : H a = some (.lst xs)) (hn : xs.length ≤ 10000)
    (turn : ∀ x H', x ∈ xs → Same H H' → ∀ (Q1 : Hp → Prop) (Q2 : VK), (∀ H3, Same H' H3 → Q1 H3) → (∀ y H4, Same H' H4 → T y H4 → Q2 y H4) → g x (wipe σ vs) H' fun σ2 H2 => wipe σ2 vs = wipe σ vs ∧ tt σ2 H2 fun b H3 => if b = true then te σ2 H3 Q2 else Q1 H3)
    (done : ∀ D H' us, H D = none → Same H H' → H' D = some (.lst us) → us.length ≤ xs.length → (∀ y ∈ us, T y H') → QV (.ref D) H') : tLc (iList K tl) g tt te vs σ H QV := by
  refine hl _ ⟨a, rfl, ⟨xs, SqL.of hx⟩, fun D hD => lc_list (xs := xs) (fun j H' => Same H H' ∧ ∃ us, H' D = some (.lst us) ∧ us.length ≤ j ∧ ∀ y ∈ us, T y H') ⟨same_new hD, [], upd_same, Nat.le_refl _, fun y hy => absurd hy List.not_mem_nil⟩ (fun j H' _ I => SqL.of (I.1 _ _ hx)) (fun j x H' hj I => ?_) fun H' I => ?_⟩
  · obtain ⟨s1, us, hu, hul, ht⟩ := I
    have hjl : j < xs.length := (List.getElem?_eq_some_iff.mp hj).1
    refine turn x H' (List.mem_of_getElem? hj) s1 _ _ (fun H3 s3 => ⟨s1.trans s3, us, s3 _ _ hu, by omega, fun y hy => hT y _ _ (TK.same s3) (ht y hy)⟩) fun y H4 s4 ty => ⟨us, s4 _ _ hu, zlt (by omega), same_mut (s1.trans s4) hD, us ++ [y], upd_same, by rw [List.length_append]; show _ + 1 ≤ _; omega, fun z hz => ?_⟩
    have tk : TK H4 (upd H4 D (.lst (us ++ [y]))) := TK.upd (s4 _ _ hu) fun _ q => by cases q
    rcases List.mem_append.mp hz with hz | hz
    · exact hT z _ _ ((TK.same s4).trans tk) (ht z hz)
    · rw [List.mem_singleton.mp hz]
      exact hT y _ _ tk ty
  · obtain ⟨s1, us, hu, hul, ht⟩ := I
    exact done D H' us hD s1 hu hul ht
end
/-! rules whose written part is named -/
section
variable {X : Cx} {K : PySem.W.Frag} {pos : Pos}
theorem pg_tupK {es : List Expr} {k : Nat} {t : TGs} {n : Nat} (hk : X.K = K) (hc : X.calm = true) (h : PGs X es t)
    (hn : (assignEach es X.env).length = n := by rfl) (hst : (assignEach es X.env).findIdx? (·.1) = none := by rfl) : PG X (.Tuple es k pos) (gTup K n t) := hk ▸ pg_tup hc h hn hst
variable {o e : Expr} {es : List Expr} {to : TE} {t : TA} {name : Str} {apos cpos : Pos} {T id : String} {r : V → List V → Hp → VK → Prop}
theorem pe_bmK (hk : X.K = K) (pa : PlainAttrs T) (slot : Slot T name id) (hty : typeOf (.builtin id) = pure (.type "method_descriptor")) (hm : MtR X id r) (ho : PE X o to) (ha : PA X (e :: es) t)
    (hbase : attributeBase o name X.env (eval o X.env) = eval o X.env := by rfl)
    (hfew : ((backTo cpos (starEach (e :: es) X.env)).all (fun y => !y.1) && (backToKw cpos (keywordEach [] X.env)).all (fun y => y.1.isSome)
      && decide ((e :: es).length + ([] : List Keyword).length + (if ([] : List Keyword).isEmpty then 0 else 1) < 30)) = true := by rfl)
    (hline : (apos.endLine == cpos.line) = true := by rfl) (hs : starEach (e :: es) X.env = (false, eval e X.env) :: starEach es X.env := by rfl) (hp : (backTo cpos (starEach es X.env)).any (·.1) = false := by rfl) :
    PE X (.Call (.Attribute o name apos) (e :: es) [] cpos) (tBM K T r to t) := hk ▸ pe_bm pa slot hty hm ho ha hbase hfew hline hs hp
theorem mt_indexDK (hk : X.K = K) (hu : X.A.units + 65 < cLine) : MtR X "list.index" (rIndexD K) := hk ▸ mt_indexD hu
end
/-! ### index in the grid -/
theorem okD_lay : ∀ (n : Nat) (d : PyData), okD n d = true → d.canLay0 = true ∧ d.depth ≤ n + 1
  | n, .int i, _ => ⟨by simp [PyData.canLay0], by simp [PyData.depth]⟩
  | n, .str x, h => ⟨by
    have h2 : x.length ≤ 40 ∧ ∀ c ∈ x.cps.toList, 32 ≤ c ∧ c ≤ 126 := by
      cases n <;> (unfold okD at h; rw [Bool.and_eq_true, decide_eq_true_eq, List.all_eq_true] at h; exact ⟨h.1, fun c hc => by simpa using h.2 c hc⟩)
    simp only [PyData.canLay0]
    show x.cps.all (fun c => decide (c < 0x110000)) = true
    rw [← Array.all_toList, List.all_eq_true]
    intro c hc
    have := (h2.2 c hc).2
    exact decide_eq_true (by omega), by simp [PyData.depth]⟩
  | 0, .tuple ds, h => by simp [okD] at h
  | n + 1, .tuple ds, h => by
    have h2 : ds.length ≤ 4 ∧ ∀ d ∈ ds, okD n d = true := by simpa [okD] using h
    have all : ∀ es : List PyData, (∀ d ∈ es, okD n d = true) → PyData.canLayAll0 es = true ∧ PyData.depthAll es ≤ n + 1 := by
      intro es
      induction es with
      | nil => intro _; exact ⟨by simp [PyData.canLayAll0], by simp [PyData.depthAll]⟩
      | cons e r ih =>
        intro q
        obtain ⟨a1, a2⟩ := okD_lay n e (q e List.mem_cons_self)
        obtain ⟨b1, b2⟩ := ih fun d hd => q d (List.mem_cons_of_mem _ hd)
        refine ⟨?_, ?_⟩
        · simp only [PyData.canLayAll0, Bool.and_eq_true]
          exact ⟨a1, b1⟩
        · simp only [PyData.depthAll]
          omega
    obtain ⟨c1, c2⟩ := all ds h2.2
    refine ⟨?_, ?_⟩
    · simp only [PyData.canLay0]
      exact c1
    · simp only [PyData.depth]
      omega
  | n, .none, h => by cases n <;> simp [okD] at h
  | n, .bool _, h => by cases n <;> simp [okD] at h
  | n, .list _, h => by cases n <;> simp [okD] at h
  | n, .dict _, h => by cases n <;> simp [okD] at h
theorem lay_all : ∀ {ds : List PyData}, (∀ d ∈ ds, d.canLay0 = true ∧ d.depth ≤ 10) → PyData.canLayAll0 ds = true ∧ PyData.depthAll ds ≤ 10
  | [], _ => ⟨by simp [PyData.canLayAll0], by simp [PyData.depthAll]⟩
  | d :: r, h => by
    obtain ⟨a1, a2⟩ := h d List.mem_cons_self
    obtain ⟨b1, b2⟩ := lay_all fun e he => h e (List.mem_cons_of_mem _ he)
    refine ⟨?_, ?_⟩
    · simp only [PyData.canLayAll0, Bool.and_eq_true]
      exact ⟨a1, b1⟩
    · simp only [PyData.depthAll]
      omega
theorem shaped_list {ds : List PyData} (h : ∀ d ∈ ds, d.canLay0 = true ∧ d.depth ≤ 10) : SeqAt.shaped (.list ds) = true := by
  obtain ⟨a, b⟩ := lay_all h
  show (PyData.canLay0 (.list ds) && decide (PyData.depth (.list ds) ≤ 64)) = true
  rw [Bool.and_eq_true]
  refine ⟨by simp only [PyData.canLay0]; exact a, decide_eq_true ?_⟩
  simp only [PyData.depth]
  omega
theorem shaped_one {d : PyData} (h : d.canLay0 = true ∧ d.depth ≤ 10) : SeqAt.shaped d = true := by
  show (d.canLay0 && decide (d.depth ≤ 64)) = true
  rw [Bool.and_eq_true]
  exact ⟨h.1, decide_eq_true (by have := h.2; omega)⟩
theorem first_hit {α : Type} (p : α → Bool) : ∀ (ds : List α) (i : Nat) (d : α), ds[i]? = some d → p d = true → ∃ j z, ds[j]? = some z ∧ p z = true ∧ ∀ (m : Nat) (z' : α), m < j → ds[m]? = some z' → p z' = false
  | [], i, d, h, _ => by simp at h
  | x :: r, i, d, h, hp => by
    cases q : p x with
    | true => exact ⟨0, x, rfl, q, fun m z' hm => absurd hm (Nat.not_lt_zero _)⟩
    | false =>
      cases i with
      | zero =>
        simp at h
        subst h
        rw [q] at hp
        cases hp
      | succ i =>
        obtain ⟨j, z, h1, h2, h3⟩ := first_hit p r i d (by simpa using h) hp
        refine ⟨j + 1, z, by simpa using h1, h2, fun m z' hm hz => ?_⟩
        cases m with
        | zero =>
          simp at hz
          subst hz
          exact q
        | succ m => exact h3 m z' (by omega) (by simpa using hz)
theorem at_idx {K : PySem.W.Frag} {H : Hp} {g : Nat → PyData} {a : Addr} {gs : List V} {i : Nat} {v : V} (GO : GridOk g) (hi : i < 64) (hg : H a = some (.lst gs)) (ht : TpA H gs ((List.range 64).map g)) (tv : Tp H v (g i)) :
    ∃ j : Nat, ∀ {σ : L2.St} {to te : TE}, At to σ H (.ref a) → At te σ H v → At (tBM K "list" (rIndexD K) to (tCons te tNil)) σ H (iV j) := by
  have lay : ∀ j, j < 64 → (g j).canLay0 = true ∧ (g j).depth ≤ 10 := fun j hj => by
    obtain ⟨a, b⟩ := okD_lay 3 (g j) (GO.d j hj).k
    exact ⟨a, by omega⟩
  have hdi : ((List.range 64).map g)[i]? = some (g i) := by
    rw [List.getElem?_map, List.getElem?_range hi]
    rfl
  obtain ⟨j, z, h1, h2, h3⟩ := first_hit (fun z => PyData.eqv z (g i)) _ i _ hdi (PySem.SeqAt.eqv_refl _ (lay i hi).1)
  refine ⟨j, fun ha hv Q q => ha _ ⟨.inl ⟨rfl, _, SqL.of hg⟩, hv _ ⟨a, v, g i, _, j, z, rfl, rfl, .lst (SqL.of hg) (ht.dp _ _), tv.dp _ _, shaped_list fun d hd => ?_, shaped_one (lay i hi), h1, h2, h3, q⟩⟩⟩
  obtain ⟨k, hk, rfl⟩ := List.mem_map.mp hd
  exact lay k (List.mem_range.mp hk)
end Tw

set_option Elab.async false
set_option linter.all false
set_option maxRecDepth 100000
set_option maxHeartbeats 4000000
/-! The law: _law_run. -/
namespace Tw
open PySem PySem.Spec PyProof.Rows L2
open He (ga ma)
def spRun : Sp := fun vs H Q _ => ∃ g L G w, vs = [.ref w, .ref L.tw, .ref L.ho, .ref L.gr] ∧ LwAt g H L G ∧ WF G ∧ GridOk g ∧ WellOk H w ∧ ¬ lwF L G.ns w ∧ G.ns ≠ [] ∧
  ∀ (q : Addr) (bs : List Nat) H', (∀ b ∈ bs, b ∈ G.ns) → bs.length ≤ 10 → Fr (fun a => a = w) H H' → WellOk H' w → H q = none → H' q = some (.lst (bs.map iV)) → Q (.ref q) H'
section
variable {P : Program} {w : World} {K : PySem.W.Frag} {mg : Str → Option Value} {base : Heap}
theorem sc__law_run : FnScope ["_law_well_here", "_law_twigs", "_law_holds", "_law_grid_here", "_law_some", "_law_run_here", "_law_last", "_law_at", "_law_most", "_law_labels", "_law_low", "_law_top", "_law_number", "_law_label_here"] ["_law_well_here", "_law_twigs", "_law_holds", "_law_grid_here"] (defScope (top 49)) := ⟨rfl, rfl, rfl, by decide +kernel, rfl, by decide +kernel, by decide +kernel⟩
theorem ok__law_run (T : TX K mg) (F : Fd K "_law_run" "_law_run" (top 49) (ga K "_law_run")) (G__law_pull : OkF P w K mg base CX0 1 (ga K "_law_pull") ["_law_well_here", "_law_many"] spPull) (G__law_picked : OkF P w K mg base CX0 2 (ga K "_law_picked") ["_law_well_here", "_law_some"] spPicked)
    (G__law_label : OkF P w K mg base CX0 2 (ga K "_law_label") ["_law_twigs", "_law_number"] spLawLabel) : OkF P w K mg base CX0 3 (ga K "_law_run") ["_law_well_here", "_law_twigs", "_law_holds", "_law_grid_here"] spRun := by
  refine mkOk F sc__law_run (fun vs H Q E h => ?_) (fun _ _ _ _ _ _ us hl => match us, hl with | [_, _, _, _], _ => rfl) (fun cdv A outer s H vs Q E hr h => ?_)
  · obtain ⟨g, L, G, wl, rfl, _⟩ := h
    rfl
  · obtain ⟨g, L, G, wl, rfl, A0, wf, GO, W0, hw, hne, k⟩ := h
    have hu := hu_of hr
    have nd := sc__law_run.nd
    refine ⟨_, (pss_cons (ps_setLc (i := 4) (own := [("_law_number", 12)]) (by rfl) nd rfl rfl (sw_true rfl rfl rfl (by decide +kernel)) (pi_list (pe_callB (cr_sortedK rfl) rfl T.f_sorted bt_sorted (pa_cons (pv 1) pa_nil))) (blkOk_by (N := ["_law_well_here", "_law_twigs", "_law_holds", "_law_grid_here", "_law_some", "_law_run_here", "_law_last", "_law_at", "_law_most", "_law_labels", "_law_low", "_law_top", "_law_number", "_law_label_here"]) (sc := defScope (top 49)) (own := [("_law_number", 12)]) (by decide +kernel)) (fun _ _ _ _ _ => (pg_name (i := 12) nd rfl (by first | exact Or.inl rfl | exact Or.inr rfl))) (fun _ _ _ _ _ => (pts_one (pt_cmpR op_gt (pe_dget hu (pv 2) (pv 12) (fun _ _ => rfl)) pe_int (nomark _)))) (fun _ _ _ _ _ => pv 12))
      (pss_cons (ps_if (PW.pt (pw_or (pt_cmpR op_eq (pe_c G__law_pull (hr.mono (by decide)) rfl T.g__law_pull (pa_cons (pv 0) (pa_cons pe_int pa_nil))) pe_int (nomark _)) (pw_or1 (pt_cmpR (op_eqD hr.units) (pv 4) (pe_lst pa_nil) (nomark _))))) (pss_one (ps_set (i := 4) nd rfl (by first | exact Or.inl rfl | exact Or.inr rfl) (pe_callB (cr_sortedK rfl) rfl T.f_sorted bt_sorted (pa_cons (pv 1) pa_nil)))) pss_nil)
      (pss_cons (ps_set (i := 5) nd rfl (by first | exact Or.inl rfl | exact Or.inr rfl) (pe_lst (pa_cons (pe_c G__law_picked (hr.mono (by decide)) rfl T.g__law_picked (pa_cons (pv 0) (pa_cons (pv 4) pa_nil))) pa_nil)))
      (pss_cons (ps_set (i := 6) nd rfl (by first | exact Or.inl rfl | exact Or.inr rfl) (pe_c G__law_label (hr.mono (by decide)) rfl T.g__law_label (pa_cons (pv 1) (pa_cons (pe_ix ix_list (pv 5) pe_int (fun _ _ => rfl)) pa_nil))))
      (pss_cons (ps_set (i := 7) nd rfl (by first | exact Or.inl rfl | exact Or.inr rfl) (pe_bm PySem.F.plainAttrs_list PySem.F.slot_list_index PySem.F.type_list_index (mt_indexD (u65 hr)) (pv 3) (pa_cons (pe_ix ix_tup (pv 6) pe_int (fun _ _ => rfl)) pa_nil)))
      (pss_cons (ps_set (i := 8) nd rfl (by first | exact Or.inl rfl | exact Or.inr rfl) (pe_op op_add pe_int (pe_c G__law_pull (hr.mono (by decide)) rfl T.g__law_pull (pa_cons (pv 0) (pa_cons pe_int pa_nil)))))
      (pss_cons (ps_setLc (i := 9) (own := [("_law_number", 12)]) (by rfl) nd rfl rfl (sw_true rfl rfl rfl (by decide +kernel)) (pi_list (pv 4)) (blkOk_by (N := ["_law_well_here", "_law_twigs", "_law_holds", "_law_grid_here", "_law_some", "_law_run_here", "_law_last", "_law_at", "_law_most", "_law_labels", "_law_low", "_law_top", "_law_number", "_law_label_here"]) (sc := defScope (top 49)) (own := [("_law_number", 12)]) (by decide +kernel)) (fun _ _ _ _ _ => (pg_name (i := 12) nd rfl (by first | exact Or.inl rfl | exact Or.inr rfl))) (fun _ _ _ _ _ => pts_nil) (fun _ _ _ _ _ => pe_tup (pa_cons (pe_c G__law_label (hr.mono (by decide)) rfl T.g__law_label (pa_cons (pv 1) (pa_cons (pv 12) pa_nil))) (pa_cons (pv 12) pa_nil))))
      (pss_cons (ps_setLc (i := 4) (own := [("_law_label_here", 13), ("_law_number", 12)]) (by rfl) nd rfl rfl (sw_true rfl rfl rfl (by decide +kernel)) (pi_list (pv 9)) (blkOk_by (N := ["_law_well_here", "_law_twigs", "_law_holds", "_law_grid_here", "_law_some", "_law_run_here", "_law_last", "_law_at", "_law_most", "_law_labels", "_law_low", "_law_top", "_law_number", "_law_label_here"]) (sc := defScope (top 49)) (own := [("_law_label_here", 13), ("_law_number", 12)]) (by decide +kernel)) (fun _ _ _ _ _ => (pg_tupK (K := K) (n := 2) rfl rfl (pgs_cons (pg_name (i := 13) nd rfl (by first | exact Or.inl rfl | exact Or.inr rfl)) (pgs_cons (pg_name (i := 12) nd rfl (by first | exact Or.inl rfl | exact Or.inr rfl)) pgs_nil)))) (fun _ _ _ _ _ => (pts_one (pt_cmpR op_eq (pe_ix (ixT (K := K) rfl) (pv 13) pe_int (fun _ _ => rfl)) (pe_ix (ixT (K := K) rfl) (pv 6) pe_int (fun _ _ => rfl)) (nomark _)))) (fun _ _ _ _ _ => pe_tup (pa_cons (pe_bmK (K := K) rfl PySem.F.plainAttrs_list PySem.F.slot_list_index PySem.F.type_list_index (mt_indexDK (K := K) rfl (u65 hr)) (pv 3) (pa_cons (pe_ix (ixT (K := K) rfl) (pv 13) pe_int (fun _ _ => rfl)) pa_nil)) (pa_cons (pe_bmK (K := K) rfl PySem.F.plainAttrs_list PySem.F.slot_list_index PySem.F.type_list_index (mt_indexDK (K := K) rfl (u65 hr)) (pv 3) (pa_cons (pe_ix (ixT (K := K) rfl) (pv 13) pe_int (fun _ _ => rfl)) pa_nil)) (pa_cons (pv 12) pa_nil)))))
      (pss_cons (ps_for PassesOwn.never rfl (pi_list (pe_callB (cr_sort3 hr.units) rfl T.f_sorted bt_sorted (pa_cons (pv 4) pa_nil))) (pg_tup rfl (pgs_cons (pg_name (i := 10) nd rfl (by first | exact Or.inl rfl | exact Or.inr rfl)) (pgs_cons (pg_name (i := 11) nd rfl (by first | exact Or.inl rfl | exact Or.inr rfl)) (pgs_cons (pg_name (i := 12) nd rfl (by first | exact Or.inl rfl | exact Or.inr rfl)) pgs_nil)))) (pss_one (ps_if (PW.pt (pw_and (pt_cmpR op_gt (pv 10) (pv 7) (nomark _)) (pw_and1 (pt_cmpR op_lt (pe_callB (call_len_seq) rfl T.f_len bt_len (pa_cons (pv 5) pa_nil)) (pv 8) (nomark _))))) (pss_cons (ps_expr (pe_bm PySem.F.plainAttrs_list PySem.F.slot_list_append PySem.F.type_list_append (mt_append) (pv 5) (pa_cons (pv 12) pa_nil)))
      (pss_one (ps_set (i := 7) nd rfl (by first | exact Or.inl rfl | exact Or.inr rfl) (pv 11)))) pss_nil)))
      (pss_one (ps_ret (pv 5)))))))))))), ?_⟩
    have hz : G.ns.length ≤ 900 := Nat.le_trans wf.len A0.nz
    refine sq_as (lcW (sortedW (F := fun n => .ref (L.tv n)) (at_var rfl) A0.tw wf.so fun p hp => ?_))
    have s1 := same_new (o := .lst (G.ns.map iV)) hp
    refine lcN (fun n => decide (0 < G.h n)) at_c upd_same (by omega) (fun m hm H2 s2 => (att_test (at_I0 (at_dget (at_var rfl) (at_var rfl) ((A0.same (s1.trans s2)).dgh hm)) at_c rfl)).sm) fun D H2 hD s2 hD2 => ?_
    have s12 := s1.trans s2
    have A2 := A0.same s12
    have W2 := W0.same s12
    refine sq_cont (fun σ' H' => ∃ sl, ∃ cs : List Nat, σ' = [some (.ref wl), some (.ref L.tw), some (.ref L.ho), some (.ref L.gr), some (.ref sl), none, none, none, none, none, none, none, none, none] ∧ Fr (fun a => a = wl) H H' ∧ WellOk H' wl ∧ H' sl = some (.lst (cs.map iV)) ∧ sl ≠ wl ∧ (∀ c ∈ cs, c ∈ G.ns) ∧ cs ≠ [] ∧ cs.length ≤ 900) ?_ fun cont => ?_
    · rintro σ' H3 ⟨sl, cs, rfl, f3, W3, hs3, nsw, hcs, hcne, hcl⟩
      refine sq_as (lst1W (wp_call (ata_cons (at_var rfl) (ata_cons (at_var rfl) ata_nil)) ⟨wl, sl, cs, rfl, W3, hs3, nsw, hcne, by omega, fun c0 H4 hc0 f4 W4 => ⟨z1, fun q hq => ?_⟩⟩))
      have f34 := f3.trans f4
      have A4 := A0.pull W0 hw f34
      have hq0 : H q = none := W0.free f34 W4 hq
      have s5 := same_new (o := .lst [iV c0]) hq
      have A5 := A4.same s5
      have f5 := f34.trans (Fr.same s5)
      have W5 := W4.same s5
      have hq5 : upd H4 q (.lst [iV c0]) q = some (.lst [iV c0]) := upd_same
      have hs5 := s5 _ _ (f4 _ _ hs3 nsw)
      generalize upd H4 q (.lst [iV c0]) = H5 at s5 A5 f5 W5 hq5 hs5 ⊢
      refine sq_as (wp_call (ata_cons (at_var rfl) (ata_cons (at_ixL (at_var rfl) at_c hq5 (atI_nat (j := 0) rfl)) ata_nil)) ⟨g, L, G, c0, rfl, A5, wf, hcs c0 hc0, fun lv H6 s6 hlv => ?_⟩)
      have A6 := A5.same s6
      have kb0 := wf.kb' (hcs c0 hc0)
      obtain ⟨ta, tvs, rfl, hta, htvs⟩ := hlv.tup_inv
      cases htvs with
      | @cons l0 _ _ _ g0 htvs =>
      cases htvs with
      | @cons l1 _ _ _ g1 htvs =>
      cases htvs with
      | @cons l2 _ _ _ g2 htvs =>
      cases htvs with
      | @cons l3 _ _ _ g3 htvs =>
      cases htvs
      cases g0
      obtain ⟨gs, hgr, hgs⟩ := A6.gr
      obtain ⟨j0, hj0⟩ := at_idx (K := K) GO kb0.b hgr hgs g2
      refine sq_set (hj0 (at_var rfl) (at_ixT (at_var rfl) at_c hta (atI_nat (j := 2) rfl))) ?_
      have W6 := W5.same s6
      refine sq_as (opW (at_then at_c (wp_call (ata_cons (at_var rfl) (ata_cons at_c ata_nil)) ⟨wl, 3, rfl, by decide, by decide, W6, fun r H7 hr7 f7 W7 => ⟨2, (r : Int), rfl, rfl, ?_⟩⟩)))
      have f6 := f5.trans (Fr.same s6)
      have f67 := f6.trans f7
      have A7 := A0.pull W0 hw f67
      have tk67 := W6.tk f7
      have hs7 := f7 _ _ (s6 _ _ hs5) nsw
      have nqw : q ≠ wl := fun z => by
        obtain ⟨_, _, _, _, e, _⟩ := W0
        rw [z, e] at hq0
        cases hq0
      have hq7 := f7 _ _ (s6 _ _ hq5) nqw
      have hta7 := tk67 _ _ hta
      refine sq_as (lcL (xs := cs.map iV) (fun j y H' => ∃ c t v, cs[j]? = some c ∧ y = .ref t ∧ H' t = some (.tup [v, iV c]) ∧ Tp H' v (labD g (G.l c))) (fun j y H1 H2 tk ⟨c, t, v, e1, e2, e3, e4⟩ => ⟨c, t, v, e1, e2, tk _ _ e3, e4.mono tk _ _⟩) (at_var rfl) hs7 (by rw [List.length_map]; omega) (fun j y H8 hj s8 Q2 q2 => ?_) fun E9 H9 us hE9 s9 hus hul hur => ?_)
      · rw [List.getElem?_map] at hj
        obtain ⟨c, hc, rfl⟩ := Option.map_eq_some_iff.mp hj
        refine tup2W (wp_call (ata_cons (at_var rfl) (ata_cons (at_var rfl) ata_nil)) ⟨g, L, G, c, rfl, A7.same s8, wf, hcs c (List.mem_of_getElem? hc), fun v H9 s9 hv => at_then (at_var rfl) ⟨z2, fun p hp => ?_⟩⟩)
        exact q2 _ _ (s9.trans (same_new hp)) ⟨c, p, v, hc, rfl, upd_same, hv.sm (same_new hp)⟩
      · have A9 := A7.same s9
        have hta9 := s9 _ _ hta7
        obtain ⟨gs9, hgr9, hgs9⟩ := A9.gr
        refine sq_as (lcA (fun y H' => ∃ (t : Addr) (i j : Int) (c : Nat), y = .ref t ∧ H' t = some (.tup [.int i, .int j, iV c]) ∧ c ∈ cs) (fun y H1 H2 tk ⟨t, i, j, c, e1, e2, e3⟩ => ⟨t, i, j, c, e1, tk _ _ e2, e3⟩) (at_var rfl) hus (by rw [hul, List.length_map]; omega) (fun x HA hx sA Q1 Q2 q1 q2 => ?_) fun EB HB vs hEB sB hvs hvl hvt => ?_)
        · obtain ⟨jx, hjx, ejx⟩ := List.getElem_of_mem hx
          obtain ⟨c, t, v, e1, e2, e3, e4⟩ := hur jx x (by rw [← ejx]; exact List.getElem?_eq_getElem hjx)
          subst e2
          have hcm := List.mem_of_getElem? e1
          have kbc := wf.kb' (hcs c hcm)
          have eA := sA _ _ e3
          have vA := e4.sm sA
          have hgrA := sA _ _ hgr9
          have hgsA := hgs9.sm sA
          obtain ⟨tc, cvs, rfl, htc, hcv⟩ := vA.tup_inv
          cases hcv with
          | @cons m0 _ _ _ b0 hcv =>
          cases hcv with
          | @cons m1 _ _ _ b1 hcv =>
          cases hcv with
          | @cons m2 _ _ _ b2 hcv =>
          cases b0
          refine gPair eA ⟨rfl, ?_⟩
          refine (att_test (at_eq (at_ixT (at_var rfl) at_c htc (atI_nat (j := 0) rfl)) (at_ixT (at_var rfl) at_c (sA _ _ hta9) (atI_nat (j := 0) rfl)) rfl dec_int)) _ ?_
          cases decide (((G.l c).ht : Int) = ((G.l c0).ht : Int)) with
          | false => exact q1 HA (Same.refl _)
          | true =>
            rw [if_pos rfl]
            obtain ⟨ja, hja⟩ := at_idx (K := K) GO (show (G.l c).lo < 64 by have := kbc.a; have := kbc.b; omega) hgrA hgsA b1
            obtain ⟨jb, hjb⟩ := at_idx (K := K) GO kbc.b hgrA hgsA b2
            exact tup_ (vs := [iV ja, iV jb, iV c]) (ata_cons (hja (at_var rfl) (at_ixT (at_var rfl) at_c htc (atI_nat (j := 1) rfl))) (ata_cons (hjb (at_var rfl) (at_ixT (at_var rfl) at_c htc (atI_nat (j := 2) rfl))) (ata_cons (at_var rfl) ata_nil))) z3 fun p hp => q2 _ _ (same_new hp) ⟨p, _, _, c, rfl, upd_same, hcm⟩
        · refine forW (cb1 (at_then (at_var rfl) ⟨EB, vs, rfl, SqL.of hvs, fun x hx => ?_, fun ys p hpm hp => ?_⟩))
          · obtain ⟨t, i, j, c, e1, e2, e3⟩ := hvt x hx
            exact ⟨t, i, j, (c : Int), e1, e2⟩
          · have sC := sB.trans (same_new (o := .lst ys) hp)
            have f9 := f67.trans (Fr.same (s9.trans sC))
            have W9 := W7.same (s9.trans sC)
            have hqC := (s9.trans sC) _ _ hq7
            have hyp : ∀ x ∈ ys, ∃ (t : Addr) (i j : Int) (c : Nat), x = .ref t ∧ upd HB p (.lst ys) t = some (.tup [.int i, .int j, iV c]) ∧ c ∈ cs := fun x hx => by
              obtain ⟨t, i, j, c, e1, e2, e3⟩ := hvt x (hpm.mem_iff.mp hx)
              exact ⟨t, i, j, c, e1, same_new (o := .lst ys) hp _ _ e2, e3⟩
            have hpq : p ≠ q := (ne_of_none (sB _ _ (s9 _ _ hq7)) hp).symm
            have hpC : upd HB p (.lst ys) p = some (.lst ys) := upd_same
            generalize upd HB p (.lst ys) = HC at sC f9 W9 hqC hyp hpC ⊢
            refine sq_forLg at_c hpC (fun i σ' H' => ∃ bs x10 x11 x12 x13, ∃ a : Int, σ' = [some (.ref wl), some (.ref L.tw), some (.ref L.ho), some (.ref L.gr), some (.ref EB), some (.ref q), some (.ref ta), some (.int a), some (.int (2 + (r : Int))), some (.ref E9), x10, x11, x12, x13] ∧ H' p = some (.lst ys) ∧ TK HC H' ∧ Fr (fun a => a = wl) H H' ∧ WellOk H' wl ∧ H' q = some (.lst (bs.map iV)) ∧ (∀ b ∈ bs, b ∈ G.ns) ∧ bs.length ≤ 5)
              ⟨[c0], none, none, none, none, _, rfl, hpC, TK.refl _, f9, W9, hqC, (fun b hb => by rw [List.mem_singleton.mp hb]; exact hcs c0 hc0), by show 1 ≤ 5; decide⟩ (fun i σ' H' I => by obtain ⟨_, _, _, _, _, _, _, h, _⟩ := I; exact h) (fun i x σ' H' hx I => ?_) fun σ' H' I => ?_
            · obtain ⟨bs, x10, x11, x12, x13, a, rfl, hpD, tkD, fD, WD, hqD, hbs, hbl⟩ := I
              obtain ⟨t, i', j', c, e1, e2, e3⟩ := hyp x (List.mem_of_getElem? hx)
              subst e1
              have hcl2 : (bs.map iV).length = bs.length := List.length_map _
              refine gTrip (tkD _ _ e2) ?_
              refine st_if (att_and (att_test (at_I0 (at_var rfl) (at_var rfl) rfl)) fun _ => att_test (at_I0 (at_lenL (ata_cons (at_var rfl) ata_nil) hqD) (at_var rfl) rfl)) (fun hb => ?_) fun hb => ?_
              · rw [Bool.and_eq_true, decide_eq_true_eq, decide_eq_true_eq] at hb
                have hb2 : ((bs.map iV).length : Int) < 2 + (r : Int) := hb.2
                rw [hcl2] at hb2
                refine sq_app (at_var rfl) hqD (at_var rfl) (by omega) (st_set (at_var rfl) ⟨bs ++ [c], _, _, _, _, _, rfl, ?_, ?_, Fr.mut fD hq0, ?_, ?_, ?_, ?_⟩)
                · rw [upd_ne hpq]
                  exact hpD
                · exact tkD.trans (TK.upd hqD fun _ z => by cases z)
                · obtain ⟨a1, a2, a3, a4, a5, a6⟩ := WD
                  exact ⟨a1, a2, a3, a4, by rw [upd_ne nqw.symm]; exact a5, a6⟩
                · rw [upd_same, List.map_append]
                  rfl
                · intro b hb
                  rcases List.mem_append.mp hb with hb | hb
                  · exact hbs b hb
                  · rw [List.mem_singleton.mp hb]
                    exact hcs c e3
                · rw [List.length_append]
                  show bs.length + 1 ≤ 5
                  omega
              · exact ⟨bs, _, _, _, _, a, rfl, hpD, tkD, fD, WD, hqD, hbs, hbl⟩
            · obtain ⟨bs, x10, x11, x12, x13, a, rfl, hpD, tkD, fD, WD, hqD, hbs, hbl⟩ := I
              exact st_ret (at_var rfl) (k q bs H' hbs (by omega) fD WD hq0 hqD)
    · refine sq_ifw (torW (testW (opW (wp_call (ata_cons (at_var rfl) (ata_cons at_c ata_nil)) ⟨wl, 8, rfl, by decide, by decide, W2, fun r H3 hr3 f3 W3 => at_then at_c ⟨rfl, _, rfl, ?_⟩⟩))))
      have f13 := (Fr.same s12).trans f3
      have A3 := A0.pull W0 hw f13
      have ndw : D ≠ wl := fun z => by
        obtain ⟨_, _, _, _, e, _⟩ := W0
        rw [z, s1 _ _ e] at hD
        cases hD
      have hD3 := f3 _ _ hD2 ndw
      have all : ∀ σ' H4, σ' = ((L2.start ["_law_well_here", "_law_twigs", "_law_holds", "_law_grid_here", "_law_some", "_law_run_here", "_law_last", "_law_at", "_law_most", "_law_labels", "_law_low", "_law_top", "_law_number", "_law_label_here"] [V.ref wl, V.ref L.tw, V.ref L.ho, V.ref L.gr]).set 4 (some (.ref D))) → Same H3 H4 → ∀ (D' : Ends), (∀ σ5 H5, (∃ sl, ∃ cs : List Nat, σ5 = [some (.ref wl), some (.ref L.tw), some (.ref L.ho), some (.ref L.gr), some (.ref sl), none, none, none, none, none, none, none, none, none] ∧ Fr (fun a => a = wl) H H5 ∧ WellOk H5 wl ∧ H5 sl = some (.lst (cs.map iV)) ∧ sl ≠ wl ∧ (∀ c ∈ cs, c ∈ G.ns) ∧ cs ≠ [] ∧ cs.length ≤ 900) → D'.nx σ5 H5) → tAsg (tCB rSortedK (tCons (tVar 1) tNil)) (gName 4) D' σ' H4 := by
        rintro σ' H4 rfl s4 D' c
        have A4 := A3.same s4
        refine as_ (sortedW (F := fun n => .ref (L.tv n)) (at_var rfl) A4.tw wf.so fun p hp => c _ _ ⟨p, G.ns, rfl, (f13.trans (Fr.same s4)).trans (Fr.same (same_new hp)), (W3.same s4).same (same_new hp), upd_same, fun z => ?_, fun c h => h, hne, by omega⟩)
        obtain ⟨_, _, _, _, e, _⟩ := W3.same s4
        rw [z, e] at hp
        cases hp
      by_cases h7 : iV r = V.int 7
      · rw [decT h7, if_pos rfl]
        exact all _ H3 rfl (Same.refl _) _ cont
      · rw [decF h7]
        refine smt_test (sm_eqNil (at_var rfl) hD3) _ fun H4 s4 => ?_
        cases he : (G.ns.filter fun n => decide (0 < G.h n)).isEmpty with
        | true =>
          exact all _ H4 rfl s4 _ cont
        | false =>
          refine cont _ _ ⟨D, _, rfl, f13.trans (Fr.same s4), W3.same s4, s4 _ _ hD3, ndw, fun c hc => (List.mem_filter.mp hc).1, fun z => ?_, Nat.le_trans (List.length_filter_le _ _) hz⟩
          rw [z] at he
          cases he
end
end Tw

set_option Elab.async false
set_option linter.all false
set_option maxRecDepth 100000
set_option maxHeartbeats 4000000
/-! isinstance of a caught error that has a dict; its fields. -/
namespace PySem.W
open PySem PySem.Spec PySem.Calls PyProof.Rows
section
variable {P0 : Program} {w0 : World} {B : Around} {EE : Value → Shared → Prop} {s0 : Shared} {K0 : Frag} {y D0 : Addr} {oy : Obj} {ody : Option Obj}
theorem find_clsAny {C : Addr} {nm : Str} {av gv : Value} (q1 : (clsIn K0 C).isSome = true) (q2 : findIn K0 (.ref C) nm = some (some av)) (q3 : specialIn K0 av "__get__" = some (some gv)) (q4 : takesIn K0 av = some true) : findObj K0 C ody nm = some (.bind gv av) := by
  obtain ⟨cd, q1⟩ := Option.isSome_iff_exists.mp q1
  unfold findObj
  rw [q1, Option.bind_some, q2, Option.bind_some]
  simp [q3, q4]
theorem kin_clsAny {Q : Option Value → Shared → Prop} (q1 : findIn K0 (.ref D0) "__getattribute__" = some (some (.builtin "BaseException.__getattribute__"))) (q2 : findIn K0 (.ref D0) "__getattr__" = some none) (q3 : subIn K0 (.ref D0) (.type "BaseException") = some true)
    (q4 : hasDictIn K0 D0 = true) (q5 : findIn K0 (.ref D0) "__class__" = some (some (.builtin "object.__class__")))
    (q6 : specialIn K0 (.builtin "object.__class__") "__get__" = some (some (.builtin "getset_descriptor.__get__"))) (q7 : takesIn K0 (.builtin "object.__class__") = some true) (q8 : mroIn K0 D0 (.type "object") = some true)
    (ki : K0.In s0.heap) (J : InstAt s0.heap y oy D0 ody) (fin : Q (some (.ref D0)) { s0 with toks := s0.toks + 1 }) : wpAny (model P0 w0) B (getAttr? (.ref y) "__class__") Q EE s0 := by
  have fo : findObj K0 D0 ody "__class__" = some (.bind (.builtin "getset_descriptor.__get__") (.builtin "object.__class__")) := find_clsAny (by obtain ⟨cd, hc, _⟩ := any_some q4; rw [hc]; rfl) q5 q6 q7
  obtain ⟨hp, gn, dr, tk, oss⟩ := s0
  have t0 := J.type (M := model P0 w0)
  have t1 := looks_findIn (M := model P0 w0) ki q1
  have t2 := looks_findIn (M := model P0 w0) ki q2
  have t3 := looks_find (M := model P0 w0) ki J fo
  have subt : Looks (model P0 w0) hp (isInstance (.ref y) (.type "BaseException")) true := t0.andThen (looks_subIn ki q3)
  have n0 : (false && onTheHeap (Value.builtin "BaseException.__getattribute__")) = false := rfl
  have n2 : (Value.builtin "BaseException.__getattribute__" == Value.builtin "object.__getattribute__") = false := by decide +kernel
  have n1 : (onTheHeap (Value.ref D0) && Value.builtin "BaseException.__getattribute__" == Value.builtin "object.__getattribute__") = false := by rw [n2]; rfl
  unfold getAttr?
  unfold getAttrBy?
  unfold getAttrBy
  refine wpAny_bind (wpAny_mkText (wpAny_bind (wpAny_attempt (wpAny_holding (wpAny_bind (t0.at (wpAny_bind (t1.at ?_))))))))
  show wpAny _ _ (if (onTheHeap (Value.ref D0) && Value.builtin "BaseException.__getattribute__" == Value.builtin "object.__getattribute__") = true then _ else _) _ _ _
  rw [n1, if_neg Bool.false_ne_true]
  unfold getAttrByItsOwn
  unfold hookBefore
  refine wpAny_bind ?_
  rw [if_pos (show onTheHeap (Value.ref D0) = true from rfl)]
  refine t2.at ?_
  refine wpAny_bind (wpAny_attempt (wpAny_holding ?_))
  unfold callGetattribute
  rw [n0, if_neg Bool.false_ne_true]
  unfold boundAndCalled
  rw [PySem.F.excAttr_ValueError.ga.bind (.ref y)]
  refine wpAny_bind (wpAny_pure ?_)
  show wpAny _ _ (call (.builtin "BaseException.__getattribute__") [.ref y, .str "__class__" tk]) _ _ _
  refine wpAny_call (codeAny_call_builtin PySem.F.excAttr_ValueError.ga.plain PySem.F.entry_bexc_ga ?_)
  refine @check_slot (model P0 w0) _ _ ⟨hp, gn, dr, tk + 1, oss⟩ "BaseException.__getattribute__" "BaseException" "__getattribute__" (.ref y) [.str "__class__" tk] [] _ (by decide +kernel) (by decide +kernel) subt (PySem.F.args_bexc_ga (.ref y) (.str "__class__" tk)) ?_
  unfold Builtin.«object.__getattribute__»
  refine wpAny_bind (wpAny_of_eq (a := ((Value.ref y : Value), [Value.str "__class__" tk])) (by first | rfl | (simp only [slotArgs]; rfl)) ?_)
  refine wpAny_bind (wpAny_pure (wpAny_bind (t0.at (wpAny_bind (t3.at ?_)))))
  show wpAny _ _ (holding [Value.builtin "object.__class__"] (call (.builtin "getset_descriptor.__get__") [.builtin "object.__class__", .ref y, .ref D0]) >>= ret) _ _ _
  refine wpAny_bind (wpAny_holding (wpAny_call (class_get (s := ⟨hp, gn, dr, tk + 1, oss⟩) (ox := oy) (od := ody) ki J q8 ?_)))
  refine wpAny_pure ?_
  show wpAny _ _ (handedOut (.ref D0)) _ _ _
  rw [handedOut_of (v := .ref D0) rfl]
  first
    | exact wpAny_pure (wpAny_pure fin)
    | exact wpAny_pure fin
    | exact wpAny_pure (wpAny_bind (wpAny_pure (wpAny_pure fin)))
theorem kit_any (q1 : findIn K0 (.ref D0) "__getattribute__" = some (some (.builtin "BaseException.__getattribute__"))) (q2 : findIn K0 (.ref D0) "__getattr__" = some none) (q3 : subIn K0 (.ref D0) (.type "BaseException") = some true) (q4 : hasDictIn K0 D0 = true) (q5 : findIn K0 (.ref D0) "__class__" = some (some (.builtin "object.__class__")))
    (q6 : specialIn K0 (.builtin "object.__class__") "__get__" = some (some (.builtin "getset_descriptor.__get__"))) (q7 : takesIn K0 (.builtin "object.__class__") = some true) (q8 : mroIn K0 D0 (.type "object") = some true) :
    KitX K0 (.ref y) (.ref D0) (fun h => InstAt h y oy D0 ody) where
  ty := fun _ _ _ J => J.type
  it := fun _ _ ki _ => by
    obtain ⟨cdD, hcD, _⟩ := any_some q4
    unfold clsIn at hcD
    split at hcD
    · rename_i c0 d0 cd0 sl0 hob
      intro B0 Q0 E0 s1 k0 z
      unfold isType loadHead
      exact wpAny_bind (wpAny_loadPart (k0 _ _ (ki _ _ hob)) (wpAny_pure z))
    · cases hcD
  ne := fun h tp dd its n sl ki htp => by
    obtain ⟨cdD, hcD, _⟩ := any_some q4
    refine Bool.eq_false_iff.mpr fun z => ?_
    have e : D0 = tp := Value.ref.inj (beq_iff_eq.mp z)
    subst e
    unfold clsIn at hcD
    split at hcD
    · rename_i c0 d0 cd0 sl0 hob
      have z2 := (ki _ _ hob).symm.trans htp
      cases z2
    · cases hcD
  ca := fun ki J k => kin_clsAny q1 q2 q3 q4 q5 q6 q7 q8 ki J k
end
end PySem.W
namespace Tw
open PySem PySem.Spec PyProof.Rows L2
/-- the dict of a caught error stands -/
def DictUp (H : Hp) (d : Option Addr) : Prop := ∀ dd, d = some dd → ∃ fs, H dd = some (.xd fs)
def rIsX (K : PySem.W.Frag) (cls : Value) (a : Addr) (d : Option Addr) : List V → Hp → VK → Prop := fun xs H Q => ∃ (D : Addr) (c : V) (cv : Value) (b : Bool), cls = .ref D ∧ ExcC K D ∧ DictUp H d ∧ xs = [.ref a, c] ∧ (∀ u, RelV c u → u = cv) ∧ PySem.W.kitOne K (.ref D) cv = some b ∧ Q (.bl b) H
theorem call_isX {X : Cx} {K : PySem.W.Frag} {a : Addr} {oe : Obj} {cls : Value} {d : Option Addr} {pn : List (Addr × Obj)} (hk : X.K = K) (hz : Zc cls d oe) (hf : ∃ vs, oe.data = .fields vs) : CallR (X.suite a ((a, oe) :: pn)) (.builtin "isinstance") (rIsX K cls a d) := by
  subst hk
  intro pins s0 σ H xs us Q J r h
  obtain ⟨D, c, cv, b, rfl, C, du, rfl, hcv, e, q⟩ := h
  cases r with
  | cons rx rr =>
    cases rr with
    | cons rt rr =>
      cases rr
      cases rx
      have ec := hcv _ rt
      subst ec
      obtain ⟨hget, _⟩ := J.pin (a, oe) (List.mem_append.mpr (.inl List.mem_cons_self))
      obtain ⟨vs, hv⟩ := hf
      have IA : ∃ ody, PySem.W.InstAt s0.heap a oe D ody := by
        obtain ⟨oc, od, oda, osl⟩ := oe
        obtain ⟨h1, h2⟩ := hz
        dsimp only at h1 h2 hv
        subst h1 h2 hv
        cases od with
        | none => exact ⟨none, hget, rfl, rfl, trivial⟩
        | some dd =>
          obtain ⟨fs, hd⟩ := du dd rfl
          obtain ⟨mA, hns, _⟩ := (show ObjOk X.prog X.w H s0.heap dd (.xd fs) from J.hok dd _ hd)
          obtain ⟨od, ho, _⟩ := lookIn_ns hns
          exact ⟨some od, hget, rfl, rfl, ho⟩
      obtain ⟨ody, IA⟩ := IA
      exact PySem.W.kia_one (PySem.W.kit_any C.hg C.hk C.hs C.hd C.ha C.hn C.ht C.hm) J.kIn IA e (fun z => nomatch z) fun tk => ⟨.bl b, H, J.kept (t' := tk) fun _ _ z => z, rfl, q⟩
def tXfE (K : PySem.W.Frag) (a : Addr) (cls : Value) (d : Option Addr) (f : Str) (te : TE) : TE := fun σ H Q => ∃ C, XfC K C ∧ PySem.W.findIn K (.ref C) f = some none ∧ tXf a cls d C f te σ H Q
theorem pe_xfE {X : Cx} {K : PySem.W.Frag} {a : Addr} {oe : Obj} {cls : Value} {d : Option Addr} {pn : List (Addr × Obj)} {e : Expr} {te : TE} {pos : Pos} {n : Str} (hk : X.K = K) (hz : Zc cls d oe) (hf : ∃ vs, oe.data = .fields vs) (he : PE (X.suite a ((a, oe) :: pn)) e te)
    (hb : attributeBase e n X.env (eval e X.env) = eval e X.env := by rfl) : PE (X.suite a ((a, oe) :: pn)) (.Attribute e n pos) (tXfE K a cls d n te) := by
  subst hk
  exact ⟨fun pins s0 σ H Q J ⟨C, T, hno, h⟩ => (pe_xf T hno hz hf he hb).run pins s0 σ H Q J h⟩
end Tw

set_option Elab.async false
set_option linter.all false
set_option maxRecDepth 100000
set_option maxHeartbeats 4000000
/-! _law_asked. -/
namespace Tw
open PySem PySem.Spec PyProof.Rows L2 LamX
open He (ga ma)
theorem Takes.len {X : Cx} {W : WX} (t : Takes X W) : Takes X (fun c d σ H => σ.length = X.N.length → W c d σ H) := fun u s1 ⟨a, B, sI, pins, σ, H, cls, d, e, J, nb, up, sky, na, os, ag, w⟩ => t u s1 ⟨a, B, sI, pins, σ, H, cls, d, e, J, nb, up, sky, na, os, ag, w J.len⟩
def rCntV (K : PySem.W.Frag) : V → List V → Hp → VK → Prop := fun x xs H Q => ∃ (p : Addr) (ys : List V) (y : V), x = .ref p ∧ xs = [y] ∧ SqL K H p ys ∧ flatV y = true ∧ ys.all flatV = true ∧ Q (.int ((ys.countP (fun z => eqV z y) : Nat) : Int)) H
theorem cnt_eqU {y : V} {uy : Value} : ∀ {ys : List V} {us : List Value}, Vals ys us → ys.all flatV = true → us.countP (eqU y) = ys.countP (fun z => eqV z y)
  | _, _, .nil, _ => rfl
  | z :: zs, u :: us, .cons r t, f => by
    rw [List.all_cons, Bool.and_eq_true] at f
    rw [List.countP_cons, List.countP_cons, cnt_eqU (uy := uy) t f.2, eqU_of r f.1]
theorem mt_cntV {X : Cx} {K : PySem.W.Frag} (hk : X.K = K) : MtR X "list.count" (rCntV K) := by
  subst hk
  intro pins s0 σ H x xs v us Q J rx rxs h
  obtain ⟨p, ys, y, rfl, rfl, hs, fy, fys, q⟩ := h
  cases rx
  cases rxs with
  | cons ry rt =>
    rename_i uy ut
    cases rt
    obtain ⟨its, rv, ⟨⟨cls, dd, data, sl⟩, n, ho, hc, hdn, hd⟩, hlen⟩ := J.list hs
    simp only at hc hd
    subst hc hd
    refine call_meets PySem.F.slot_list_count ⟨_, ho, rfl⟩ PySem.F.entry_list_count (PySem.F.args_list_count_2 _ _)
      (SeqAt.list_countAt p its.toArray n dd sl uy (eqU y)) ⟨ho, fun u1 hu1 => mem_eqAt ry fy rv fys u1 (by simpa using hu1), ?_⟩
    refine ⟨.int ((ys.countP (fun z => eqV z y) : Nat) : Int), H, J.tok _, ⟨s0.toks, ?_⟩, q⟩
    show Value.int ((its.toArray.toList.countP (eqU y) : Nat) : Int) s0.toks = _
    rw [← cnt_eqU (uy := uy) rv fys]
theorem mt_indexK {X : Cx} {K : PySem.W.Frag} (hk : X.K = K) : MtR X "list.index" (rIndex K) := hk ▸ mt_index
/-- what asked tells of an error -/
def AskE (K : PySem.W.Frag) (Q : VK) : XK := fun cls d H1 => DictUp H1 d ∧ ((cls = .ref (ga K "NoStem") ∧ ∀ v H2, Same H1 H2 → Tp H2 v (.tuple [.str "stem"]) → Q v H2) ∨
  ∃ (n : Nat) (dd : Addr), d = some dd ∧ H1 dd = some (.xd [("number", iV n)]) ∧ ((cls = .ref (ga K "NoTwig") ∧ ∀ v H2, Same H1 H2 → Tp H2 v (.tuple [.str "twig", .int (n : Int)]) → Q v H2) ∨ (cls = .ref (ga K "NotHeld") ∧ ∀ v H2, Same H1 H2 → Tp H2 v (.tuple [.str "held", .int (n : Int)]) → Q v H2)))
def TTA (K : PySem.W.Frag) : (XK → Hp → VK → Prop) → Hp → VK → Prop := fun tl H Q => tl (AskE K Q) H fun v H1 => ∃ y, (some (some v) : Option (Option V)) = some (some y) ∧ 2 ≤ sizeLine ∧ ∀ p, H1 p = none → Q (.ref p) (upd H1 p (.tup [.str "told", y]))
theorem tup1W {σ : L2.St} {H : Hp} {te : TE} {QV : VK} (h : te σ H fun x H1 => 1 ≤ sizeLine ∧ ∀ p, H1 p = none → QV (.ref p) (upd H1 p (.tup [x]))) : tTup (tCons te tNil) σ H QV := h
theorem isx {K : PySem.W.Frag} (W : TwX K) {x y : Str} (hx : x ∈ hand4) (hy : y ∈ kinds6) {σ : L2.St} {H : Hp} {a : Addr} {d : Option Addr} (h2 : σ[2]? = some (some (.ref a))) (du : DictUp H d) :
    At (tCB (rIsX K (.ref (ga K x)) a d) (tCons (tVar 2) (tCons (tC (.ref (ga K y))) tNil))) σ H (.bl (decide (x = y))) := at_cb (ata_cons (at_var h2) (ata_cons at_c ata_nil)) fun Q q => ⟨ga K x, _, .ref (ga K y), _, rfl, (W.h4 x hx).1, du, rfl, fun u h => h, (W.h4 x hx).2.2.2 y hy, q⟩
theorem isv {K : PySem.W.Frag} (W : TwX K) {x : Str} (hx : x ∈ hand4) {σ : L2.St} {H : Hp} {a : Addr} {d : Option Addr} (h2 : σ[2]? = some (some (.ref a))) (du : DictUp H d) :
    At (tCB (rIsX K (.ref (ga K x)) a d) (tCons (tVar 2) (tCons (tC (.ty "ValueError")) tNil))) σ H (.bl true) := at_cb (ata_cons (at_var h2) (ata_cons at_c ata_nil)) fun Q q => ⟨ga K x, _, .type "ValueError", _, rfl, (W.h4 x hx).1, du, rfl, fun u h => h, (W.h4 x hx).2.2.1, q⟩
theorem DictUp.same {H H' : Hp} {d : Option Addr} (h : DictUp H d) (s : Same H H') : DictUp H' d := fun dd e => by
  obtain ⟨fs, q⟩ := h dd e
  exact ⟨fs, s _ _ q⟩
def flg (x : Str) : List V := [.bl (decide (x = "NoKey")), .bl (decide (x = "NoLeaf")), .bl (decide (x = "NoStem")), .bl (decide (x = "NoTwig")), .bl (decide (x = "NotHeld")), .bl (decide (x = "Shared"))]
theorem hand_3 {x : Str} (h : x ∈ hand4) : x = "NoTwig" ∨ x = "NotHeld" ∨ x = "NoStem" := by simpa [hand4] using h
theorem flg_cnt {x : Str} (h : x ∈ hand4) : (flg x).countP (fun z => eqV z (.bl true)) = 1 ∧ (flg x).all flatV = true := by
  rcases hand_3 h with rfl | rfl | rfl <;> exact ⟨by decide, by decide⟩
theorem flg_idx {x : Str} (h : x ∈ hand4) : ∃ j z, (flg x)[j]? = some z ∧ eqV z (.bl true) = true ∧ (∀ (m : Nat) (z' : V), m < j → (flg x)[m]? = some z' → eqV z' (.bl true) = false) ∧ j = (if x = "NoStem" then 2 else if x = "NoTwig" then 3 else 4) := by
  rcases hand_3 h with rfl | rfl | rfl
  · exact ⟨3, .bl true, by decide, rfl, fun m z' hm hz => by
      match m, hm with
      | 0, _ => cases hz; decide
      | 1, _ => cases hz; decide
      | 2, _ => cases hz; decide, by decide⟩
  · exact ⟨4, .bl true, by decide, rfl, fun m z' hm hz => by
      match m, hm with
      | 0, _ => cases hz; decide
      | 1, _ => cases hz; decide
      | 2, _ => cases hz; decide
      | 3, _ => cases hz; decide, by decide⟩
  · exact ⟨2, .bl true, by decide, rfl, fun m z' hm hz => by
      match m, hm with
      | 0, _ => cases hz; decide
      | 1, _ => cases hz; decide, by decide⟩
theorem sc__law_asked : FnScope ["_law_call", "_law_found", "e", "_law_flags", "_law_at"] ["_law_call"] (defScope (top 44)) := ⟨rfl, rfl, rfl, by decide +kernel, rfl, by decide +kernel, by decide +kernel⟩
theorem asked_gives {X : Cx} {g : Addr} {cdg : Value} {qn : Str} (T : TX X.K X.mg) (W : TwX X.K) : GivesTo X ["_law_call", "_law_found", "e", "_law_flags", "_law_at"] "_law_asked" (defScope (top 44)) g cdg (defBody (top 44)) "_law_call" qn (TTA X.K) := by
  intro f c' s H Q tl act hc h
  have nd := sc__law_asked.nd
  refine ⟨_, (pss_cons (ps_set (i := 1) nd rfl (by first | exact Or.inl rfl | exact Or.inr rfl) pe_non)
      (pss_cons (ps_try_as (i := 2) (c := .ref (ga X.K "TwigError")) (tb := fun W D σ H => ∃ Ech : XK, (∀ cls d σ1 H1, σ1.length = 5 → Ech cls d H1 → W cls d σ1 H1) ∧ σ[0]? = some (some (.ref f)) ∧ H c' = some (CodeO c' qn) ∧ tl Ech H (fun v H1 => D.nx (σ.set 1 (some v)) H1)) rfl rfl nd rfl rfl ⟨rfl, by decide, .inl T.g_TwigError⟩ L2.takes0 (fun W0 pn xe tk0 _ => ?_)
      (fun a oe cls d pn hz hf => (pss_cons (ps_set (i := 3) nd rfl (by first | exact Or.inl rfl | exact Or.inr rfl) (pe_lst (pa_cons (pe_callB (call_isX (K := X.K) rfl hz hf) rfl T.f_isinstance bt_isinstance (pa_cons (pv 2) (pa_cons (pe_glob rfl T.g_NoKey (v := .ref _) rfl) pa_nil))) (pa_cons (pe_callB (call_isX (K := X.K) rfl hz hf) rfl T.f_isinstance bt_isinstance (pa_cons (pv 2) (pa_cons (pe_glob rfl T.g_NoLeaf (v := .ref _) rfl) pa_nil))) (pa_cons (pe_callB (call_isX (K := X.K) rfl hz hf) rfl T.f_isinstance bt_isinstance (pa_cons (pv 2) (pa_cons (pe_glob rfl T.g_NoStem (v := .ref _) rfl) pa_nil))) (pa_cons (pe_callB (call_isX (K := X.K) rfl hz hf) rfl T.f_isinstance bt_isinstance (pa_cons (pv 2) (pa_cons (pe_glob rfl T.g_NoTwig (v := .ref _) rfl) pa_nil))) pa_nil))))))
      (pss_cons (ps_set (i := 3) nd rfl (by first | exact Or.inl rfl | exact Or.inr rfl) (pe_op op_cat (pv 3) (pe_lst (pa_cons (pe_callB (call_isX (K := X.K) rfl hz hf) rfl T.f_isinstance bt_isinstance (pa_cons (pv 2) (pa_cons (pe_glob rfl T.g_NotHeld (v := .ref _) rfl) pa_nil))) (pa_cons (pe_callB (call_isX (K := X.K) rfl hz hf) rfl T.f_isinstance bt_isinstance (pa_cons (pv 2) (pa_cons (pe_glob rfl T.g_Shared (v := .ref _) rfl) pa_nil))) pa_nil)))))
      (pss_cons (ps_if (PW.pt (pw_or (pt_cmpR op_ne (pe_bmK (K := X.K) rfl PySem.F.plainAttrs_list PySem.F.slot_list_count PySem.F.type_list_count (mt_cntV (K := X.K) rfl) (pv 3) (pa_cons pe_bl pa_nil)) pe_int (nomark _)) (pw_or1 (pt_not (pt_val (pe_callB (call_isX (K := X.K) rfl hz hf) rfl T.f_isinstance bt_isinstance (pa_cons (pv 2) (pa_cons (pe_bltn rfl T.f_ValueError bt_ValueError (v := .ty "ValueError") rfl) pa_nil)))))))) (pss_one (ps_ret (pe_tup (pa_cons pe_str pa_nil)))) pss_nil)
      (pss_cons (ps_set (i := 4) nd rfl (by first | exact Or.inl rfl | exact Or.inr rfl) (pe_bmK (K := X.K) rfl PySem.F.plainAttrs_list PySem.F.slot_list_index PySem.F.type_list_index (mt_indexK (K := X.K) rfl) (pv 3) (pa_cons pe_bl pa_nil)))
      (pss_cons (ps_if (pt_cmpR op_lt (pv 4) pe_int (nomark _)) (pss_one (ps_ret (pe_tup (pa_cons (pe_ix (ixL (K := X.K) rfl) (pe_lst (pa_cons pe_str (pa_cons pe_str (pa_cons pe_str pa_nil)))) (pv 4) (fun _ _ => rfl)) pa_nil)))) pss_nil)
      (pss_one (ps_ret (pe_tup (pa_cons (pe_ix (ixL (K := X.K) rfl) (pe_lst (pa_cons pe_str (pa_cons pe_str (pa_cons pe_str pa_nil)))) (pe_op op_sub (pv 4) pe_int) (fun _ _ => rfl)) (pa_cons (pe_xfE (K := X.K) rfl hz hf (pv 2)) pa_nil))))))))))))
      (pss_one (ps_ret (pe_tup (pa_cons pe_str (pa_cons (pv 1) pa_nil))))))), ?_⟩
  · refine ⟨fun pins s1 σ H1 D J h1 => ?_⟩
    obtain ⟨Ech, hW, h2, h3, h4⟩ := h1
    have hp := fun p1 p2 => act (fun c d σ H => σ.length = 5 → W0 c d σ H) pn xe Ech p1 p2 (Takes.len tk0) fun cls d σ1 H1 he hl => hW cls d σ1 H1 hl he
    exact (pss_one (ps_set (i := 1) nd rfl (by first | exact Or.inl rfl | exact Or.inr rfl) (hp _ _))).run pins s1 σ H1 D J ⟨h2, h3, h4⟩
  · refine sq_set at_c ?_
    refine ⟨AskE X.K Q, fun cls d σ1 H1 hl he => ?_, rfl, hc, ?_⟩
    · match σ1, hl with
      | [y0, y1, y2, y3, y4], _ =>
        obtain ⟨du, he⟩ := he
        obtain ⟨x, hx, rfl, he2⟩ : ∃ x, x ∈ hand4 ∧ cls = .ref (ga X.K x) ∧ ((x = "NoStem" ∧ ∀ v H2, Same H1 H2 → Tp H2 v (.tuple [.str "stem"]) → Q v H2) ∨ ∃ (n : Nat) (dd : Addr), d = some dd ∧ H1 dd = some (.xd [("number", iV n)]) ∧
            ((x = "NoTwig" ∧ ∀ v H2, Same H1 H2 → Tp H2 v (.tuple [.str "twig", .int (n : Int)]) → Q v H2) ∨ (x = "NotHeld" ∧ ∀ v H2, Same H1 H2 → Tp H2 v (.tuple [.str "held", .int (n : Int)]) → Q v H2))) := by
          rcases he with ⟨rfl, k⟩ | ⟨n, dd, rfl, hdd, ⟨rfl, k⟩ | ⟨rfl, k⟩⟩
          · exact ⟨_, by decide, rfl, .inl ⟨rfl, k⟩⟩
          · exact ⟨_, by decide, rfl, .inr ⟨n, dd, rfl, hdd, .inl ⟨rfl, k⟩⟩⟩
          · exact ⟨_, by decide, rfl, .inr ⟨n, dd, rfl, hdd, .inr ⟨rfl, k⟩⟩⟩
        refine ⟨true, (W.h4 x hx).2.1, fun _ a ha => ?_, fun q => by cases q⟩
        refine sq_as (lst_ (vs := [.bl (decide (x = "NoKey")), .bl (decide (x = "NoLeaf")), .bl (decide (x = "NoStem")), .bl (decide (x = "NoTwig"))]) (ata_cons (isx W hx (by decide) rfl du) (ata_cons (isx W hx (by decide) rfl du) (ata_cons (isx W hx (by decide) rfl du) (ata_cons (isx W hx (by decide) rfl du) ata_nil)))) z4 fun q1 hq1 => ?_)
        have s1 := same_new (o := .lst [.bl (decide (x = "NoKey")), .bl (decide (x = "NoLeaf")), .bl (decide (x = "NoStem")), .bl (decide (x = "NoTwig"))]) hq1
        have du1 := du.same s1
        refine sq_as (opW (at_then (at_var rfl) (lst_ (vs := [.bl (decide (x = "NotHeld")), .bl (decide (x = "Shared"))]) (ata_cons (isx W hx (by decide) rfl du1) (ata_cons (isx W hx (by decide) rfl du1) ata_nil)) z2 fun q2 hq2 => ⟨q1, q2, _, _, rfl, rfl, same_new hq2 _ _ upd_same, upd_same, zl (by show 6 ≤ 100000; decide), fun q3 hq3 => ?_⟩)))
        have s3 := (s1.trans (same_new (o := .lst [.bl (decide (x = "NotHeld")), .bl (decide (x = "Shared"))]) hq2)).trans (same_new (o := .lst ([.bl (decide (x = "NoKey")), .bl (decide (x = "NoLeaf")), .bl (decide (x = "NoStem")), .bl (decide (x = "NoTwig"))] ++ [.bl (decide (x = "NotHeld")), .bl (decide (x = "Shared"))])) hq3)
        have hl3 : (upd (upd (upd H1 q1 (.lst [.bl (decide (x = "NoKey")), .bl (decide (x = "NoLeaf")), .bl (decide (x = "NoStem")), .bl (decide (x = "NoTwig"))])) q2 (.lst [.bl (decide (x = "NotHeld")), .bl (decide (x = "Shared"))])) q3 (.lst ([.bl (decide (x = "NoKey")), .bl (decide (x = "NoLeaf")), .bl (decide (x = "NoStem")), .bl (decide (x = "NoTwig"))] ++ [.bl (decide (x = "NotHeld")), .bl (decide (x = "Shared"))]))) q3 = some (.lst (flg x)) := upd_same
        have du3 := du.same s3
        generalize upd (upd (upd H1 q1 (.lst [.bl (decide (x = "NoKey")), .bl (decide (x = "NoLeaf")), .bl (decide (x = "NoStem")), .bl (decide (x = "NoTwig"))])) q2 (.lst [.bl (decide (x = "NotHeld")), .bl (decide (x = "Shared"))])) q3 (.lst ([.bl (decide (x = "NoKey")), .bl (decide (x = "NoLeaf")), .bl (decide (x = "NoStem")), .bl (decide (x = "NoTwig"))] ++ [.bl (decide (x = "NotHeld")), .bl (decide (x = "Shared"))])) = H3 at s3 hl3 du3 ⊢
        obtain ⟨c1, c2⟩ := flg_cnt hx
        obtain ⟨j, z, j1, j2, j3, j4⟩ := flg_idx hx
        have hcnt : ∀ {σ : L2.St}, σ[3]? = some (some (.ref q3)) → At (tBM X.K "list" (rCntV X.K) (tVar 3) (tCons (tC (.bl true)) tNil)) σ H3 (.int 1) := fun h3 Q q => at_var h3 _ ⟨.inl ⟨rfl, _, SqL.of hl3⟩, ⟨q3, flg x, .bl true, rfl, rfl, SqL.of hl3, rfl, c2, by rw [c1]; exact q⟩⟩
        have hidx : ∀ {σ : L2.St}, σ[3]? = some (some (.ref q3)) → At (tBM X.K "list" (rIndex X.K) (tVar 3) (tCons (tC (.bl true)) tNil)) σ H3 (iV j) := fun h3 Q q => at_var h3 _ ⟨.inl ⟨rfl, _, SqL.of hl3⟩, ⟨q3, flg x, .bl true, j, z, rfl, rfl, SqL.of hl3, rfl, c2, j1, j2, j3, q⟩⟩
        refine sq_Fn (att_orF (att_test (at_ne (hcnt rfl) at_c rfl (b := true) rfl)) (att_nT (att_B (isv W hx rfl du3)))) ?_
        refine sq_set (hidx rfl) ?_
        subst j4
        rcases he2 with ⟨e, k⟩ | ⟨n, dd, rfl, hdd, ⟨e, k⟩ | ⟨e, k⟩⟩
        · subst e
          refine sq_T (att_test (at_I0 (at_var rfl) at_c (congrArg V.bl (decT (by decide))))) (rt_ (tup1W (opW (lst_ (vs := [.str "key", .str "leaf", .str "stem"]) (ata_cons at_c (ata_cons at_c (ata_cons at_c ata_nil))) z3 fun q hq => at_then (at_var rfl) ⟨q, _, _, .str "stem", rfl, rfl, SqL.of upd_same, atI_nat (j := 2) rfl, z1, fun p hp => ?_⟩))))
          exact k _ _ ((s3.trans (same_new hq)).trans (same_new hp)) (Tp.mk hp (.cons (.str _) .nil))
        · subst e
          have s4 := s3 _ _ hdd
          refine sq_Fn (att_test (at_I0 (at_var rfl) at_c (congrArg V.bl (decF (by decide))))) (rt_ (tup2W (opW (lst_ (vs := [.str "twig", .str "held", .str "shared"]) (ata_cons at_c (ata_cons at_c (ata_cons at_c ata_nil))) z3 fun q hq => at_then (at_I0 (z := .int 0) (at_var rfl) at_c rfl) ⟨q, _, _, .str "twig", rfl, rfl, SqL.of upd_same, atI_nat (j := 0) rfl, ?_⟩))))
          obtain ⟨_, x2, x3, _⟩ := W.ox "NoTwig" (by decide)
          refine ⟨_, x2, x3, _, rfl, rfl, rfl, dd, _, iV n, rfl, same_new hq _ _ s4, rfl, z2, fun p hp => ?_⟩
          exact k _ _ ((s3.trans (same_new hq)).trans (same_new hp)) (Tp.mk hp (.cons (.str _) (.cons (.int _) .nil)))
        · subst e
          have s4 := s3 _ _ hdd
          refine sq_Fn (att_test (at_I0 (at_var rfl) at_c (congrArg V.bl (decF (by decide))))) (rt_ (tup2W (opW (lst_ (vs := [.str "twig", .str "held", .str "shared"]) (ata_cons at_c (ata_cons at_c (ata_cons at_c ata_nil))) z3 fun q hq => at_then (at_I0 (z := .int 1) (at_var rfl) at_c rfl) ⟨q, _, _, .str "held", rfl, rfl, SqL.of upd_same, atI_nat (j := 1) rfl, ?_⟩))))
          obtain ⟨_, x2, x3, _⟩ := W.ox "NotHeld" (by decide)
          refine ⟨_, x2, x3, _, rfl, rfl, rfl, dd, _, iV n, rfl, same_new hq _ _ s4, rfl, z2, fun p hp => ?_⟩
          exact k _ _ ((s3.trans (same_new hq)).trans (same_new hp)) (Tp.mk hp (.cons (.str _) (.cons (.int _) .nil)))
    · exact h
end Tw

set_option Elab.async false
set_option linter.all false
set_option maxRecDepth 100000
set_option maxHeartbeats 4000000
/-! max(list, default=d); the whole state of a shelf and the law beside. -/
namespace Tw
open PySem PySem.Spec PyProof.Rows L2 LamX
open He (ga ma)
def rMaxDef (K : PySem.W.Frag) : List V → List V → Hp → VK → Prop := fun xs zs H Q => ∃ (a : Addr) (ns : List Int) (d : Int), xs = [.ref a] ∧ zs = [.int d] ∧ SqL K H a (ns.map V.int) ∧ (ns = [] → Q (.int d) H) ∧ ∀ m ∈ ns, Q (.int m) H
theorem ints_dpA {K : PySem.W.Frag} {H : Hp} : ∀ ns : List Int, DpAll K H (ns.map V.int) (ns.map PyData.int)
  | [] => .nil
  | n :: r => .cons (.int _) (ints_dpA r)
theorem ints_depthA : ∀ ns : List Int, PyData.depthAll (ns.map PyData.int) = 0
  | [] => by simp [PyData.depthAll]
  | n :: r => by simp only [List.map_cons, PyData.depthAll, PyData.depth, ints_depthA r]; rfl
theorem cr_maxDef {X : Cx} (hc : X.calm = true) (hu : X.A.units + 64 < cLine) : CallRK X (.builtin "max") [Str.ofString "default"] (rMaxDef X.K) := by
  intro pins s0 σ H xs zs us ws Q J r1 r2 h
  obtain ⟨a, ns, d, rfl, rfl, hs, q0, q1⟩ := h
  obtain ⟨its, rv, hl, hz⟩ := J.list hs
  rw [Vals.ref1 r1]
  cases r2 with
  | @cons _ w0 _ wr rd rt =>
  cases rt
  obtain ⟨as, hr⟩ := Dp.readsAll J (ns.map PyData.int) (ns.map V.int) its (ints_dpA ns) rv
  refine PySem.W.max_list_default (xs := ns.map PyData.int) (J.ok.hd hc) hl.isList (by simpa using hr) ?_ (by rw [ints_depthA]; omega) (fun e h1 tk k => ⟨.int d, H, J.kept (t' := tk) k, rd, q0 (List.map_eq_nil_iff.mp e)⟩) fun y ys i v h1 tk bs e hv _ k => ?_
  · refine ⟨fun x hx z hz2 => ?_, fun x hx => ?_⟩
    · obtain ⟨i, _, rfl⟩ := List.mem_map.mp hx
      obtain ⟨j, _, rfl⟩ := List.mem_map.mp hz2
      simp [PySem.W.alike]
    · obtain ⟨i, _, rfl⟩ := List.mem_map.mp hx
      exact fun z => by cases z
  · have hv2 : its[i]? = some v := by simpa using hv
    have hil : i < its.length := (List.getElem?_eq_some_iff.mp hv2).1
    have hl2 := rv.length
    rw [List.length_map] at hl2
    have en : ns[i]? = some ns[i] := List.getElem?_eq_getElem (by omega)
    obtain ⟨u, hu2, ru⟩ := rv.get (i := i) (x := V.int ns[i]) (by rw [List.getElem?_map, en]; rfl)
    rw [hv2] at hu2
    cases hu2
    exact ⟨.int ns[i], H, J.kept (t' := tk) k, ru, q1 _ (List.mem_of_getElem? en)⟩
/-! ### plain objects; tables -/
def Pl (o : HO) : Prop := (∃ xs, o = .lst xs) ∨ (∃ k, o = .dK k) ∨ ∃ C dx fs, o = .ins C dx fs
theorem tabS_fr {F : Addr → Prop} {H H' : Hp} {P : Addr} {q : Str} (t : TabS H P q) (f : Fr F H H') (h : ∀ a o, F a → H a = some o → Pl o) : TabS H' P q := by
  obtain ⟨ps, h1, h2, h3⟩ := t
  refine ⟨ps, f _ _ h1 fun z => ?_, h2, fun pos cv hc => ?_⟩
  · rcases h _ _ z h1 with ⟨_, e⟩ | ⟨_, e⟩ | ⟨_, _, _, e⟩ <;> cases e
  · obtain ⟨c, e1, e2⟩ := h3 pos cv hc
    refine ⟨c, e1, f _ _ e2 fun z => ?_⟩
    rcases h _ _ z e2 with ⟨_, e⟩ | ⟨_, e⟩ | ⟨_, _, _, e⟩ <;> cases e
theorem Fr.tk {F : Addr → Prop} {H H' : Hp} (f : Fr F H H') (h : ∀ a o, F a → H a = some o → ∀ xs, o ≠ .tup xs) : TK H H' := fun a xs e => f a _ e fun z => h a _ z e xs rfl
/-! ### the whole state -/
def stF (S : ShA) (L : LwA) (ns : List Nat) (a : Addr) : Prop := shF S ns a ∨ lwF L ns a
structure Bun (K : PySem.W.Frag) (g : Nat → PyData) (tb : Addr) (qn : Str) (w : Addr) (H : Hp) (S : ShA) (L : LwA) (G : Gs) (sn : List Nat) : Prop where
  sh : ShAt K g H S G sn
  lw : LwAt g H L G
  wf : WF G
  dj : ∀ a, shF S G.ns a → ¬ lwF L G.ns a
  wl : WellOk H w
  wst : ¬ stF S L G.ns w
  tab : TabS H tb qn
/-- all outside of F stays, but for tables -/
def FrT (F : Addr → Prop) (H H' : Hp) : Prop := ∀ a o, H a = some o → ¬ F a → (∀ ps, o ≠ .tbl ps) → H' a = some o
/-- new, or a table -/
def Nw (H : Hp) (a : Addr) : Prop := ∀ o, H a = some o → ∃ ps, o = .tbl ps
theorem FrT.of {F : Addr → Prop} {H H' : Hp} (f : Fr F H H') : FrT F H H' := fun a o h n _ => f a o h n
theorem FrT.mono {F F' : Addr → Prop} {H H' : Hp} (f : FrT F H H') (h : ∀ a, F a → F' a) : FrT F' H H' := fun a o e n t => f a o e (fun q => n (h a q)) t
theorem FrT.trans {F : Addr → Prop} {H H1 H2 : Hp} (a : FrT F H H1) (b : FrT F H1 H2) : FrT F H H2 := fun x o h n t => b x o (a x o h n t) n t
theorem FrT.fr {F : Addr → Prop} {H H' : Hp} (f : FrT F H H') : Fr (fun a => F a ∨ ∃ ps, H a = some (.tbl ps)) H H' := fun a o h n => f a o h (fun q => n (.inl q)) fun ps z => n (.inr ⟨ps, z ▸ h⟩)
theorem FrT.tk {F : Addr → Prop} {H H' : Hp} (f : FrT F H H') (h : ∀ a o, F a → H a = some o → ∀ xs, o ≠ .tup xs) : TK H H' := fun a xs e => f a _ e (fun z => h a _ z e xs rfl) fun _ z => by cases z
theorem Pl.tbl {o : HO} (h : Pl o) (ps : Array Value) : o ≠ .tbl ps := fun z => by
  subst z
  rcases h with ⟨_, e⟩ | ⟨_, e⟩ | ⟨_, _, _, e⟩ <;> cases e
/-- what may be written: the state, the well -/
def bunF (S : ShA) (L : LwA) (ns : List Nat) (w a : Addr) : Prop := stF S L ns a ∨ a = w
structure BTo (K : PySem.W.Frag) (g : Nat → PyData) (tb : Addr) (qn : Str) (w : Addr) (H : Hp) (S : ShA) (L : LwA) (G : Gs) (H' : Hp) (S' : ShA) (L' : LwA) (G' : Gs) (sn' : List Nat) : Prop where
  at_ : Bun K g tb qn w H' S' L' G' sn'
  p : S'.p = S.p
  e : L'.tw = L.tw ∧ L'.ho = L.ho ∧ L'.gr = L.gr ∧ L'.to = L.to
  fr : FrT (bunF S L G.ns w) H H'
  ft : ∀ a, stF S' L' G'.ns a → stF S L G.ns a ∨ Nw H a
theorem Nw.of {H : Hp} {a : Addr} (h : H a = none) : Nw H a := fun o e => by
  rw [h] at e
  cases e
section
variable {K : PySem.W.Frag} {g : Nat → PyData} {tb w : Addr} {qn : Str} {H H1 H2 : Hp} {S S1 S2 : ShA} {L L1 L2 : LwA} {G G1 G2 : Gs} {sn sn1 sn2 : List Nat}
theorem ShAt.pl (A : ShAt K g H S G sn) {a : Addr} {o : HO} (h : shF S G.ns a) (e : H a = some o) : Pl o := by
  obtain ⟨dx, ob⟩ := A.c.ob
  rcases h with h | h | h | h | h | h | ⟨n, hn, h⟩ <;> subst h
  · rw [ob] at e; cases e; exact .inr (.inr ⟨_, _, _, rfl⟩)
  · rw [A.c.k] at e; cases e; exact .inr (.inl ⟨_, rfl⟩)
  · rw [A.c.tg] at e; cases e; exact .inr (.inl ⟨_, rfl⟩)
  · rw [A.c.a] at e; cases e; exact .inr (.inl ⟨_, rfl⟩)
  · rw [A.c.f] at e; cases e; exact .inr (.inl ⟨_, rfl⟩)
  · rw [A.s] at e; cases e; exact .inl ⟨_, rfl⟩
  · rw [A.al n hn] at e; cases e; exact .inl ⟨_, rfl⟩
theorem LwAt.pl (A : LwAt g H L G) {a : Addr} {o : HO} (h : lwF L G.ns a) (e : H a = some o) : Pl o := by
  rcases h with h | h | h | h | ⟨n, hn, h⟩ <;> subst h
  · rw [A.tw] at e; cases e; exact .inr (.inl ⟨_, rfl⟩)
  · rw [A.ho] at e; cases e; exact .inr (.inl ⟨_, rfl⟩)
  · obtain ⟨gs, h1, _⟩ := A.gr
    rw [h1] at e; cases e; exact .inl ⟨_, rfl⟩
  · rw [A.to] at e; cases e; exact .inl ⟨_, rfl⟩
  · obtain ⟨_, xs, h1, _⟩ := A.kd n hn
    rw [h1] at e; cases e; exact .inl ⟨_, rfl⟩
theorem LwAt.there (A : LwAt g H L G) {a : Addr} (h : lwF L G.ns a) : ∃ o, H a = some o := by
  rcases h with h | h | h | h | ⟨n, hn, h⟩ <;> subst h
  · exact ⟨_, A.tw⟩
  · exact ⟨_, A.ho⟩
  · obtain ⟨gs, h1, _⟩ := A.gr
    exact ⟨_, h1⟩
  · exact ⟨_, A.to⟩
  · obtain ⟨_, xs, h1, _⟩ := A.kd n hn
    exact ⟨_, h1⟩
theorem Bun.there (B : Bun K g tb qn w H S L G sn) {a : Addr} (h : stF S L G.ns a) : ∃ o, H a = some o := by
  rcases h with h | h
  · obtain ⟨o, ho, _⟩ := B.sh.some_ h
    exact ⟨o, ho⟩
  · exact B.lw.there h
theorem Bun.plB (B : Bun K g tb qn w H S L G sn) {a : Addr} {o : HO} (h : stF S L G.ns a) (e : H a = some o) : Pl o := h.elim (fun h => B.sh.pl h e) fun h => B.lw.pl h e
theorem Pl.tup {o : HO} (h : Pl o) (xs : List V) : o ≠ .tup xs := fun z => by
  subst z
  rcases h with ⟨_, e⟩ | ⟨_, e⟩ | ⟨_, _, _, e⟩ <;> cases e
theorem WellOk.pl (h : WellOk H w) {o : HO} (e : H w = some o) : Pl o := by
  obtain ⟨a, b, c, d, e2, _⟩ := h
  rw [e2] at e
  cases e
  exact .inl ⟨_, rfl⟩
theorem Bun.same (B : Bun K g tb qn w H S L G sn) (s : Same H H1) : Bun K g tb qn w H1 S L G sn :=
  ⟨B.sh.same s, B.lw.same s, B.wf, B.dj, B.wl.same s, B.wst, B.tab.ext s⟩
/-- something beside happens -/
theorem Bun.away {F : Addr → Prop} (B : Bun K g tb qn w H S L G sn) (f : Fr F H H1) (tk : TK H H1) (tab : TabS H1 tb qn) (hF : ∀ a, stF S L G.ns a → ¬ F a) (hw : ¬ F w) : Bun K g tb qn w H1 S L G sn := by
  obtain ⟨a, b, c, d, e, r⟩ := B.wl
  exact ⟨B.sh.away f tk fun a h => hF a (.inl h), B.lw.away f tk fun a h => hF a (.inr h), B.wf, B.dj, ⟨a, b, c, d, f _ _ e hw, r⟩, B.wst, tab⟩
/-- something is pulled -/
theorem Bun.pull (B : Bun K g tb qn w H S L G sn) (f : Fr (fun a => a = w) H H1) (W : WellOk H1 w) : Bun K g tb qn w H1 S L G sn := by
  have tk := B.wl.tk f
  refine ⟨B.sh.away f tk fun a h z => B.wst (.inl (z ▸ h)), B.lw.away f tk fun a h z => B.wst (.inr (z ▸ h)), B.wf, B.dj, W, B.wst, tabS_fr B.tab f fun a o h e => ?_⟩
  subst h
  exact B.wl.pl e
theorem BTo.pull (B : Bun K g tb qn w H S L G sn) (f : Fr (fun a => a = w) H H1) (W : WellOk H1 w) : BTo K g tb qn w H S L G H1 S L G sn :=
  ⟨B.pull f W, rfl, ⟨rfl, rfl, rfl, rfl⟩, (FrT.of f).mono fun a h => .inr h, fun a h => .inl h⟩
theorem BTo.same (B : Bun K g tb qn w H S L G sn) (s : Same H H1) : BTo K g tb qn w H S L G H1 S L G sn :=
  ⟨B.same s, rfl, ⟨rfl, rfl, rfl, rfl⟩, FrT.of (Fr.same s), fun a h => .inl h⟩
theorem BTo.trans (a : BTo K g tb qn w H S L G H1 S1 L1 G1 sn1) (b : BTo K g tb qn w H1 S1 L1 G1 H2 S2 L2 G2 sn2) : BTo K g tb qn w H S L G H2 S2 L2 G2 sn2 := by
  refine ⟨b.at_, b.p.trans a.p, ⟨b.e.1.trans a.e.1, b.e.2.1.trans a.e.2.1, b.e.2.2.1.trans a.e.2.2.1, b.e.2.2.2.trans a.e.2.2.2⟩, fun x o hx hn ht => b.fr x o (a.fr x o hx hn ht) (fun z => ?_) ht, fun x hx => ?_⟩
  · rcases z with z | z
    · rcases a.ft x z with e | e
      · exact hn (.inl e)
      · obtain ⟨ps, q⟩ := e o hx
        exact ht ps q
    · exact hn (.inr z)
  · by_cases q : bunF S L G.ns w x
    · rcases q with q | q
      · exact .inl q
      · subst q
        exact absurd hx b.at_.wst
    · rcases b.ft x hx with e | e
      · exact a.ft x e
      · refine .inr fun o ho => Classical.byContradiction fun z => z ?_
        exact e o (a.fr x o ho q fun ps y => z ⟨ps, y⟩)
/-- a new object is none of the state -/
theorem Bun.new (B : Bun K g tb qn w H S L G sn) {q : Addr} (h : H q = none) : ¬ stF S L G.ns q ∧ q ≠ w ∧ q ≠ tb := by
  refine ⟨fun z => ?_, fun z => ?_, fun z => ?_⟩
  · obtain ⟨o, ho⟩ := B.there z
    rw [h] at ho
    cases ho
  · obtain ⟨_, _, _, _, e, _⟩ := B.wl
    rw [← z, h] at e
    cases e
  · obtain ⟨ps, e, _⟩ := B.tab
    rw [← z, h] at e
    cases e
/-- the shelf changes, the law's own stays -/
theorem Bun.shelf (B : Bun K g tb qn w H S L G sn) (Z : ShTo K g H S G H1 S1 G1 sn1) (lw : LwAt g H1 L1 G1) (wf : WF G1) (e : L1.tw = L.tw ∧ L1.ho = L.ho ∧ L1.gr = L.gr ∧ L1.to = L.to) (hl : ∀ a, lwF L1 G1.ns a → lwF L G.ns a) : BTo K g tb qn w H S L G H1 S1 L1 G1 sn1 := by
  have pl : ∀ a o, shF S G.ns a → H a = some o → Pl o := fun a o h e => B.sh.pl h e
  refine ⟨⟨Z.at_, lw, wf, fun a h z => ?_, ?_, fun z => ?_, tabS_fr B.tab Z.fr pl⟩, Z.p, e, (FrT.of Z.fr).mono fun a h => .inl (.inl h), fun a h => ?_⟩
  · rcases Z.ft a h with q | q
    · exact B.dj a q (hl a z)
    · obtain ⟨o, ho⟩ := B.lw.there (hl a z)
      rw [q] at ho
      cases ho
  · obtain ⟨a, b, c, d, e2, r⟩ := B.wl
    exact ⟨a, b, c, d, Z.fr _ _ e2 fun z => B.wst (.inl z), r⟩
  · rcases z with z | z
    · rcases Z.ft w z with q | q
      · exact B.wst (.inl q)
      · obtain ⟨_, _, _, _, e2, _⟩ := B.wl
        rw [e2] at q
        cases q
    · exact B.wst (.inr (hl w z))
  · rcases h with h | h
    · exact (Z.ft a h).imp (.inl) Nw.of
    · exact .inl (.inr (hl a h))
end
end Tw

set_option Elab.async false
set_option linter.all false
set_option maxRecDepth 100000
set_option maxHeartbeats 4000000
/-! The law: a leaf is put. -/
namespace Tw
open PySem PySem.Spec PyProof.Rows L2 LamX
open He (ga ma)
theorem Fr.free_w {F : Addr → Prop} {H H1 : Hp} {q : Addr} (f : Fr F H H1) (h : ∀ a, F a → ∃ o, H1 a = some o) (e : H1 q = none) : H q = none := by
  cases hq : H q with
  | none => rfl
  | some o =>
    by_cases z : F q
    · obtain ⟨o, ho⟩ := h q z
      rw [ho] at e
      cases e
    · rw [f q o hq z] at e
      cases e
section
variable {K : PySem.W.Frag} {g : Nat → PyData} {tb w : Addr} {qn : Str} {H0 H H1 H2 H3 : Hp} {S S1 S2 : ShA} {L L1 L2 : LwA} {G G1 G2 : Gs} {sn sn1 sn2 : List Nat} {t : Twg} {l : Lb} {h' : Nat → Int} {q t0 : Addr}
theorem LwAt.congr (A : LwAt g H L G) (e1 : G1.ns = G.ns) (e2 : ∀ n ∈ G.ns, G1.t n = G.t n ∧ G1.h n = G.h n) (e3 : G1.nx = G.nx) : LwAt g H L G1 := by
  refine ⟨?_, ?_, A.gr, ?_, fun n hn => ?_, A.th, A.gt, fun n hn => ?_, by rw [e3]; exact A.nz⟩
  · rw [e1]
    exact A.tw
  · rw [e1, dM_congr (F := fun n => .int (G1.h n)) (F' := fun n => .int (G.h n)) fun n hn => by rw [(e2 n hn).2]]
    exact A.ho
  · rw [e3]
    exact A.to
  · rw [e1] at hn
    rw [(e2 n hn).1]
    exact A.kd n hn
  · rw [e1] at hn
    exact A.wt n hn
/-- a new twig in the law's own -/
theorem LwAt.add (A : LwAt g H L G) (lt : ∀ n ∈ G.ns, n < G.nx) (hnx : G.nx + 1 ≤ 900) (fr : Fr (fun a => a = L.tw ∨ a = L.ho ∨ a = L.to) H H1)
    (tw : H1 L.tw = some (.dK (dM (G.ns ++ [G.nx]) fun n => .ref (setF L.tv G.nx t0 n)))) (ho : H1 L.ho = some (.dK (dM (G.ns ++ [G.nx]) fun n => .int (h' n)))) (to : H1 L.to = some (.lst ((List.range (G.nx + 1)).map iV)))
    (ht : H1 t0 = some (.tup [.str (kindS t), .ref q])) (hq : ∃ xs, H1 q = some (.lst xs) ∧ TpA H1 xs (whatD g t)) (hqt : q ≠ L.to) (hL : ∀ n ∈ G.ns, L.wh n ≠ L.to) : LwAt g H1 { L with tv := setF L.tv G.nx t0, wh := setF L.wh G.nx q } { addT G t l with h := h' } := by
  have nx : G.nx ∉ G.ns := fun q => Nat.lt_irrefl _ (lt _ q)
  have tk : TK H H1 := fr.tk fun a o h e xs z => by
    subst z
    rcases h with h | h | h <;> subst h
    · rw [A.tw] at e; cases e
    · rw [A.ho] at e; cases e
    · rw [A.to] at e; cases e
  obtain ⟨gs, g1, g2⟩ := A.gr
  refine ⟨tw, ho, ⟨gs, fr _ _ g1 fun z => ?_, g2.mono tk _ _⟩, to, fun n hn => ?_, A.th, A.gt, fun n hn => ?_, hnx⟩
  · rcases z with z | z | z
    · rw [z, A.tw] at g1; cases g1
    · rw [z, A.ho] at g1; cases g1
    · exact A.gt z
  · show H1 (setF L.tv G.nx t0 n) = some (.tup [.str (kindS (setF G.t G.nx t n)), .ref (setF L.wh G.nx q n)]) ∧ ∃ xs, H1 (setF L.wh G.nx q n) = some (.lst xs) ∧ TpA H1 xs (whatD g (setF G.t G.nx t n))
    rcases List.mem_append.mp hn with hn | hn
    · have e : n ≠ G.nx := fun z => nx (z ▸ hn)
      rw [setF_ne e, setF_ne e, setF_ne e]
      obtain ⟨k1, xs, k2, k3⟩ := A.kd n hn
      refine ⟨tk _ _ k1, xs, fr _ _ k2 fun z => ?_, k3.mono tk _ _⟩
      rcases z with z | z | z
      · rw [z, A.tw] at k2; cases k2
      · rw [z, A.ho] at k2; cases k2
      · exact A.wt n hn z
    · rw [List.mem_singleton.mp hn, setF_same, setF_same, setF_same]
      exact ⟨ht, hq⟩
  · show setF L.wh G.nx q n ≠ L.to
    rcases List.mem_append.mp hn with hn | hn
    · rw [setF_ne fun z => nx (by rw [← z]; exact hn)]
      exact A.wt n hn
    · rw [List.mem_singleton.mp hn, setF_same]
      exact hqt
/-- shelf and law change -/
theorem Bun.both (Y : Addr → Prop) (hY : ∀ a, Y a → H0 a = none ∧ ∃ o, H1 a = some o ∧ Pl o) (B : Bun K g tb qn w H0 S L G sn) (f01 : FrT (fun a => a = w) H0 H1) (W1 : WellOk H1 w) (T1 : TabS H1 tb qn) (Z : ShTo K g H1 S G H2 S1 G1 sn1) (f : Fr (fun a => (a = L.tw ∨ a = L.ho ∨ a = L.to) ∨ Y a) H2 H3) (lw : LwAt g H3 L1 G1) (wf : WF G1)
    (e : L1.tw = L.tw ∧ L1.ho = L.ho ∧ L1.gr = L.gr ∧ L1.to = L.to) (hl : ∀ a, lwF L1 G1.ns a → lwF L G.ns a ∨ (H0 a = none ∧ ∃ o, H1 a = some o ∧ Pl o)) : BTo K g tb qn w H0 S L G H3 S1 L1 G1 sn1 := by
  have k01 : ∀ a o, stF S L G.ns a → H0 a = some o → H1 a = some o := fun a o h ea => f01 a o ea (fun z => B.wst (z ▸ h)) (B.plB h ea).tbl
  have kl : ∀ a o, lwF L G.ns a → H0 a = some o → H2 a = some o := fun a o h ea => Z.fr a o (k01 a o (.inr h) ea) fun z => B.dj a z h
  have hw2 : ∀ o, H1 w = some o → H2 w = some o := fun o h => Z.fr w o h fun z => B.wst (.inl z)
  have three : ∀ a, (a = L.tw ∨ a = L.ho ∨ a = L.to) → lwF L G.ns a := fun a h => h.elim .inl fun h => h.elim (fun h => .inr (.inl h)) fun h => .inr (.inr (.inr (.inl h)))
  have wn : ∀ a, lwF L G.ns a → a ≠ w := fun a h z => B.wst (.inr (z ▸ h))
  have yS : ∀ a, Y a → ¬ stF S L G.ns a := fun a h z => by
    obtain ⟨o, ho⟩ := B.there z
    rw [(hY a h).1] at ho
    cases ho
  have nf : ∀ a, shF S1 G1.ns a → ¬ ((a = L.tw ∨ a = L.ho ∨ a = L.to) ∨ Y a) := fun a h z => by
    rcases z with z | z
    · rcases Z.ft a h with q | q
      · exact B.dj a q (three a z)
      · obtain ⟨o, ho⟩ := B.lw.there (three a z)
        rw [k01 a o (.inr (three a z)) ho] at q
        cases q
    · rcases Z.ft a h with q | q
      · exact yS a z (.inl q)
      · obtain ⟨o, ho, _⟩ := (hY a z).2
        rw [ho] at q
        cases q
  have pl3 : ∀ a o, ((a = L.tw ∨ a = L.ho ∨ a = L.to) ∨ Y a) → H2 a = some o → Pl o := fun a o h e => by
    rcases h with h | h
    · obtain ⟨o', ho⟩ := B.lw.there (three a h)
      have := kl a o' (three a h) ho
      rw [this] at e
      cases e
      exact B.lw.pl (three a h) ho
    · obtain ⟨o', ho, hp⟩ := (hY a h).2
      rw [Z.fr a o' ho fun z => yS a h (.inl z)] at e
      cases e
      exact hp
  have wy : ¬ Y w := fun z => by
    obtain ⟨_, _, _, _, ew, _⟩ := B.wl
    rw [(hY w z).1] at ew
    cases ew
  have tk23 : TK H2 H3 := f.tk fun a o h e xs => (pl3 a o h e).tup xs
  obtain ⟨a1, a2, a3, a4, a5, a6⟩ := W1
  have there0 : ∀ a, stF S L G.ns a → ∃ o, H0 a = some o := fun a h => B.there h
  have full01 : ∀ a, H1 a = none → ¬ stF S L G.ns a → Nw H0 a := fun a h n o ho => Classical.byContradiction fun z => by
    by_cases y : a = w
    · subst y
      rw [a5] at h
      cases h
    · rw [f01 a o ho y fun ps q => z ⟨ps, q⟩] at h
      cases h
  refine ⟨⟨Z.at_.away f tk23 nf, lw, wf, fun a h z => ?_, ⟨a1, a2, a3, a4, f _ _ (hw2 _ a5) fun z => z.elim (fun z => wn w (three w z) rfl) wy, a6⟩, fun z => ?_, tabS_fr (tabS_fr T1 Z.fr fun a o h e => ?_) f pl3⟩, Z.p, e, fun a o ha hn ht => ?_, fun a h => ?_⟩
  · rcases Z.ft a h with q | q
    · rcases hl a z with z | ⟨z, _⟩
      · exact B.dj a q z
      · obtain ⟨o, ho⟩ := there0 a (.inl q)
        rw [z] at ho
        cases ho
    · rcases hl a z with z | ⟨_, o, z, _⟩
      · obtain ⟨o, ho⟩ := there0 a (.inr z)
        rw [k01 a o (.inr z) ho] at q
        cases q
      · rw [z] at q
        cases q
  · rcases z with z | z
    · rcases Z.ft w z with q | q
      · exact B.wst (.inl q)
      · rw [a5] at q
        cases q
    · rcases hl w z with z | ⟨z, _⟩
      · exact B.wst (.inr z)
      · obtain ⟨_, _, _, _, ew, _⟩ := B.wl
        rw [ew] at z
        cases z
  · obtain ⟨o', ho⟩ := there0 a (.inl h)
    have := k01 a o' (.inl h) ho
    rw [this] at e
    cases e
    exact B.sh.pl h ho
  · exact f a o (Z.fr a o (f01 a o ha (fun z => hn (.inr z)) ht) fun z => hn (.inl (.inl z))) fun z => z.elim (fun z => hn (.inl (.inr (three a z)))) fun z => by rw [(hY a z).1] at ha; cases ha
  · rcases h with h | h
    · rcases Z.ft a h with q | q
      · exact .inl (.inl q)
      · by_cases y : stF S L G.ns a
        · exact .inl y
        · exact .inr (full01 a q y)
    · rcases hl a h with z | ⟨z, _⟩
      · exact .inl (.inr z)
      · exact .inr (Nw.of z)
end
def spLeafRows : Sp := fun vs H Q _ => ∃ (g : Nat → PyData) (w gr : Addr) (gs : List V) (b : Nat), vs = [.ref w, .ref gr, iV b] ∧ WellOk H w ∧ H gr = some (.lst gs) ∧ TpA H gs ((List.range 64).map g) ∧ GridOk g ∧ b < 16 ∧ gr ≠ w ∧
  ∀ q xs rows H', Fr (fun a => a = w) H H' → WellOk H' w → H q = none → H' q = some (.lst xs) → TpA H' xs (rows.map (rowD g)) → RowsOk rows → Q (.ref q) H'
def stT (S : ShA) (L : LwA) : List V := [.ref S.p, .ref L.tw, .ref L.ho, .ref L.gr, .ref L.to]
def spLawPutLeaf (K : PySem.W.Frag) (tb : Addr) (qn : Str) : Sp := fun vs H Q _ => ∃ g w sa S L G sn b, vs = [.ref w, .ref sa, iV b] ∧ H sa = some (.tup (stT S L)) ∧ Bun K g tb qn w H S L G sn ∧ GridOk g ∧ b < 16 ∧ G.nx < 890 ∧
  ∀ H' S' L' G', BTo K g tb qn w H S L G H' S' L' G' sn → G'.nx = G.nx + 1 → G'.ns ≠ [] → Q (.bl true) H'
theorem g5 {K : PySem.W.Frag} {σ : L2.St} {H : Hp} {a : Addr} {v1 v2 v3 v4 v5 : V} {i1 i2 i3 i4 i5 : Nat} {R : L2.St → Hp → Prop} (ha : H a = some (.tup [v1, v2, v3, v4, v5])) (k : R (((((σ.set i1 (some v1)).set i2 (some v2)).set i3 (some v3)).set i4 (some v4)).set i5 (some v5)) H) :
    gTup K 5 (gCons (gName i1) (gCons (gName i2) (gCons (gName i3) (gCons (gName i4) (gCons (gName i5) gNil))))) (.ref a) σ H R :=
  ⟨a, _, rfl, SqT.of ha, rfl, v1, _, rfl, v2, _, rfl, v3, _, rfl, v4, _, rfl, v5, _, rfl, rfl, k⟩
theorem wp_methW1 {σ : L2.St} {H : Hp} {ta t1 : TE} {a C dx : Addr} {fs : List (Str × V)} {m : Str} {sp : Sp} {E : XK} {Q : VK} (h : At ta σ H (.ref a)) (hi : H a = some (.ins C dx fs)) (hl : fs.lookup m = none) (h2 : t1 σ H fun x H1 => sp [.ref a, x] H1 Q E) : tMeth C m sp [] E ta (tCons t1 tNil) σ H Q :=
  h _ ⟨a, dx, fs, rfl, hi, hl, h2⟩
theorem max_at {K : PySem.W.Frag} {σ : L2.St} {H : Hp} {t4 t9 tn : TE} {a : Addr} {nx : Nat} (h4 : At t4 σ H (iV nx)) (h9 : At t9 σ H (.ref a)) (hn : At tn σ H (.int (-1))) (h : H a = some (.lst ((List.range nx).map iV))) :
    AtT (tTest (tOp (rI0 fun i j => .bl (decide (i ≤ j))) t4 (tCKw (rMaxDef K) (tCons t9 tNil) (tCons tn tNil)))) σ H false := fun Q q =>
  h4 _ (h9 _ (hn _ ⟨a, (List.range nx).map fun (n : Nat) => (n : Int), -1, rfl, rfl, by rw [← ns_int]; exact SqL.of h, fun _ => ⟨_, _, rfl, rfl, _, rfl, by rw [decF (by omega)]; exact q⟩, fun m hm => ⟨_, _, rfl, rfl, _, rfl, by
    obtain ⟨n, hn, rfl⟩ := List.mem_map.mp hm
    have := List.mem_range.mp hn
    rw [decF (by omega)]
    exact q⟩⟩))
theorem range_snoc (n : Nat) : (List.range n).map iV ++ [iV n] = (List.range (n + 1)).map iV := by
  rw [List.range_succ, List.map_append]
  rfl
theorem at_op2 {σ : L2.St} {H : Hp} {ta tb : TE} {r : R2} {x z : V} (ha : At ta σ H x) (h : ∀ Q : VK, Q z H → tb σ H fun y H1 => r x y H1 Q) : At (tOp r ta tb) σ H z := fun Q q => ha _ (h Q q)
section
variable {P : Program} {w : World} {K : PySem.W.Frag} {mg : Str → Option Value} {base : Heap}
theorem sc__law_put_leaf : FnScope ["_law_well_here", "_law_state", "_law_block", "_law_rows", "_law_number", "_law_shelf", "_law_twigs", "_law_holds", "_law_grid_here", "_law_told"] ["_law_well_here", "_law_state", "_law_block"] (defScope (top 50)) := ⟨rfl, rfl, rfl, by decide +kernel, rfl, by decide +kernel, by decide +kernel⟩
theorem ok__law_put_leaf (T : TX K mg) {tb : Addr} {qn : Str} (F : Fd K "_law_put_leaf" "_law_put_leaf" (top 50) (ga K "_law_put_leaf")) (G__law_leaf_rows : OkF P w K mg base CX0 2 (ga K "_law_leaf_rows") ["_law_well_here", "_law_grid_here", "_law_block"] spLeafRows)
    (G_put_leaf : OkM P w K mg base CX0 (ga K "Shelf") "put_leaf" 9 (ma K (ga K "Shelf") "put_leaf") ["self", "rows"] (spPutLeaf K)) : OkF P w K mg base CX0 10 (ga K "_law_put_leaf") ["_law_well_here", "_law_state", "_law_block"] (spLawPutLeaf K tb qn) := by
  refine mkOk F sc__law_put_leaf (fun vs H Q E h => ?_) (fun _ _ _ _ _ _ us hl => match us, hl with | [_, _, _], _ => rfl) (fun cdv A outer s H vs Q E hr h => ?_)
  · obtain ⟨g, wl, sa, S, L, G, sn, b, rfl, _⟩ := h
    rfl
  · obtain ⟨g, wl, sa, S, L, G, sn, b, rfl, hsa, B, GO, hb, hnx, k⟩ := h
    have hu := hu_of hr
    have nd := sc__law_put_leaf.nd
    refine ⟨_, (pss_cons (ps_asg (pv 1) (pg_tup rfl (pgs_cons (pg_name (i := 5) nd rfl (by first | exact Or.inl rfl | exact Or.inr rfl)) (pgs_cons (pg_name (i := 6) nd rfl (by first | exact Or.inl rfl | exact Or.inr rfl)) (pgs_cons (pg_name (i := 7) nd rfl (by first | exact Or.inl rfl | exact Or.inr rfl)) (pgs_cons (pg_name (i := 8) nd rfl (by first | exact Or.inl rfl | exact Or.inr rfl)) (pgs_cons (pg_name (i := 9) nd rfl (by first | exact Or.inl rfl | exact Or.inr rfl)) pgs_nil)))))))
      (pss_cons (ps_set (i := 3) nd rfl (by first | exact Or.inl rfl | exact Or.inr rfl) (pe_c G__law_leaf_rows (hr.mono (by decide)) rfl T.g__law_leaf_rows (pa_cons (pv 0) (pa_cons (pv 8) (pa_cons (pv 2) pa_nil)))))
      (pss_cons (ps_set (i := 4) nd rfl (by first | exact Or.inl rfl | exact Or.inr rfl) (pe_m (pv 5) T.cl G_put_leaf (hr.mono (by decide)) (pa_cons (pe_callTy (call_list_of) rfl T.f_list bt_list (pa_cons (pv 3) pa_nil)) pa_nil)))
      (pss_cons (ps_if (PW.pt (pw_or (pt_not (pt_val (pe_callB (call_isi) rfl T.f_isinstance bt_isinstance (pa_cons (pv 4) (pa_cons (pe_bltn rfl T.f_int bt_int (v := .ty "int") rfl) pa_nil))))) (pw_or (pt_val (pe_callB (call_isi) rfl T.f_isinstance bt_isinstance (pa_cons (pv 4) (pa_cons (pe_bltn rfl T.f_bool bt_bool (v := .ty "bool") rfl) pa_nil)))) (pw_or1 (pt_cmpR op_le (pv 4) (pe_callBK (cr_maxDef rfl hr.units) rfl T.f_max bt_max (pa_cons (pv 9) pa_nil) (pk_cons (pe_un un_neg pe_int) pk_nil)) (nomark _)))))) (pss_one (ps_ret pe_bl)) pss_nil)
      (pss_cons (ps_expr (pe_bm PySem.F.plainAttrs_list PySem.F.slot_list_append PySem.F.type_list_append (mt_append) (pv 9) (pa_cons (pv 4) pa_nil)))
      (pss_cons (ps_dput hu (pv 6) (pv 4) (pe_tup (pa_cons pe_str (pa_cons (pv 3) pa_nil))) rfl)
      (pss_cons (ps_dput hu (pv 7) (pv 4) pe_int rfl)
      (pss_one (ps_ret pe_bl))))))))), ?_⟩
    refine sq_asg (at_then (at_var rfl) (g5 hsa ?_))
    obtain ⟨gs, hgr, hgs⟩ := B.lw.gr
    refine sq_as (wp_call (ata_cons (at_var rfl) (ata_cons (at_var rfl) (ata_cons (at_var rfl) ata_nil))) ⟨g, wl, L.gr, gs, b, rfl, B.wl, hgr, hgs, GO, hb, (fun z => B.wst (.inr (.inr (.inr (.inl z.symm))))), fun q xs rows H1 f1 W1 hq hq1 hxs RO => ?_⟩)
    have B1 := B.pull f1 W1
    obtain ⟨nq1, nq2, nq3⟩ := B.new hq
    obtain ⟨dx1, ob1⟩ := B1.sh.c.ob
    refine sq_as (wp_methW1 (at_var rfl) ob1 rfl (cb1 (at_then (at_var rfl) ⟨q, xs, rfl, .inl (SqL.of hq1), fun r hr2 => ?_⟩)))
    have s2 := same_new (o := .lst xs) hr2
    have B2 := B1.same s2
    have hq2 := s2 _ _ hq1
    have hx2 := hxs.sm s2
    have f02 : FrT (fun a => a = wl) H (upd H1 r (.lst xs)) := FrT.of (f1.trans (Fr.same s2))
    refine ⟨g, S, G, sn, r, xs, rows, rfl, B2.sh, upd_same, hx2, RO, GO, B.wf.lt, by have := B.wf.len; omega, fun S' H3 Z => ?_⟩
    generalize upd H1 r (.lst xs) = H2 at s2 B2 hq2 hx2 f02 Z
    have A3 := B2.lw.away Z.fr (B2.sh.tk Z.fr) fun a h z => B.dj a z h
    have nx : G.nx ∉ G.ns := fun q => Nat.lt_irrefl _ (B.wf.lt _ q)
    have hz : G.ns.length ≤ 1000 := by have := B.wf.len; omega
    have hq3 := Z.fr _ _ hq2 fun z => nq1 (.inl z)
    have hx3 := hx2.mono (B2.sh.tk Z.fr) _ _
    refine sq_Fn (att_orF (att_nT (att_B (at_isi (ata_cons (at_var rfl) (ata_cons at_c ata_nil)) (Tp.int (H := H3) _).ty kb_int_int))) (att_orF (att_B (at_isi (ata_cons (at_var rfl) (ata_cons at_c ata_nil)) (Tp.int (H := H3) _).ty kb_int_bool)) (max_at (at_var rfl) (at_var rfl) (at_U at_c rfl) A3.to))) ?_
    refine sq_app (at_var rfl) A3.to (at_var rfl) (by rw [List.length_map, List.length_range]; omega) ?_
    rw [range_snoc]
    have f4 : Fr (fun a => a = L.tw ∨ a = L.ho ∨ a = L.to) H3 (upd H3 L.to (.lst ((List.range (G.nx + 1)).map iV))) := Fr.upd (.inr (.inr rfl))
    have pl : ∀ a o, (a = L.tw ∨ a = L.ho ∨ a = L.to) → H3 a = some o → ∀ ys, o ≠ .tup ys := fun a o h e ys z => by
      subst z
      rcases h with h | h | h <;> subst h
      · rw [A3.tw] at e; cases e
      · rw [A3.ho] at e; cases e
      · rw [A3.to] at e; cases e
    have twt : L.tw ≠ L.to := ne_of A3.tw A3.to (by intro z; cases z)
    have hot : L.ho ≠ L.to := ne_of A3.ho A3.to (by intro z; cases z)
    have q3 : ¬ (q = L.tw ∨ q = L.ho ∨ q = L.to) := fun z => nq1 (.inr (z.elim .inl fun z => z.elim (fun z => .inr (.inl z)) fun z => .inr (.inr (.inr (.inl z)))))
    have hto4 : upd H3 L.to (.lst ((List.range (G.nx + 1)).map iV)) L.to = some (.lst ((List.range (G.nx + 1)).map iV)) := upd_same
    have htw4 : upd H3 L.to (.lst ((List.range (G.nx + 1)).map iV)) L.tw = some (.dK (dM G.ns fun n => .ref (L.tv n))) := by rw [upd_ne twt]; exact A3.tw
    have hho4 : upd H3 L.to (.lst ((List.range (G.nx + 1)).map iV)) L.ho = some (.dK (dM G.ns fun n => .int (G.h n))) := by rw [upd_ne hot]; exact A3.ho
    generalize upd H3 L.to (.lst ((List.range (G.nx + 1)).map iV)) = H4 at f4 hto4 htw4 hho4 ⊢
    refine sq_dp (tup_ (vs := [.str "leaf", .ref q]) (ata_cons at_c (ata_cons (at_var rfl) ata_nil)) z2 fun t0 ht0 => ?_)
    have s5 := same_new (o := .tup [.str "leaf", .ref q]) ht0
    have ht5 : upd H4 t0 (.tup [.str "leaf", .ref q]) t0 = some (.tup [.str "leaf", .ref q]) := upd_same
    have f5 := f4.trans (Fr.same s5)
    have hto5 := s5 _ _ hto4
    have htw5 := s5 _ _ htw4
    have hho5 := s5 _ _ hho4
    generalize upd H4 t0 (.tup [.str "leaf", .ref q]) = H5 at f5 ht5 hto5 htw5 hho5 ⊢
    refine dpk (at_var rfl) (at_var rfl) (dput_new htw5 nx hz) ?_
    rw [setF_ref]
    refine sq_dput at_c (at_var rfl) (at_var rfl) (dput_new (F := fun n => .int (G.h n)) (by rw [upd_ne B.lw.th.symm]; exact hho5) nx hz) ?_
    rw [setF_int]
    have f7 := f5.trans ((Fr.upd (H := H5) (p := L.tw) (o := .dK (dM (G.ns ++ [G.nx]) fun n => .ref (setF L.tv G.nx t0 n))) (.inl rfl)).trans (Fr.upd (p := L.ho) (o := .dK (dM (G.ns ++ [G.nx]) fun n => .int (setF G.h G.nx 1 n))) (.inr (.inl rfl))))
    have tk7 := f7.tk pl
    have lw := A3.add (t := .leaf rows) (l := labR rows) (h' := setF G.h G.nx 1) (q := q) (t0 := t0) B.wf.lt (by omega) f7 (by rw [upd_ne B.lw.th, upd_same]) upd_same (by rw [upd_ne hot.symm, upd_ne twt.symm]; exact hto5)
      (by rw [upd_ne (ne_of ht5 hho5 (by intro z; cases z)), upd_ne (ne_of ht5 htw5 (by intro z; cases z))]; exact ht5) ⟨xs, f7 _ _ hq3 q3, hx3.mono tk7 _ _⟩ (fun z => q3 (.inr (.inr z))) B.lw.wt
    refine st_ret at_c (k _ S' _ _ (B.both (fun _ => False) (fun _ h => h.elim) f02 (W1.same s2) B2.tab Z (f7.mono fun _ h => .inl h) lw (wf_addLeaf B.wf RO) ⟨rfl, rfl, rfl, rfl⟩ fun a h => ?_) rfl (by show G.ns ++ [G.nx] ≠ []; simp))
    rcases h with h | h | h | h | ⟨n, hn, h⟩
    · exact .inl (.inl h)
    · exact .inl (.inr (.inl h))
    · exact .inl (.inr (.inr (.inl h)))
    · exact .inl (.inr (.inr (.inr (.inl h))))
    · have h : a = setF L.wh G.nx q n := h
      rcases List.mem_append.mp hn with hn | hn
      · rw [setF_ne fun z => nx (by rw [← z]; exact hn)] at h
        exact .inl (.inr (.inr (.inr (.inr ⟨n, hn, h⟩))))
      · rw [List.mem_singleton.mp hn, setF_same] at h
        subst h
        exact .inr ⟨hq, _, hq2, .inl ⟨_, rfl⟩⟩
end
end Tw

set_option Elab.async false
set_option linter.all false
set_option maxRecDepth 100000
set_option maxHeartbeats 4000000
/-! The law: a stem is put. -/
namespace Tw
open PySem PySem.Spec PyProof.Rows L2 LamX
open He (ga ma)
section
variable {P : Program} {w : World} {K : PySem.W.Frag} {mg : Str → Option Value} {base : Heap}
/-- as mkOk; the def's code is known -/
theorem mkOkC {x q : Str} {st : Stmt} {N ps : List Str} {k : Nat} {sp : Sp} (F : Fd K x q st (ga K x)) (S : FnScope N ps (defScope st)) (len : ∀ vs H Q E, sp vs H Q E → vs.length = ps.length)
    (hb : ∀ (kV doc pm : Value) (an : Option Addr) (cdv ct : Value) (us : List Value), us.length = ps.length → bindArgs (PySem.W.fnOf x q (defArgs st) (defBody st) (defScope st) .none kV doc pm an cdv ct) ⟨us, []⟩ = pure (ps.zip us))
    (body : ∀ (cdv : Value) (A : Around) (outer : List Env) (s : Shared) (H : Hp) (vs : List V) (Q : VK) (E : XK), cdv = .ref (He.codeOf K (x, none)) → Room k (A.deeper (envOfC q (defScope st) s.heap.objs.size (ga K x) cdv)) → sp vs H Q E →
      ∃ t, PSs (cxOf CX0 P w K mg base N q (defScope st) (ga K x) cdv A outer s H E).nox (defBody st) t ∧ t { nx := fun _ H' => Q .non H', rt := Q } (start N vs) H) : OkF P w K mg base CX0 (k + 1) (ga K x) ps sp := by
  obtain ⟨fd, G⟩ := F
  have bA := G.bindsN hb
  obtain ⟨oc, od, dV, kV, doc, pm, an, cdv, ct, osl, e, lk, hcd, _, _⟩ := G.ex
  obtain ⟨c, ec⟩ := He.codeIn_ref hcd
  subst e
  have hc : He.codeOf K (x, none) = c := He.codeOf_eq lk ec
  exact ⟨⟨_, fn_of lk hcd S len fun A outer s H vs Q E hr hsp => let ⟨t, a, b⟩ := body cdv A outer s H vs Q E (by rw [hc]; exact ec) hr hsp; ⟨t, a.nox, b⟩, bA⟩, G.kp⟩
end
def lamQ : Str := (envOfC "_law_put_stem" (defScope (top 51)) 0 0 .none).qual ++ "<lambda>"
theorem lcWR {σ : L2.St} {H : Hp} {Q : VK} {t0 te : TE} {g : TG} {tt : TT} {vs : List Nat} (h : t0 σ H fun x H1 => tLc (iRng1 (tCons (tC x) tNil)) g tt te vs σ H1 Q) : tLc (iRng1 (tCons t0 tNil)) g tt te vs σ H Q := h
/-- [.. for j in range(n)], the turns may write -/
theorem lcPk {σ : L2.St} {H : Hp} {Q : VK} {te : TE} {i n : Nat} (I : Addr → Nat → Hp → Prop) (hn : n ≤ 10000) (k0 : ∀ D, H D = none → I D 0 (upd H D (.lst [])))
    (k1 : ∀ D, H D = none → ∀ j H', j < n → I D j H' → te ((wipe σ [i]).set i (some (iV j))) H' fun y H4 => ∃ acc, H4 D = some (.lst acc) ∧ acc.length < sizeLine ∧ I D (j + 1) (upd H4 D (.lst (acc ++ [y])))) (k2 : ∀ D, H D = none → ∀ H', I D n H' → Q (.ref D) H') :
    tLc (iRng1 (tCons (tC (iV n)) tNil)) (gName i) tYes te [i] σ H Q := by
  refine ⟨(n : Int), rfl, by omega, by omega, fun D hD => ?_⟩
  have en : (n : Int).toNat = n := by omega
  rw [en]
  refine lc_range (lo := 0) (n := n) (I D) (k0 D hD) (fun j H' hj q => ?_) (k2 D hD)
  have e0 : (0 : Int) + (j : Int) = (j : Int) := Int.zero_add _
  rw [e0]
  exact ⟨wipe1 σ i _, k1 D hD j H' hj q⟩
theorem lamW {K : PySem.W.Frag} {tb : Addr} {qn : Str} {σ : L2.St} {H : Hp} {Q : VK} {t : XK → TE} (h1 : TabS H tb qn) (h2 : ∀ H1, ExtN H H1 → TabS H1 tb qn → TTA K (fun E H' Q' => t E σ H' Q') H1 Q) : tLam [(tb, qn)] (TTA K) t σ H Q :=
  ⟨fun p hp => by rw [List.mem_singleton.mp hp]; exact h1, fun H1 e t1 => h2 H1 e (t1 _ (List.mem_singleton.mpr rfl))⟩
theorem Bun.ext {K : PySem.W.Frag} {g : Nat → PyData} {tb w : Addr} {qn : Str} {H H1 : Hp} {S : ShA} {L : LwA} {G : Gs} {sn : List Nat} (B : Bun K g tb qn w H S L G sn) (e : ExtN H H1) (t : TabS H1 tb qn) : Bun K g tb qn w H1 S L G sn := by
  have f : FrT (fun _ => False) H H1 := fun a o h _ n => e a o h n
  refine B.away f.fr (f.tk fun a o h => h.elim) t (fun a h z => ?_) fun z => ?_
  · rcases z with z | ⟨ps, z⟩
    · exact z
    · exact (B.plB h z).tbl ps rfl
  · rcases z with z | ⟨ps, z⟩
    · exact z
    · exact (B.wl.pl z).tbl ps rfl
theorem sq_clear {K : PySem.W.Frag} {σ : L2.St} {H : Hp} {to : TE} {l : Addr} {xs : List V} {D : Ends} {u : TS} (ha : At to σ H (.ref l)) (hl : H l = some (.lst xs)) (k : u D σ (upd H l (.lst []))) : tSeq (tDrop (tBM0 K "list" rClear to)) u D σ H :=
  ha _ ⟨.inl ⟨rfl, _, SqL.of hl⟩, l, _, rfl, rfl, hl, k⟩
theorem at_neL {K : PySem.W.Frag} {σ : L2.St} {H : Hp} {ta tb : TE} {a b : Addr} {ns : List Nat} (ha : At ta σ H (.ref a)) (hb : At tb σ H (.ref b)) (h1 : H a = some (.lst (ns.map iV))) (h2 : H b = some (.lst (ns.map iV))) : At (tOp (rNeD K) ta tb) σ H (.bl false) := fun Q q => ha _ (hb _
  ⟨_, _, .lst (SqL.of h1) (ints_dp ns), .lst (SqL.of h2) (ints_dp ns), ints_shaped ns, ints_shaped ns, by
    rw [PySem.SeqAt.eqv_refl _ (by simp only [PyData.canLay0]; exact ints_lay ns)]
    exact q⟩)
theorem max_at1 {K : PySem.W.Frag} {σ : L2.St} {H : Hp} {t4 t9 : TE} {a : Addr} {nx : Nat} (h4 : At t4 σ H (iV nx)) (h9 : At t9 σ H (.ref a)) (h : H a = some (.lst ((List.range nx).map iV))) (h0 : 0 < nx) :
    AtT (tTest (tOp (rI0 fun i j => .bl (decide (i ≤ j))) t4 (tCB (rMax K) (tCons t9 tNil)))) σ H false := fun Q q =>
  h4 _ (h9 _ ⟨a, (List.range nx).map fun (n : Nat) => (n : Int), rfl, by rw [← ns_int]; exact SqL.of h, by rw [List.length_map, List.length_range]; exact h0, fun m hm _ => ⟨_, _, rfl, rfl, _, rfl, by
    obtain ⟨n, hn, rfl⟩ := List.mem_map.mp hm
    have := List.mem_range.mp hn
    rw [decF (by omega)]
    exact q⟩⟩)
noncomputable def verd (G : Gs) (bs : List Nat) : Option PyData := match missing G bs with
  | some b => some (.tuple [.str "twig", .int (b : Int)])
  | none => open Classical in if LabOk (bs.map G.l) then (match unheld G bs with
    | some b => some (.tuple [.str "held", .int (b : Int)])
    | none => none) else some (.tuple [.str "stem"])
theorem W0free {H H' : Hp} {w q : Addr} (h : WellOk H w) (f : Fr (fun a => a = w) H H') (h' : WellOk H' w) (e : H' q = none) : H q = none := h.free f h' e
def spLawPutStem (K : PySem.W.Frag) (tb : Addr) : Sp := fun vs H Q _ => ∃ g w sa S L G sn, vs = [.ref w, .ref sa] ∧ H sa = some (.tup (stT S L)) ∧ Bun K g tb lamQ w H S L G sn ∧ GridOk g ∧ G.nx < 890 ∧ G.ns ≠ [] ∧
  ∀ H' S' L' G', BTo K g tb lamQ w H S L G H' S' L' G' sn → G'.ns ≠ [] → (G'.nx = G.nx ∨ G'.nx = G.nx + 1) → Q (.bl true) H'
section
variable {P : Program} {w : World} {K : PySem.W.Frag} {mg : Str → Option Value} {base : Heap}
theorem sc__law_put_stem : FnScope ["_law_well_here", "_law_state", "_law_numbers", "_law_due", "_law_handed", "_law_found", "_law_number", "_law_shelf", "_law_twigs", "_law_holds", "_law_grid_here", "_law_told", "_law_some", "_law_j"] ["_law_well_here", "_law_state"] (defScope (top 51)) := ⟨rfl, rfl, rfl, by decide +kernel, rfl, by decide +kernel, by decide +kernel⟩
theorem ok__law_put_stem (T : TX K mg) (W : TwX K) {tb : Addr} (TB : TabB base mg (He.codeOf K ("_law_put_stem", none)) tb) (F : Fd K "_law_put_stem" "_law_put_stem" (top 51) (ga K "_law_put_stem")) (FA : Fd K "_law_asked" "_law_asked" (top 44) (ga K "_law_asked"))
    (G__law_pull : OkF P w K mg base CX0 1 (ga K "_law_pull") ["_law_well_here", "_law_many"] spPull) (G__law_picked : OkF P w K mg base CX0 2 (ga K "_law_picked") ["_law_well_here", "_law_some"] spPicked)
    (G__law_run : OkF P w K mg base CX0 3 (ga K "_law_run") ["_law_well_here", "_law_twigs", "_law_holds", "_law_grid_here"] spRun) (G__law_wrong : OkF P w K mg base CX0 6 (ga K "_law_wrong") ["_law_twigs", "_law_numbers", "_law_high"] spLawWrong)
    (G__law_unheld : OkF P w K mg base CX0 1 (ga K "_law_unheld") ["_law_holds", "_law_numbers"] spLawUnheld) (G__law_alike : OkF P w K mg base CX0 5 (ga K "_law_alike") ["_law_found", "_law_due"] (spAlike 5))
    (G_put_stem : OkM P w K mg base (L2.CX P w) (ga K "Shelf") "put_stem" 7 (ma K (ga K "Shelf") "put_stem") ["self", "numbers"] (spPutStem K)) : OkF P w K mg base CX0 10 (ga K "_law_put_stem") ["_law_well_here", "_law_state"] (spLawPutStem K tb) := by
  obtain ⟨fdA, GA⟩ := FA
  have bA := GA.bindsN (ps := ["_law_call"]) (fun _ _ _ _ _ _ us hl => match us, hl with | [_], _ => rfl)
  have kpA := GA.kp
  obtain ⟨ocA, odA, dVA, kVA, docA, pmA, anA, cdvA, ctA, oslA, eA, lkA, hcA, _, _⟩ := GA.ex
  subst eA
  refine mkOkC F sc__law_put_stem (fun vs H Q E h => ?_) (fun _ _ _ _ _ _ us hl => match us, hl with | [_, _], _ => rfl) (fun cdv A outer s H vs Q E hcd hr h => ?_)
  · obtain ⟨g, wl, sa, S, L, G, sn, rfl, _⟩ := h
    rfl
  · obtain ⟨g, wl, sa, S, L, G, sn, rfl, hsa, B, GO, hnx, hne, k⟩ := h
    have hu := hu_of hr
    have nd := sc__law_put_stem.nd
    refine ⟨_, (pss_cons (ps_asg (pv 1) (pg_tup rfl (pgs_cons (pg_name (i := 7) nd rfl (by first | exact Or.inl rfl | exact Or.inr rfl)) (pgs_cons (pg_name (i := 8) nd rfl (by first | exact Or.inl rfl | exact Or.inr rfl)) (pgs_cons (pg_name (i := 9) nd rfl (by first | exact Or.inl rfl | exact Or.inr rfl)) (pgs_cons (pg_name (i := 10) nd rfl (by first | exact Or.inl rfl | exact Or.inr rfl)) (pgs_cons (pg_name (i := 11) nd rfl (by first | exact Or.inl rfl | exact Or.inr rfl)) pgs_nil)))))))
      (pss_cons (ps_set (i := 2) nd rfl (by first | exact Or.inl rfl | exact Or.inr rfl) (pe_c G__law_run (hr.mono (by decide)) rfl T.g__law_run (pa_cons (pv 0) (pa_cons (pv 8) (pa_cons (pv 9) (pa_cons (pv 10) pa_nil))))))
      (pss_cons (ps_if (pt_cmpR op_eq (pe_c G__law_pull (hr.mono (by decide)) rfl T.g__law_pull (pa_cons (pv 0) (pa_cons pe_int pa_nil))) pe_int (nomark _)) (pss_cons (ps_set (i := 12) nd rfl (by first | exact Or.inl rfl | exact Or.inr rfl) (pe_op op_cat (pe_callB (cr_sortedK rfl) rfl T.f_sorted bt_sorted (pa_cons (pv 8) pa_nil)) (pe_lst (pa_cons (pe_op op_add (pe_op op_add (pe_callB (cr_max rfl) rfl T.f_max bt_max (pa_cons (pv 11) pa_nil)) pe_int) (pe_c G__law_pull (hr.mono (by decide)) rfl T.g__law_pull (pa_cons (pv 0) (pa_cons pe_int pa_nil)))) pa_nil))))
      (pss_one (ps_setLc (i := 2) (own := [("_law_j", 13)]) (by rfl) nd rfl rfl (sw_true rfl rfl rfl (by decide +kernel)) (pi_range1 rfl T.f_range (pa_cons (pe_c G__law_pull (hr.mono (by decide)) rfl T.g__law_pull (pa_cons (pv 0) (pa_cons pe_int pa_nil))) pa_nil)) (blkOk_by (N := ["_law_well_here", "_law_state", "_law_numbers", "_law_due", "_law_handed", "_law_found", "_law_number", "_law_shelf", "_law_twigs", "_law_holds", "_law_grid_here", "_law_told", "_law_some", "_law_j"]) (sc := defScope (top 51)) (own := [("_law_j", 13)]) (by decide +kernel)) (fun _ _ _ _ _ => (pg_name (i := 13) nd rfl (by first | exact Or.inl rfl | exact Or.inr rfl))) (fun _ _ _ _ _ => pts_nil) (fun _ _ _ _ _ => pe_c G__law_picked (hr.mono (by decide)) rfl T.g__law_picked (pa_cons (pv 0) (pa_cons (pv 12) pa_nil)))))) pss_nil)
      (pss_cons (ps_set (i := 3) nd rfl (by first | exact Or.inl rfl | exact Or.inr rfl) (pe_c G__law_wrong (hr.mono (by decide)) rfl T.g__law_wrong (pa_cons (pv 8) (pa_cons (pv 2) (pa_cons pe_non pa_nil)))))
      (pss_cons (ps_if (pt_cmp (pc_isN (pv 3))) (pss_one (ps_set (i := 3) nd rfl (by first | exact Or.inl rfl | exact Or.inr rfl) (pe_c G__law_unheld (hr.mono (by decide)) rfl T.g__law_unheld (pa_cons (pv 9) (pa_cons (pv 2) pa_nil))))) pss_nil)
      (pss_cons (ps_set (i := 4) nd rfl (by first | exact Or.inl rfl | exact Or.inr rfl) (pe_callTy (call_list_of) rfl T.f_list bt_list (pa_cons (pv 2) pa_nil)))
      (pss_cons (ps_set (i := 5) nd rfl (by first | exact Or.inl rfl | exact Or.inr rfl) (pe_lamcall (T := [(tb, lamQ)]) (TT := TTA K) (t := fun E => tMeth (ga K "Shelf") "put_stem" (spPutStem K) [] E (tVar 7) (tCons (tVar 4) tNil)) rfl T.g__law_asked kpA lkA hcA bA sc__law_asked rfl (.inl rfl) (asked_gives T W) TB hcd (List.mem_singleton.mpr rfl) (fun p hp _ => by rw [List.mem_singleton.mp hp]; rfl) (hr.mono (by decide)) (lamS_by (sc := defScope (top 51)) (by decide +kernel)) rfl (fun _ _ _ _ _ => rfl) (fun A1 outer1 s1 H1 E1 f1 c1 hr2 => pe_mX (pv 7) T.cl G_put_stem hr2 (passes_call (takes_of rfl rfl rfl rfl) fun _ _ _ _ h => h) (pa_cons (pv 4) pa_nil))))
      (pss_cons (ps_if (pt_cmpR (op_neD hr.units) (pv 4) (pv 2) (nomark _)) (pss_one (ps_ret pe_bl)) pss_nil)
      (pss_cons (ps_if (pt_cmp (pc_notN (pv 3))) (pss_one (ps_ret (pe_c G__law_alike (hr.mono (by decide)) rfl T.g__law_alike (pa_cons (pv 5) (pa_cons (pv 3) pa_nil))))) pss_nil)
      (pss_cons (ps_expr (pe_bm0 PySem.F.plainAttrs_list PySem.F.slot_list_clear PySem.F.type_list_clear (mt_clear) (pv 4)))
      (pss_cons (ps_if (PW.pt (pw_or (pt_cmpR op_ne (pe_ix ix_tup (pv 5) pe_int (fun _ _ => rfl)) pe_str (nomark _)) (pw_or (pt_not (pt_val (pe_callB (call_isi) rfl T.f_isinstance bt_isinstance (pa_cons (pe_ix ix_tup (pv 5) pe_int (fun _ _ => rfl)) (pa_cons (pe_bltn rfl T.f_int bt_int (v := .ty "int") rfl) pa_nil))))) (pw_or (pt_val (pe_callB (call_isi) rfl T.f_isinstance bt_isinstance (pa_cons (pe_ix ix_tup (pv 5) pe_int (fun _ _ => rfl)) (pa_cons (pe_bltn rfl T.f_bool bt_bool (v := .ty "bool") rfl) pa_nil)))) (pw_or1 (pt_cmpR op_le (pe_ix ix_tup (pv 5) pe_int (fun _ _ => rfl)) (pe_callB (cr_max rfl) rfl T.f_max bt_max (pa_cons (pv 11) pa_nil)) (nomark _))))))) (pss_one (ps_ret pe_bl)) pss_nil)
      (pss_cons (ps_expr (pe_bm PySem.F.plainAttrs_list PySem.F.slot_list_append PySem.F.type_list_append (mt_append) (pv 11) (pa_cons (pe_ix ix_tup (pv 5) pe_int (fun _ _ => rfl)) pa_nil)))
      (pss_cons (ps_for PassesOwn.never rfl (pi_list (pv 2)) (pg_name (i := 6) nd rfl (by first | exact Or.inl rfl | exact Or.inr rfl)) (pss_one (ps_dput hu (pv 9) (pv 6) (pe_op op_sub (pe_dget hu (pv 9) (pv 6) (fun _ _ => rfl)) pe_int) rfl)))
      (pss_cons (ps_dput hu (pv 8) (pe_ix ix_tup (pv 5) pe_int (fun _ _ => rfl)) (pe_tup (pa_cons pe_str (pa_cons (pv 2) pa_nil))) rfl)
      (pss_cons (ps_dput hu (pv 9) (pe_ix ix_tup (pv 5) pe_int (fun _ _ => rfl)) pe_int rfl)
      (pss_one (ps_ret pe_bl))))))))))))))))), ?_⟩
    have hz : G.ns.length ≤ 900 := by have := B.wf.len; omega
    refine sq_asg (at_then (at_var rfl) (g5 hsa ?_))
    refine sq_as (wp_call (ata_cons (at_var rfl) (ata_cons (at_var rfl) (ata_cons (at_var rfl) (ata_cons (at_var rfl) ata_nil)))) ⟨g, L, G, wl, rfl, B.lw, B.wf, GO, B.wl, (fun z => B.wst (.inr z)), hne, fun q bs H1 hbs hbl f1 W1 hq hq1 => ?_⟩)
    have B1 := B.pull f1 W1
    refine sq_cont (fun σ' H' => ∃ q, ∃ bs : List Nat, ∃ x6 x12 x13, σ' = [some (.ref wl), some (.ref sa), some (.ref q), none, none, none, x6, some (.ref S.p), some (.ref L.tw), some (.ref L.ho), some (.ref L.gr), some (.ref L.to), x12, x13] ∧ Fr (fun a => a = wl) H H' ∧ WellOk H' wl ∧ H q = none ∧ H' q = some (.lst (bs.map iV)) ∧ bs.length ≤ 10) ?_ fun cont => ?_
    · rintro σ' H2 ⟨q, bs, x6, x12, x13, rfl, f2, W2, hq, hq2, hbl⟩
      have B2 := B.pull f2 W2
      obtain ⟨nq1, nq2, nq3⟩ := B.new hq
      refine sq_cont (fun σ' H' => ∃ v, σ' = [some (.ref wl), some (.ref sa), some (.ref q), some v, none, none, x6, some (.ref S.p), some (.ref L.tw), some (.ref L.ho), some (.ref L.gr), some (.ref L.to), x12, x13] ∧ Same H2 H' ∧ ((missing G bs = none ∧ LabOk (bs.map G.l) ∧ v = .non) ∨ ∃ d, verd G bs = some d ∧ Tp H' v d ∧ v ≠ .non ∧ okS 4 d = true ∧ few 4 d = true)) ?_ fun cont1 => ?_
      · rintro σ' H3 ⟨v, rfl, s3, hv⟩
        refine sq_cont (fun σ' H' => ∃ v, σ' = [some (.ref wl), some (.ref sa), some (.ref q), some v, none, none, x6, some (.ref S.p), some (.ref L.tw), some (.ref L.ho), some (.ref L.gr), some (.ref L.to), x12, x13] ∧ Same H2 H' ∧ ((verd G bs = none ∧ v = .non) ∨ ∃ d, verd G bs = some d ∧ Tp H' v d ∧ v ≠ .non ∧ okS 4 d = true ∧ few 4 d = true)) ?_ fun cont2 => ?_
        · clear hv s3
          rintro σ' H3 ⟨vd, rfl, s3, hv⟩
          have B3 := B2.same s3
          have f3 : FrT (fun a => a = wl) H H3 := FrT.of (f2.trans (Fr.same s3))
          have hq3 := s3 _ _ hq2
          refine sq_as (cb1 (at_then (at_var rfl) ⟨q, _, rfl, .inl (SqL.of hq3), fun r hr2 => ?_⟩))
          have s4 := same_new (o := .lst (bs.map iV)) hr2
          have B4 := B3.same s4
          have f4 := f3.trans (FrT.of (Fr.same s4))
          have hq4 := s4 _ _ hq3
          have hr4 : upd H3 r (.lst (bs.map iV)) r = some (.lst (bs.map iV)) := upd_same
          have nrq : r ≠ q := (ne_of_none hq3 hr2).symm
          obtain ⟨nr1, nr2, nr3⟩ := B3.new hr2
          have hrH : H r = none := B.wl.free f2 W2 (s3.free hr2)
          have hv4 : (verd G bs = none ∧ vd = .non) ∨ ∃ d, verd G bs = some d ∧ Tp (upd H3 r (.lst (bs.map iV))) vd d ∧ vd ≠ .non ∧ okS 4 d = true ∧ few 4 d = true := hv.imp id fun ⟨d, m1, m2, m3⟩ => ⟨d, m1, m2.sm s4, m3⟩
          generalize upd H3 r (.lst (bs.map iV)) = H4 at B4 f4 hq4 hr4 hv4 ⊢
          refine sq_cont (fun σ' H' => ∃ v, σ' = [some (.ref wl), some (.ref sa), some (.ref q), some vd, some (.ref r), some v, x6, some (.ref S.p), some (.ref L.tw), some (.ref L.ho), some (.ref L.gr), some (.ref L.to), x12, x13] ∧ ((∃ d, verd G bs = some d ∧ Tp H' vd d ∧ Tp H' v d ∧ vd ≠ .non ∧ okS 4 d = true ∧ few 4 d = true ∧ FrT (fun a => a = wl) H H' ∧ Bun K g tb lamQ wl H' S L G sn ∧ H' q = some (.lst (bs.map iV)) ∧ H' r = some (.lst (bs.map iV))) ∨
            (verd G bs = none ∧ vd = .non ∧ (∀ b ∈ bs, b ∈ G.ns) ∧ LabOk (bs.map G.l) ∧ (∀ b ∈ bs, G.h b ≠ 0) ∧ ∃ H5 S' H6 p, FrT (fun a => a = wl) H H5 ∧ Bun K g tb lamQ wl H5 S L G sn ∧ H5 q = some (.lst (bs.map iV)) ∧ H5 r = some (.lst (bs.map iV)) ∧ ShTo K g H5 S G H6 S' (stemG G bs) sn ∧ H6 p = none ∧ H' = upd H6 p (.tup [.str "told", iV G.nx]) ∧ v = .ref p))) ?_ fun cont3 => ?_
          · rintro σ' H7 ⟨v, rfl, ⟨d, m1, m2, m3, m4, m5, m6, f7, B7, hq7, hr7⟩ | ⟨m1, rfl, hbs, lok, hh, H5, S', H6, p, f5, B5, hq5, hr5, Z, hp, rfl, rfl⟩⟩
            · refine sq_Fn (att_test (at_neL (at_var rfl) (at_var rfl) hr7 hq7)) (sq_T (att_B (at_is (at_notN (at_var rfl)) (by rw [decF m4]; rfl))) (rt_ (wp_call (ata_cons (at_var rfl) (ata_cons (at_var rfl) ata_nil)) ⟨v, vd, d, rfl, m3, m2, m5, m6, fun H8 s8 => k H8 S L G ⟨B7.same s8, rfl, ⟨rfl, rfl, rfl, rfl⟩, (f7.trans (FrT.of (Fr.same s8))).mono fun a h => .inr h, fun a h => .inl h⟩ hne (.inl rfl)⟩)))
            · obtain ⟨dxp, obp⟩ := B5.sh.c.ob
              have nq5 : ¬ shF S G.ns q := fun z => nq1 (.inl z)
              have nr5 : ¬ shF S G.ns r := fun z => nr1 (.inl z)
              have s7 := same_new (o := .tup [.str "told", iV G.nx]) hp
              have hq7 := s7 _ _ (Z.fr _ _ hq5 nq5)
              have hr7 := s7 _ _ (Z.fr _ _ hr5 nr5)
              have A7 := (B5.lw.away Z.fr (B5.sh.tk Z.fr) fun a h z => B.dj a z h).same s7
              have hp7 : upd H6 p (.tup [.str "told", iV G.nx]) p = some (.tup [.str "told", iV G.nx]) := upd_same
              have Z7 := Z.post s7
              generalize upd H6 p (.tup [.str "told", iV G.nx]) = H7 at s7 hq7 hr7 A7 hp7 Z7 ⊢
              have nxn : G.nx ∉ G.ns := fun q => Nat.lt_irrefl _ (B.wf.lt _ q)
              have nxb : G.nx ∉ bs := fun q => nxn (hbs _ q)
              have ndb : bs.Nodup := labok_lt lok fun b h => B.wf.kb' (hbs b h)
              have h0 : 0 < G.nx := by
                cases e : G.ns with
                | nil => exact absurd e hne
                | cons a r0 => exact Nat.lt_of_le_of_lt (Nat.zero_le a) (B.wf.lt a (by rw [e]; exact List.mem_cons_self))
              refine sq_Fn (att_test (at_neL (at_var rfl) (at_var rfl) hr7 hq7)) (sq_Fn (att_B (at_is (at_notN (at_var rfl)) rfl)) ?_)
              have npr : p ≠ r := fun z => by
                rw [z, hr7] at hp7
                cases hp7
              refine sq_clear (at_var rfl) hr7 ?_
              have f8 : Fr (fun a => (a = L.tw ∨ a = L.ho ∨ a = L.to) ∨ a = r) H7 (upd H7 r (.lst [])) := Fr.upd (.inr rfl)
              have A8 : LwAt g (upd H7 r (.lst [])) L G := A7.away (F := fun a => a = r) (Fr.upd rfl) (TK.upd hr7 fun _ z => by cases z) fun a h z => nr1 (.inr (z ▸ h))
              have hq8 : upd H7 r (.lst []) q = some (.lst (bs.map iV)) := by rw [upd_ne nrq.symm]; exact hq7
              have hp8 : upd H7 r (.lst []) p = some (.tup [.str "told", iV G.nx]) := by rw [upd_ne npr]; exact hp7
              generalize upd H7 r (.lst []) = H8 at f8 A8 hq8 hp8 ⊢
              refine sq_Fn (att_orF (att_test (at_ne (at_ixT (at_var rfl) at_c hp8 (atI_nat (j := 0) rfl)) at_c rfl (b := true) (by rw [dec_str]; exact decT rfl))) (att_orF (att_nT (att_B (at_isi (ata_cons (at_ixT (at_var rfl) at_c hp8 (atI_nat (j := 1) rfl)) (ata_cons at_c ata_nil)) (Tp.int (H := H8) _).ty kb_int_int)))
                (att_orF (att_B (at_isi (ata_cons (at_ixT (at_var rfl) at_c hp8 (atI_nat (j := 1) rfl)) (ata_cons at_c ata_nil)) (Tp.int (H := H8) _).ty kb_int_bool)) (max_at1 (at_ixT (at_var rfl) at_c hp8 (atI_nat (j := 1) rfl)) (at_var rfl) A8.to h0)))) ?_
              refine sq_app (at_var rfl) A8.to (at_ixT (at_var rfl) at_c hp8 (atI_nat (j := 1) rfl)) (by rw [List.length_map, List.length_range]; omega) ?_
              rw [range_snoc]
              have three3 : ∀ a, (a = L.tw ∨ a = L.ho ∨ a = L.to) → lwF L G.ns a := fun a h => h.elim .inl fun h => h.elim (fun h => .inr (.inl h)) fun h => .inr (.inr (.inr (.inl h)))
              have pl : ∀ a o, (a = L.tw ∨ a = L.ho ∨ a = L.to) → H8 a = some o → ∀ ys, o ≠ .tup ys := fun a o h e => (A8.pl (three3 a h) e).tup
              have twt : L.tw ≠ L.to := ne_of A8.tw A8.to (by intro z; cases z)
              have hot : L.ho ≠ L.to := ne_of A8.ho A8.to (by intro z; cases z)
              have q3 : ¬ (q = L.tw ∨ q = L.ho ∨ q = L.to) := fun z => nq1 (.inr (three3 q z))
              have pto : p ≠ L.to := ne_of hp8 A8.to (by intro z; cases z)
              have f9 : Fr (fun a => a = L.tw ∨ a = L.ho ∨ a = L.to) H8 (upd H8 L.to (.lst ((List.range (G.nx + 1)).map iV))) := Fr.upd (.inr (.inr rfl))
              have hto9 : upd H8 L.to (.lst ((List.range (G.nx + 1)).map iV)) L.to = some (.lst ((List.range (G.nx + 1)).map iV)) := upd_same
              have htw9 : upd H8 L.to (.lst ((List.range (G.nx + 1)).map iV)) L.tw = some (.dK (dM G.ns fun n => .ref (L.tv n))) := by rw [upd_ne twt]; exact A8.tw
              have hho9 : upd H8 L.to (.lst ((List.range (G.nx + 1)).map iV)) L.ho = some (.dK (dM G.ns fun n => .int (G.h n))) := by rw [upd_ne hot]; exact A8.ho
              have hq9 : upd H8 L.to (.lst ((List.range (G.nx + 1)).map iV)) q = some (.lst (bs.map iV)) := f9 _ _ hq8 q3
              have hp9 : upd H8 L.to (.lst ((List.range (G.nx + 1)).map iV)) p = some (.tup [.str "told", iV G.nx]) := by rw [upd_ne pto]; exact hp8
              generalize upd H8 L.to (.lst ((List.range (G.nx + 1)).map iV)) = H9 at f9 hto9 htw9 hho9 hq9 hp9 ⊢
              refine sq_forL (at_var rfl) hq9 (fun i σ' H' => (∃ x6, σ' = [some (.ref wl), some (.ref sa), some (.ref q), some .non, some (.ref r), some (.ref p), x6, some (.ref S.p), some (.ref L.tw), some (.ref L.ho), some (.ref L.gr), some (.ref L.to), x12, x13]) ∧ Fr (fun a => a = L.ho) H9 H' ∧ H' L.ho = some (.dK (dM G.ns fun n => .int (if n ∈ bs.take i then G.h n - 1 else G.h n))))
                ⟨⟨_, rfl⟩, Fr.refl _ _, hho9⟩ (fun i σ' H' I => I.2.1 _ _ hq9 fun z => q3 (.inr (.inl z))) (fun i x σ' H' hx I => ?_) fun σ' H' I => ?_
              · obtain ⟨⟨x0, rfl⟩, fr, hh1⟩ := I
                rw [List.getElem?_map] at hx
                obtain ⟨b, hb, rfl⟩ := Option.map_eq_some_iff.mp hx
                have hbn := hbs b (List.mem_of_getElem? hb)
                have et1 : bs.take (i + 1) = bs.take i ++ [b] := by
                  rw [List.take_add_one, hb]
                  rfl
                have hbt : b ∉ bs.take i := fun z => by
                  have nt : (bs.take (i + 1)).Nodup := ndb.sublist (List.take_sublist _ _)
                  rw [et1] at nt
                  exact (List.nodup_append.mp nt).2.2 b z b (List.mem_singleton.mpr rfl) rfl
                have dg : DGet H' L.ho (.int (b : Int)) (some (.int (G.h b))) := by
                  have := dget_dM (F := fun n => V.int (if n ∈ bs.take i then G.h n - 1 else G.h n)) hh1 hbn
                  rw [if_neg hbt] at this
                  exact this
                refine st_dput (at_I0 (at_dget (at_var rfl) (at_var rfl) dg) at_c rfl) (at_var rfl) (at_var rfl) (dput_old (F := fun n => V.int (if n ∈ bs.take i then G.h n - 1 else G.h n)) hh1 hbn (by omega)) ⟨⟨_, rfl⟩, fr.trans (Fr.upd rfl), ?_⟩
                rw [upd_same]
                refine congrArg (fun F => some (HO.dK (dM G.ns F))) (funext fun n => ?_)
                by_cases e : n = b
                · subst e
                  rw [setF_same, if_pos (by rw [et1]; exact List.mem_append_right _ (List.mem_singleton.mpr rfl))]
                · rw [setF_ne e]
                  by_cases e2 : n ∈ bs.take i
                  · rw [if_pos e2, if_pos (by rw [et1]; exact List.mem_append_left _ e2)]
                  · rw [if_neg e2, if_neg (by rw [et1]; exact fun z => (List.mem_append.mp z).elim e2 fun z => e (List.mem_singleton.mp z))]
              · obtain ⟨⟨x0, rfl⟩, fr, hh1⟩ := I
                rw [List.length_map, List.take_length] at hh1
                have f10 := f9.trans (fr.mono fun a h => .inr (.inl h))
                have hto10 := fr _ _ hto9 fun z => hot z.symm
                have htw10 := fr _ _ htw9 fun z => A8.th z
                have hp10 : H' p = some (.tup [.str "told", iV G.nx]) := fr _ _ hp9 fun z => by
                  rw [z, hho9] at hp9
                  cases hp9
                refine sq_dp (tup_ (vs := [.str "stem", .ref q]) (ata_cons at_c (ata_cons (at_var rfl) ata_nil)) z2 fun t0 ht0 => ?_)
                have s11 := same_new (o := .tup [.str "stem", .ref q]) ht0
                have ht11 : upd H' t0 (.tup [.str "stem", .ref q]) t0 = some (.tup [.str "stem", .ref q]) := upd_same
                have f11 := f10.trans (Fr.same s11)
                have hto11 := s11 _ _ hto10
                have htw11 := s11 _ _ htw10
                have hho11 := s11 _ _ hh1
                have hp11 := s11 _ _ hp10
                generalize upd H' t0 (.tup [.str "stem", .ref q]) = H11 at f11 ht11 hto11 htw11 hho11 hp11 ⊢
                refine dpk (at_var rfl) (at_ixT (at_var rfl) at_c hp11 (atI_nat (j := 1) rfl)) (dput_new htw11 nxn (by omega)) ?_
                rw [setF_ref]
                refine sq_dput at_c (at_var rfl) (at_ixT (at_var rfl) at_c (by rw [upd_ne (ne_of hp11 htw11 (by intro z; cases z))]; exact hp11) (atI_nat (j := 1) rfl)) (dput_new (F := fun n => V.int (if n ∈ bs then G.h n - 1 else G.h n)) (by rw [upd_ne B.lw.th.symm]; exact hho11) nxn (by omega)) ?_
                rw [setF_int]
                have f12 := f11.trans ((Fr.upd (H := H11) (p := L.tw) (o := .dK (dM (G.ns ++ [G.nx]) fun n => .ref (setF L.tv G.nx t0 n))) (.inl rfl)).trans (Fr.upd (p := L.ho) (o := .dK (dM (G.ns ++ [G.nx]) fun n => .int (setF (fun n => if n ∈ bs then G.h n - 1 else G.h n) G.nx 1 n))) (.inr (.inl rfl))))
                have tk12 := f12.tk pl
                have lw := A8.add (t := .stem bs) (l := labS (bs.map G.l)) (h' := setF (fun n => if n ∈ bs then G.h n - 1 else G.h n) G.nx 1) (q := q) (t0 := t0) B.wf.lt (by omega) f12 (by rw [upd_ne B.lw.th, upd_same]) upd_same (by rw [upd_ne hot.symm, upd_ne twt.symm]; exact hto11)
                  (by rw [upd_ne (ne_of ht11 hho11 (by intro z; cases z)), upd_ne (ne_of ht11 htw11 (by intro z; cases z))]; exact ht11) ⟨bs.map iV, f12 _ _ hq8 q3, ints_tp bs⟩ (fun z => q3 (.inr (.inr z))) B.lw.wt
                obtain ⟨c1, c2, c3, c4, c5, c6⟩ := hand_at (m := G.nx) (G := addT G (.stem bs) (labS (bs.map G.l))) ndb
                have lw2 : LwAt g _ _ (stemG G bs) := lw.congr c1 (fun n hn => ⟨congrFun c2 n, by
                  show (stemG G bs).h n = setF (fun n => if n ∈ bs then G.h n - 1 else G.h n) G.nx 1 n
                  refine (c5 n).trans ?_
                  show (if n ∈ bs then setF G.h G.nx 1 n - 1 else setF G.h G.nx 1 n) = _
                  by_cases e : n = G.nx
                  · subst e
                    rw [if_neg nxb, setF_same, setF_same]
                  · rw [setF_ne e, setF_ne e]⟩) c4
                refine st_ret at_c (k _ S' _ _ (B.both (fun a => a = r) (fun a h => by rw [h]; exact ⟨hrH, _, hr5, .inl ⟨_, rfl⟩⟩) f5 B5.wl B5.tab Z (((Fr.same s7).trans f8).trans (f12.mono fun a h => .inl h)) lw2 (wf_addStem B.wf hbs lok hh) ⟨rfl, rfl, rfl, rfl⟩ fun a h => ?_) (by rw [show (stemG G bs).ns = G.ns ++ [G.nx] from c1]; simp) (.inr c4))
                rcases h with h | h | h | h | ⟨n, hn, h⟩
                · exact .inl (.inl h)
                · exact .inl (.inr (.inl h))
                · exact .inl (.inr (.inr (.inl h)))
                · exact .inl (.inr (.inr (.inr (.inl h))))
                · have h : a = setF L.wh G.nx q n := h
                  rw [show (stemG G bs).ns = G.ns ++ [G.nx] from c1] at hn
                  rcases List.mem_append.mp hn with hn | hn
                  · rw [setF_ne fun z => nxn (by rw [← z]; exact hn)] at h
                    exact .inl (.inr (.inr (.inr (.inr ⟨n, hn, h⟩))))
                  · rw [List.mem_singleton.mp hn, setF_same] at h
                    subst h
                    exact .inr ⟨hq, _, hq5, .inl ⟨_, rfl⟩⟩
          · have hob := B4.sh.c.ob
            refine sq_as (lamW B4.tab fun H5 e5 t5 => ?_)
            have B5 := B4.ext e5 t5
            have f5 : FrT (fun a => a = wl) H H5 := f4.trans fun a o h _ n => e5 a o h n
            have hq5 := e5 _ _ hq4 (fun _ z => by cases z)
            have hr5 := e5 _ _ hr4 (fun _ z => by cases z)
            have tk5 : TK H4 H5 := fun a xs h => e5 a _ h fun _ z => by cases z
            obtain ⟨dx5, ob5⟩ := B5.sh.c.ob
            have err : ∀ d v H6, verd G bs = some d → Same H5 H6 → Tp H6 v d → ∃ v', ([some (.ref wl), some (.ref sa), some (.ref q), some vd, some (.ref r), none, x6, some (.ref S.p), some (.ref L.tw), some (.ref L.ho), some (.ref L.gr), some (.ref L.to), x12, x13] : L2.St).set 5 (some v) = [some (.ref wl), some (.ref sa), some (.ref q), some vd, some (.ref r), some v', x6, some (.ref S.p), some (.ref L.tw), some (.ref L.ho), some (.ref L.gr), some (.ref L.to), x12, x13] ∧ ((∃ d, verd G bs = some d ∧ Tp H6 vd d ∧ Tp H6 v' d ∧ vd ≠ .non ∧ okS 4 d = true ∧ few 4 d = true ∧ FrT (fun a => a = wl) H H6 ∧ Bun K g tb lamQ wl H6 S L G sn ∧ H6 q = some (.lst (bs.map iV)) ∧ H6 r = some (.lst (bs.map iV)))) := fun d v H6 m1 s6 hv6 => by
              rcases hv4 with ⟨n1, _⟩ | ⟨d', n1, n2, n3, n4, n5⟩
              · rw [n1] at m1
                cases m1
              · rw [n1] at m1
                cases m1
                exact ⟨v, rfl, _, n1, (n2.mono tk5 _ _).sm s6, hv6, n3, n4, n5, f5.trans (FrT.of (Fr.same s6)), B5.same s6, s6 _ _ hq5, s6 _ _ hr5⟩
            have errc : ∀ d v H6, verd G bs = some d → Same H5 H6 → Tp H6 v d → _ := fun d v H6 m1 s6 hv6 => (let ⟨v', e1, e2⟩ := err d v H6 m1 s6 hv6; cont3 _ H6 ⟨v', e1, .inl e2⟩)
            refine wp_meth (at_var rfl) ob5 rfl (ata_cons (at_var rfl) ata_nil) ⟨g, S, G, sn, r, bs, rfl, B5.sh, B.wf, GO, by omega, hr5, by omega, fun b hb d H6 s6 hd => ?_, fun hm hl H6 s6 => ?_, fun hm hl b hb d H6 s6 hd => ?_, fun hm hl hu2 S' H6 Z => ?_⟩
            · refine ⟨fun dd e => ?_, .inr ⟨b, d, rfl, hd, .inl ⟨rfl, fun v H7 s7 hv => errc (.tuple [.str "twig", .int (b : Int)]) v H7 ?_ (s6.trans s7) hv⟩⟩⟩
              · cases e
                exact ⟨_, hd⟩
              · unfold verd
                rw [show missing G bs = some b from hb]
            · refine ⟨fun dd e => ?_, .inl ⟨rfl, fun v H7 s7 hv => errc (.tuple [.str "stem"]) v H7 ?_ (s6.trans s7) hv⟩⟩
              · cases e
              · unfold verd
                rw [show missing G bs = none from hm, if_neg hl]
            · refine ⟨fun dd e => ?_, .inr ⟨b, d, rfl, hd, .inr ⟨rfl, fun v H7 s7 hv => errc (.tuple [.str "held", .int (b : Int)]) v H7 ?_ (s6.trans s7) hv⟩⟩⟩
              · cases e
                exact ⟨_, hd⟩
              · unfold verd
                rw [show missing G bs = none from hm, if_pos hl, show unheld G bs = some b from hb]
            · have m1 : verd G bs = none := by
                unfold verd
                rw [show missing G bs = none from hm, if_pos hl, show unheld G bs = none from hu2]
              have hvn : vd = .non := by
                rcases hv4 with ⟨_, e⟩ | ⟨d', n1, _⟩
                · exact e
                · rw [m1] at n1
                  cases n1
              refine ⟨iV G.nx, rfl, z2, fun p hp => cont3 _ _ ⟨.ref p, rfl, .inr ⟨m1, hvn, fun b hb => ?_, hl, fun b hb e => ?_, H5, S', H6, p, f5, B5, hq5, hr5, Z, hp, rfl, rfl⟩⟩⟩
              · exact Classical.byContradiction fun z => List.find?_eq_none.mp hm b hb (decT z)
              · exact List.find?_eq_none.mp hu2 b hb (decT e)
        · rcases hv with ⟨m1, m2, rfl⟩ | ⟨d, m1, m2, m3, m4, m5⟩
          · have B3 := B2.same s3
            have hbs : ∀ b ∈ bs, b ∈ G.ns := fun b hb => Classical.byContradiction fun z => by
              have := List.find?_eq_none.mp m1 b hb
              exact this (decT z)
            refine sq_T (att_B (at_is (at_isN (at_var rfl)) rfl)) (as_ (wp_call (ata_cons (at_var rfl) (ata_cons (at_var rfl) ata_nil)) ⟨g, L, G, q, bs, rfl, B3.lw, hbs, s3 _ _ hq2, fun b hb v H4 s4 hv => ?_, fun hn => ?_⟩))
            · refine cont2 _ _ ⟨v, rfl, s3.trans s4, .inr ⟨_, ?_, hv, ?_, rfl, rfl⟩⟩
              · unfold verd
                rw [m1, if_pos m2, hb]
              · intro z
                subst z
                cases hv
            · refine cont2 _ _ ⟨.non, rfl, s3, .inl ⟨?_, rfl⟩⟩
              unfold verd
              rw [m1, if_pos m2, hn]
          · exact sq_Fn (att_B (at_is (at_isN (at_var rfl)) (congrArg V.bl (decF m3)))) (cont2 _ _ ⟨v, rfl, s3, .inr ⟨d, m1, m2, m3, m4, m5⟩⟩)
      · refine sq_as (wp_call (ata_cons (at_var rfl) (ata_cons (at_var rfl) (ata_cons at_c ata_nil))) ⟨g, L, G, q, bs, rfl, B2.lw, B.wf, GO, hq2, by omega, fun b hb v H3 s3 hv => ?_, fun hm hl v H3 s3 hv => ?_, fun hm hl H3 s3 => ?_⟩)
        · refine cont1 _ _ ⟨v, rfl, s3, .inr ⟨_, ?_, hv, ?_, rfl, rfl⟩⟩
          · unfold verd
            rw [hb]
          · intro z
            subst z
            cases hv
        · refine cont1 _ _ ⟨v, rfl, s3, .inr ⟨_, ?_, hv, ?_, rfl, rfl⟩⟩
          · unfold verd
            rw [hm, if_neg hl]
          · intro z
            subst z
            cases hv
        · exact cont1 _ _ ⟨.non, rfl, s3, .inl ⟨hm, hl, rfl⟩⟩
    · refine sq_ifw (testW (opW (wp_call (ata_cons (at_var rfl) (ata_cons at_c ata_nil)) ⟨wl, 5, rfl, by decide, by decide, W1, fun r H2 hr2 f2 W2 => at_then at_c ⟨rfl, _, rfl, ?_⟩⟩)))
      have f12 := f1.trans f2
      have nqw : q ≠ wl := fun z => by
        obtain ⟨_, _, _, _, e, _⟩ := B.wl
        rw [← z, hq] at e
        cases e
      have hq2 := f2 _ _ hq1 nqw
      have B2 := B.pull f12 W2
      by_cases h4 : iV r = V.int 4
      · rw [decT h4, if_pos rfl]
        have to2 := B2.lw.to
        have h0 : 0 < G.nx := by
          cases e : G.ns with
          | nil => exact absurd e hne
          | cons a r0 => exact Nat.lt_of_le_of_lt (Nat.zero_le a) (B.wf.lt a (by rw [e]; exact List.mem_cons_self))
        refine sq_as (opW (sortedW (F := fun n => .ref (L.tv n)) (at_var rfl) B2.lw.tw B.wf.so fun p hp => lst1W (opW (opW (cb1 (at_then (at_var rfl) ⟨L.to, (List.range G.nx).map fun (n : Nat) => (n : Int), rfl, by rw [← ns_int]; exact SqL.of (same_new hp _ _ to2), by rw [List.length_map, List.length_range]; exact h0, fun m hm _ => at_then at_c ⟨m, 1, rfl, rfl, wp_call (ata_cons (at_var rfl) (ata_cons at_c ata_nil)) ⟨wl, 3, rfl, by decide, by decide, W2.same (same_new hp), fun r3 H3 hr3 f3 W3 => ⟨m + 1, r3, rfl, rfl, z1, fun p2 hp2 => ?_⟩⟩⟩⟩))))))
        obtain ⟨m0, _, rfl⟩ := List.mem_map.mp hm
        have f13 := (f12.trans (Fr.same (same_new (o := .lst (G.ns.map iV)) hp))).trans f3
        have npw : p ≠ wl := fun z => by
          obtain ⟨_, _, _, _, e, _⟩ := W2
          rw [← z, hp] at e
          cases e
        have hp3 : H3 p = some (.lst (G.ns.map iV)) := f3 _ _ upd_same npw
        refine ⟨p, p2, _, _, rfl, rfl, same_new hp2 _ _ hp3, upd_same, zl (by rw [List.length_map]; show _ + 1 ≤ _; omega), fun p3 hp3' => ?_⟩
        have s4 := (same_new (o := .lst [.int ((m0 : Int) + 1 + (r3 : Int))]) hp2).trans (same_new (o := .lst (G.ns.map iV ++ [.int ((m0 : Int) + 1 + (r3 : Int))])) hp3')
        have f14 := f13.trans (Fr.same s4)
        have W4 := W3.same s4
        have nlw : p3 ≠ wl := fun z => by
          obtain ⟨_, _, _, _, e, _⟩ := W3.same (same_new (o := .lst [.int ((m0 : Int) + 1 + (r3 : Int))]) hp2)
          rw [← z, hp3'] at e
          cases e
        have hl4 : upd (upd H3 p2 (.lst [.int ((m0 : Int) + 1 + (r3 : Int))])) p3 (.lst (G.ns.map iV ++ [.int ((m0 : Int) + 1 + (r3 : Int))])) p3 = some (.lst ((G.ns ++ [m0 + 1 + r3]).map iV)) := by
          rw [upd_same, List.map_append]
          rfl
        generalize upd (upd H3 p2 (.lst [.int ((m0 : Int) + 1 + (r3 : Int))])) p3 (.lst (G.ns.map iV ++ [.int ((m0 : Int) + 1 + (r3 : Int))])) = H4 at s4 f14 W4 hl4 ⊢
        refine as_ (lcWR (wp_call (ata_cons (at_var rfl) (ata_cons at_c ata_nil)) ⟨wl, 6, rfl, by decide, by decide, W4, fun r6 H5 hr6 f5 W5 => ?_⟩))
        have f15 := f14.trans f5
        have hl5 := f5 _ _ hl4 nlw
        refine lcPk (fun D j H' => ∃ cs : List Nat, H' D = some (.lst (cs.map iV)) ∧ cs.length = j ∧ Fr (fun a => a = wl) H H' ∧ WellOk H' wl ∧ H' p3 = some (.lst ((G.ns ++ [m0 + 1 + r3]).map iV))) (by omega) (fun D hD => ⟨[], upd_same, rfl, f15.trans (Fr.same (same_new hD)), W5.same (same_new hD), same_new hD _ _ hl5⟩) (fun D hD j H' hj I => ?_) fun D hD H' I => ?_
        · obtain ⟨cs, hD', hcl, f6, W6, hl6⟩ := I
          have hDH : H D = none := W0free B.wl f15 W5 hD
          refine wp_call (ata_cons (at_var rfl) (ata_cons (at_var rfl) ata_nil)) ⟨wl, p3, _, rfl, W6, hl6, nlw, by simp, by rw [List.length_append]; show _ + 1 < 1000; omega, fun c H7 hc f7 W7 => ?_⟩
          have nDw : D ≠ wl := fun z => by
            obtain ⟨_, _, _, _, e, _⟩ := B.wl
            rw [← z, hDH] at e
            cases e
          have hD7 := f7 _ _ hD' nDw
          have nDp : p3 ≠ D := ne_of_none hl5 hD
          refine ⟨cs.map iV, hD7, zlt (by rw [List.length_map]; omega), cs ++ [c], by rw [upd_same, List.map_append]; rfl, by rw [List.length_append, hcl]; rfl, Fr.mut (f6.trans f7) hDH, ?_, ?_⟩
          · obtain ⟨a1, a2, a3, a4, a5, a6⟩ := W7
            exact ⟨a1, a2, a3, a4, by rw [upd_ne nDw.symm]; exact a5, a6⟩
          · rw [upd_ne nDp]
            exact f7 _ _ hl6 nlw
        · obtain ⟨cs, hD', hcl, f6, W6, hl6⟩ := I
          exact cont _ _ ⟨D, cs, _, _, _, rfl, f6, W6, W0free B.wl f15 W5 hD, hD', by omega⟩
      · rw [decF h4]
        exact cont _ _ ⟨q, bs, _, _, _, rfl, f12, W2, hq, hq2, by omega⟩
end
end Tw

set_option Elab.async false
set_option linter.all false
set_option maxRecDepth 100000
set_option maxHeartbeats 4000000
/-! The law: swept. -/
namespace Tw
open PySem PySem.Spec PyProof.Rows L2 LamX
open He (ga ma)
open scoped Classical
theorem lcKd {σ : L2.St} {H : Hp} {Q : VK} {tl : TE} {tt : TT} {a : Addr} {ns : List Nat} {i : Nat} {F : Nat → V} {od : Obj} (f : Nat → Bool) (hl : At tl σ H (.ref a)) (hx : H a = some (.frz od (.dK (dM ns F)))) (hz : ns.length ≤ 10000) (turn : ∀ n ∈ ns, ∀ H', Same H H' → SmT tt ((wipe σ [i]).set i (some (iV n))) H' (f n))
    (done : ∀ D H', H D = none → Same H H' → H' D = some (.lst ((ns.filter f).map iV)) → Q (.ref D) H') (hi : ∀ y, ((wipe σ [i]).set i (some y))[i]? = some (some y) := by intro y; rfl) : tLc (iKeys tl) (gName i) tt (tVar i) [i] σ H Q := by
  refine hl _ ⟨a, od, rfl, .inl ⟨_, hx, fun D hD => ⟨fun j m H' => m = ns.length - j ∧ j ≤ ns.length ∧ Same H H' ∧ H' D = some (.lst (((ns.take j).filter f).map iV)), ⟨ns.length, rfl, Nat.zero_le _, same_new hD, upd_same⟩, ?_⟩⟩⟩
  rintro j m H' ⟨rfl, hj, s, hd⟩
  have hlen : (dM ns F).length = ns.length := dM_length ns F
  by_cases hlt : j < ns.length
  · refine .inr ⟨⟨s _ _ hx, by rw [hlen]; exact hlt⟩, fun H2 => Same H H2 ∧ H2 D = some (.lst (((ns.take (j + 1)).filter f).map iV)), fun H2 I2 => ⟨ns.length - (j + 1), by omega, rfl, hlt, I2⟩, fun x H2 hy => ?_⟩
    obtain ⟨e, k, v, hk, ex⟩ := hy
    subst e
    have hn : ns[j]? = some ns[j] := List.getElem?_eq_getElem hlt
    unfold dM at hk
    rw [List.getElem?_map, hn] at hk
    cases hk
    subst ex
    exact lcN_turn hD hz f (by rw [List.getElem?_map, hn]; rfl) ⟨s, hd⟩ turn hi
  · have e : j = ns.length := by omega
    subst e
    rw [List.take_length] at hd
    exact .inl ⟨⟨s _ _ hx, by rw [hlen]; exact Nat.le_refl _⟩, done D H' hD s hd⟩
theorem forW1 {K : PySem.W.Frag} {σ : L2.St} {H : Hp} {tl : TE} {g : TG} {tbd : TS} {D : Ends} (h : tl σ H fun x H1 => tFor (iList K (tC x)) g tbd D σ H1) : tFor (iList K tl) g tbd D σ H := h
theorem sq_lock {t u : TS} {D : Ends} {σ : L2.St} {H : Hp} {d : Addr} {o : HO} (h : H d = some o) (m : Mut (some o)) (k : ∀ od, t ⟨fun σ' H' => H' d = some (.frz od o) ∧ u D σ' (upd H' d o), fun v H' => H' d = some (.frz od o) ∧ D.rt v (upd H' d o), fun σ' H' => H' d = some (.frz od o) ∧ D.bk σ' (upd H' d o), fun σ' H' => H' d = some (.frz od o) ∧ D.ct σ' (upd H' d o)⟩ σ (upd H d (.frz od o))) : tSeq (tLock t) u D σ H := ⟨d, o, h, m, k⟩
/-- what a search downwards has found -/
structure Fnd (G : Gs) (fs td : List Nat) : Prop where
  nd : fs.Nodup
  f : ∀ n ∈ fs, n ∈ G.ns ∧ Live G n
  t : ∀ n ∈ td, n ∈ G.ns ∧ Live G n
  h : ∀ n ∈ G.ns, 0 < G.h n → n ∈ fs ∨ n ∈ td
  b : ∀ n ∈ fs, ∀ bs, G.t n = .stem bs → ∀ b ∈ bs, b ∈ fs ∨ b ∈ td
theorem Fnd.done {G : Gs} {fs : List Nat} (w : Wb G) (q : Fnd G fs []) : ∀ {n : Nat}, Live G n → n ∈ G.ns → n ∈ fs := by
  intro n l
  induction l with
  | held h => exact fun hn => (q.h _ hn h).elim id fun z => absurd z List.not_mem_nil
  | @up n m hm l ih =>
    intro hn
    obtain ⟨h1, bs, h2, h3⟩ := (w.ab n hn m).mp hm
    exact (q.b m (ih h1) bs h2 n h3).elim id fun z => absurd z List.not_mem_nil
def spSwept : Sp := fun vs H Q _ => ∃ g L G, vs = [.ref L.tw, .ref L.ho] ∧ LwAt g H L G ∧ Wb G ∧ ∀ H', Fr (fun a => a = L.tw ∨ a = L.ho) H H' → LwAt g H' L (sweepG G) → Q .non H'
theorem sub_len : ∀ {xs ys : List Nat}, xs.Nodup → (∀ x ∈ xs, x ∈ ys) → xs.length ≤ ys.length
  | [], _, _, _ => Nat.zero_le _
  | x :: r, ys, nd, h => by
    rw [List.nodup_cons] at nd
    have hx := h x List.mem_cons_self
    have := sub_len (xs := r) (ys := ys.erase x) nd.2 fun y hy => (List.mem_erase_of_ne fun e => nd.1 (by rw [← e]; exact hy)).mpr (h y (List.mem_cons_of_mem _ hy))
    rw [List.length_erase_of_mem hx] at this
    have := List.length_pos_of_mem hx
    rw [List.length_cons]
    omega
section
variable {P : Program} {w : World} {K : PySem.W.Frag} {mg : Str → Option Value} {base : Heap}
theorem sc__law_swept : FnScope ["_law_twigs", "_law_holds", "_law_todo", "_law_found", "_law_number", "_law_here"] ["_law_twigs", "_law_holds"] (defScope (top 41)) := ⟨rfl, rfl, rfl, by decide +kernel, rfl, by decide +kernel, by decide +kernel⟩
theorem ok__law_swept (T : TX K mg) (F : Fd K "_law_swept" "_law_swept" (top 41) (ga K "_law_swept")) : OkF P w K mg base CX0 1 (ga K "_law_swept") ["_law_twigs", "_law_holds"] spSwept := by
  refine mkOk F sc__law_swept (fun vs H Q E h => ?_) (fun _ _ _ _ _ _ us hl => match us, hl with | [_, _], _ => rfl) (fun cdv A outer s H vs Q E hr h => ?_)
  · obtain ⟨g, L, G, rfl, _⟩ := h
    rfl
  · obtain ⟨g, L, G, rfl, A0, wb, k⟩ := h
    have hu := hu_of hr
    have nd := sc__law_swept.nd
    refine ⟨_, (pss_cons (ps_lock (ps_setLc (i := 2) (own := [("_law_number", 4)]) (by rfl) nd rfl rfl (sw_true rfl rfl rfl (by decide +kernel)) (pi_keys (pv 0)) (blkOk_by (N := ["_law_twigs", "_law_holds", "_law_todo", "_law_found", "_law_number", "_law_here"]) (sc := defScope (top 41)) (own := [("_law_number", 4)]) (by decide +kernel)) (fun _ _ _ _ _ => (pg_name (i := 4) nd rfl (by first | exact Or.inl rfl | exact Or.inr rfl))) (fun _ _ _ _ _ => (pts_one (pt_cmpR op_gt (pe_dget hu (pv 1) (pv 4) (fun _ _ => rfl)) pe_int (nomark _)))) (fun _ _ _ _ _ => pv 4)))
      (pss_cons (ps_set (i := 3) nd rfl (by first | exact Or.inl rfl | exact Or.inr rfl) pe_dnewK)
      (pss_cons (ps_while PassesOwn.never (pt_cmpR (op_neD hr.units) (pv 2) (pe_lst pa_nil) (nomark _)) (pss_cons (ps_set (i := 5) nd rfl (by first | exact Or.inl rfl | exact Or.inr rfl) (pe_bm0 PySem.F.plainAttrs_list PySem.F.slot_list_pop PySem.F.type_list_pop (mt_pop) (pv 2)))
      (pss_one (ps_if (pt_cmp (pc_dnotin hu (pv 5) (pv 3))) (pss_cons (ps_dput hu (pv 3) (pv 5) pe_bl rfl)
      (pss_one (ps_if (pt_cmpR op_eq (pe_ix ix_tup (pe_dget hu (pv 0) (pv 5) (fun _ _ => rfl)) pe_int (fun _ _ => rfl)) pe_str (nomark _)) (pss_one (ps_set (i := 2) nd rfl (by first | exact Or.inl rfl | exact Or.inr rfl) (pe_op op_cat (pv 2) (pe_callTy (call_list_of) rfl T.f_list bt_list (pa_cons (pe_ix ix_tup (pe_dget hu (pv 0) (pv 5) (fun _ _ => rfl)) pe_int (fun _ _ => rfl)) pa_nil))))) pss_nil))) pss_nil))))
      (pss_one (ps_for PassesOwn.never rfl (pi_list (pe_callB (cr_sortedK rfl) rfl T.f_sorted bt_sorted (pa_cons (pv 0) pa_nil))) (pg_name (i := 4) nd rfl (by first | exact Or.inl rfl | exact Or.inr rfl)) (pss_one (ps_if (pt_cmp (pc_dnotin hu (pv 4) (pv 3))) (pss_cons (ps_expr (pe_dpop1 (pv 0) (pv 4) ⟨rfl, rfl, rfl, rfl⟩))
      (pss_one (ps_expr (pe_dpop1 (pv 1) (pv 4) ⟨rfl, rfl, rfl, rfl⟩)))) pss_nil))))))), ?_⟩
    have hz : G.ns.length ≤ 900 := Nat.le_trans (rise_le wb.so wb.lt) A0.nz
    have ndns : G.ns.Nodup := wb.so.imp fun q => Nat.ne_of_lt q
    refine sq_lock A0.tw trivial fun od => as_ (lcKd (fun n => decide (0 < G.h n)) (at_var rfl) upd_same (by omega) (fun n hn H2 s2 => (att_test (at_I0 (at_dget (at_var rfl) (at_var rfl) (dget_dM (F := fun n => .int (G.h n)) (s2 _ _ (by rw [upd_ne A0.th.symm]; exact A0.ho)) hn)) at_c rfl)).sm) fun D H2 hD s2 hD2 => ?_)
    have hDH : H D = none := (upd_none hD).2
    have hDt : D ≠ L.tw := (upd_none hD).1
    refine ⟨s2 _ _ upd_same, ?_⟩
    have s3 : Same H (upd H2 L.tw (.dK (dM G.ns fun n => .ref (L.tv n)))) := fun a o e => by
      by_cases z : a = L.tw
      · subst z
        rw [A0.tw] at e
        cases e
        exact upd_same
      · rw [upd_ne z]
        exact s2 a o (by rw [upd_ne z]; exact e)
    have hD3 : upd H2 L.tw (.dK (dM G.ns fun n => .ref (L.tv n))) D = some (.lst ((G.ns.filter fun n => decide (0 < G.h n)).map iV)) := by
      rw [upd_ne hDt]
      exact hD2
    generalize upd H2 L.tw (.dK (dM G.ns fun n => .ref (L.tv n))) = H3 at s3 hD3 ⊢
    refine sq_as fun fq hfq => ?_
    have s4 := s3.trans (same_new (o := .dK []) hfq)
    have hD4 := same_new (o := .dK []) hfq _ _ hD3
    have hfH : H fq = none := s3.free hfq
    have hf4 : upd H3 fq (.dK []) fq = some (.dK (dM [] fun _ => .bl true)) := upd_same
    have hDf : D ≠ fq := ne_of_none hD3 hfq
    generalize upd H3 fq (.dK []) = H4 at s4 hD4 hf4 ⊢
    refine sq_while (fun m σ' H' => ∃ tq td fs x5, σ' = [some (.ref L.tw), some (.ref L.ho), some (.ref tq), some (.ref fq), none, x5] ∧ Same H H' ∧ H tq = none ∧ tq ≠ fq ∧ H' tq = some (.lst (td.map iV)) ∧ H' fq = some (.dK (dM fs fun _ => .bl true)) ∧ Fnd G fs td ∧ td.length + 4 * (G.ns.length - fs.length) ≤ 5 * G.ns.length ∧ m = 5 * (G.ns.length - fs.length) + td.length) _
      ⟨D, G.ns.filter fun n => decide (0 < G.h n), [], none, rfl, s4, hDH, hDf, hD4, hf4, ⟨.nil, fun n hn => absurd hn List.not_mem_nil, fun n hn => ?_, fun n hn hh => .inr (List.mem_filter.mpr ⟨hn, decT hh⟩), fun n hn => absurd hn List.not_mem_nil⟩, by have := List.length_filter_le (fun n => decide (0 < G.h n)) G.ns; rw [List.length_nil]; omega, rfl⟩ ?_
    · obtain ⟨h1, h2⟩ := List.mem_filter.mp hn
      exact ⟨h1, .held (of_decide_eq_true h2)⟩
    rintro m σ' H5 ⟨tq, td, fs, x5, rfl, s5, htq, htf, hq5, hf5, q, hb, rfl⟩
    have hfl : fs.length ≤ G.ns.length := sub_len q.nd fun x hx => (q.f x hx).1
    refine ⟨!td.isEmpty, smt_test (sm_neNil (at_var rfl) hq5), fun hbt H6 s6 => ?_, fun hbt H6 s6 => ?_⟩
    · obtain ⟨ts, x, et⟩ : ∃ ts x, td = ts ++ [x] := by
        have hne : td ≠ [] := fun e => by rw [e] at hbt; cases hbt
        exact ⟨td.dropLast, td.getLast hne, (List.dropLast_concat_getLast hne).symm⟩
      subst et
      have hx := q.t x (List.mem_append_right _ (List.mem_singleton.mpr rfl))
      have hq6 := s6 _ _ hq5
      have hf6 := s6 _ _ hf5
      refine sq_as (pop_ (at_var rfl) hq6 ?_)
      have s7 : Same H (upd H6 tq (.lst (ts.map iV))) := same_mut (s5.trans s6) htq
      have hq7 : upd H6 tq (.lst (ts.map iV)) tq = some (.lst (ts.map iV)) := upd_same
      have hf7 : upd H6 tq (.lst (ts.map iV)) fq = some (.dK (dM fs fun _ => .bl true)) := by
        rw [upd_ne htf.symm]
        exact hf6
      generalize upd H6 tq (.lst (ts.map iV)) = H7 at s7 hq7 hf7 ⊢
      have A7 := A0.same s7
      have el : (ts ++ [x]).length = ts.length + 1 := by rw [List.length_append]; rfl
      rw [el] at hb
      by_cases hxf : x ∈ fs
      · refine st_Fn (att_B (at_is (at_dnin (at_var rfl) (at_var rfl) (dget_dM (F := fun _ => .bl true) hf7 hxf)) rfl)) ⟨_, ?_, tq, ts, fs, _, rfl, s7, htq, htf, hq7, hf7, ⟨q.nd, q.f, fun n hn => q.t n (List.mem_append_left _ hn), fun n hn hh => ?_, fun n hn bs e b hb2 => ?_⟩, by omega, rfl⟩
        · rw [el]; omega
        · rcases q.h n hn hh with z | z
          · exact .inl z
          · rcases List.mem_append.mp z with z | z
            · exact .inr z
            · rw [List.mem_singleton.mp z]
              exact .inl hxf
        · rcases q.b n hn bs e b hb2 with z | z
          · exact .inl z
          · rcases List.mem_append.mp z with z | z
            · exact .inr z
            · rw [List.mem_singleton.mp z]
              exact .inl hxf
      · have hfl2 : fs.length + 1 ≤ G.ns.length := by
          have := sub_len (xs := x :: fs) (ys := G.ns) (List.nodup_cons.mpr ⟨hxf, q.nd⟩) fun y hy => (List.mem_cons.mp hy).elim (fun e => e ▸ hx.1) fun h => (q.f y h).1
          rw [List.length_cons] at this
          exact this
        refine st_T (att_B (at_is (at_dnin (at_var rfl) (at_var rfl) (dnone_dM (F := fun _ => .bl true) hf7 hxf)) rfl)) (sq_dput at_c (at_var rfl) (at_var rfl) (dput_new (F := fun _ => .bl true) hf7 hxf (by omega)) ?_)
        have s8 : Same H (upd H7 fq (.dK (dM (fs ++ [x]) (setF (fun _ => .bl true) x (.bl true))))) := same_mut s7 hfH
        have ef : setF (fun _ => V.bl true) x (.bl true) = fun _ => V.bl true := funext fun n => by
          unfold setF
          split <;> rfl
        have hq8 : upd H7 fq (.dK (dM (fs ++ [x]) (setF (fun _ => .bl true) x (.bl true)))) tq = some (.lst (ts.map iV)) := by
          rw [upd_ne htf]
          exact hq7
        have hf8 : upd H7 fq (.dK (dM (fs ++ [x]) (setF (fun _ => .bl true) x (.bl true)))) fq = some (.dK (dM (fs ++ [x]) fun _ => .bl true)) := by
          rw [upd_same, ef]
        generalize upd H7 fq (.dK (dM (fs ++ [x]) (setF (fun _ => .bl true) x (.bl true)))) = H8 at s8 hq8 hf8 ⊢
        have A8 := A0.same s8
        have nd2 : (fs ++ [x]).Nodup := List.nodup_append.mpr ⟨q.nd, List.nodup_cons.mpr ⟨List.not_mem_nil, .nil⟩, fun a ha b hb2 e => hxf (by rw [← List.mem_singleton.mp hb2, ← e]; exact ha)⟩
        have f2 : ∀ n ∈ fs ++ [x], n ∈ G.ns ∧ Live G n := fun n hn => (List.mem_append.mp hn).elim (q.f n) fun h => by rw [List.mem_singleton.mp h]; exact hx
        have mv : ∀ n, n ∈ fs ∨ n ∈ ts ++ [x] → n ∈ fs ++ [x] ∨ n ∈ ts := fun n h => by
          rcases h with h | h
          · exact .inl (List.mem_append_left _ h)
          · rcases List.mem_append.mp h with h | h
            · exact .inr h
            · exact .inl (List.mem_append_right _ h)
        have fl3 : (fs ++ [x]).length = fs.length + 1 := by rw [List.length_append]; rfl
        obtain ⟨ht, xs, hw, hxs⟩ := A8.kd x hx.1
        cases et : G.t x with
        | leaf rows =>
          rw [et] at ht
          refine st_Fn (att_test (at_eq (at_ixT (at_dget (at_var rfl) (at_var rfl) (A8.dgt hx.1)) at_c ht (atI_nat (j := 0) rfl)) at_c rfl (by rw [dec_str]; exact decF (show ¬ ("leaf" : Str) = "stem" by decide)))) ⟨_, ?_, tq, ts, fs ++ [x], _, rfl, s8, htq, htf, hq8, hf8, ⟨nd2, f2, fun n hn => q.t n (List.mem_append_left _ hn), fun n hn hh => mv n (q.h n hn hh), fun n hn bs e b hb2 => ?_⟩, by rw [fl3]; omega, rfl⟩
          · rw [el, fl3]; omega
          · rcases List.mem_append.mp hn with hn | hn
            · exact mv b (q.b n hn bs e b hb2)
            · rw [List.mem_singleton.mp hn, et] at e
              cases e
        | stem bs =>
          rw [et] at ht
          have hw2 := A8.bs hx.1 et
          obtain ⟨k1, k2, k3⟩ := wb.st x hx.1 bs et
          refine st_T (att_test (at_eq (at_ixT (at_dget (at_var rfl) (at_var rfl) (A8.dgt hx.1)) at_c ht (atI_nat (j := 0) rfl)) at_c rfl (by rw [dec_str]; exact decT rfl))) (as_ (opW (at_then (at_var rfl) (cb1 (at_then (at_ixT (at_dget (at_var rfl) (at_var rfl) (A8.dgt hx.1)) at_c ht (atI_nat (j := 1) rfl)) ⟨L.wh x, bs.map iV, rfl, .inl (SqL.of hw2), fun l hl => ⟨tq, l, ts.map iV, bs.map iV, rfl, rfl, same_new hl _ _ hq8, upd_same, zl (by rw [List.length_map, List.length_map]; omega), fun r hr => ?_⟩⟩)))))
          have s9 := (same_new (o := .lst (bs.map iV)) hl).trans (same_new (o := .lst (ts.map iV ++ bs.map iV)) hr)
          refine ⟨_, ?_, r, ts ++ bs, fs ++ [x], _, rfl, s8.trans s9, s8.free (upd_none hr).2, ?_, by rw [upd_same, List.map_append], s9 _ _ hf8, ⟨nd2, f2, fun n hn => ?_, fun n hn hh => (mv n (q.h n hn hh)).imp id fun z => List.mem_append_left _ z, fun n hn cs e b hb2 => ?_⟩, by rw [fl3, List.length_append]; omega, rfl⟩
          · rw [el, fl3, List.length_append]; omega
          · exact (ne_of_none (same_new (o := .lst (bs.map iV)) hl _ _ hf8) hr).symm
          · rcases List.mem_append.mp hn with hn | hn
            · exact q.t n (List.mem_append_left _ hn)
            · exact ⟨(k3 n hn).1, .up ((wb.ab n (k3 n hn).1 x).mpr ⟨hx.1, bs, et, hn⟩) hx.2⟩
          · rcases List.mem_append.mp hn with hn | hn
            · exact (mv b (q.b n hn cs e b hb2)).imp id fun z => List.mem_append_left _ z
            · rw [List.mem_singleton.mp hn, et] at e
              cases e
              exact .inr (List.mem_append_right _ hb2)
    · have e : td = [] := by
        cases td with
        | nil => rfl
        | cons a r => cases hbt
      subst e
      have s56 := s5.trans s6
      have A6 := A0.same s56
      have hf6 := s6 _ _ hf5
      refine forW1 (sortedW (F := fun n => .ref (L.tv n)) (at_var rfl) A6.tw wb.so fun p hp => ?_)
      have s7 := s56.trans (same_new (o := .lst (G.ns.map iV)) hp)
      have A7 := A0.same s7
      have hf7 := same_new (o := .lst (G.ns.map iV)) hp _ _ hf6
      have hp7 : upd H6 p (.lst (G.ns.map iV)) p = some (.lst (G.ns.map iV)) := upd_same
      generalize upd H6 p (.lst (G.ns.map iV)) = H7 at s7 A7 hf7 hp7 ⊢
      have nf : fq ≠ L.tw ∧ fq ≠ L.ho := ⟨(ne_of_none A0.tw hfH).symm, (ne_of_none A0.ho hfH).symm⟩
      have np : p ≠ L.tw ∧ p ≠ L.ho := ⟨ne_of hp7 A7.tw (by intro z; cases z), ne_of hp7 A7.ho (by intro z; cases z)⟩
      refine st_forL at_c hp7 (fun i σ' H' => (∃ x4, σ' = [some (.ref L.tw), some (.ref L.ho), some (.ref tq), some (.ref fq), x4, x5]) ∧ Fr (fun a => a = L.tw ∨ a = L.ho) H7 H' ∧ H' L.tw = some (.dK (dM (G.ns.filter fun n => decide (n ∈ fs ∨ n ∉ G.ns.take i)) fun n => .ref (L.tv n))) ∧ H' L.ho = some (.dK (dM (G.ns.filter fun n => decide (n ∈ fs ∨ n ∉ G.ns.take i)) fun n => .int (G.h n))))
        ⟨⟨_, rfl⟩, Fr.refl _ _, ?_, ?_⟩ (fun i σ' H' I => I.2.1 _ _ hp7 fun z => z.elim np.1 np.2) (fun i x σ' H' hx I => ?_) fun σ' H' I => ?_
      · rw [List.filter_eq_self.mpr fun a _ => by simp]
        exact A7.tw
      · rw [List.filter_eq_self.mpr fun a _ => by simp]
        exact A7.ho
      · obtain ⟨⟨x0, rfl⟩, fr, h1, h2⟩ := I
        rw [List.getElem?_map] at hx
        obtain ⟨n, hn, rfl⟩ := Option.map_eq_some_iff.mp hx
        have hf8 := fr _ _ hf7 fun z => z.elim nf.1 nf.2
        have et1 : G.ns.take (i + 1) = G.ns.take i ++ [n] := by
          rw [List.take_add_one, hn]
          rfl
        have hnt : n ∉ G.ns.take i := fun z => by
          have nt : (G.ns.take (i + 1)).Nodup := ndns.sublist (List.take_sublist _ _)
          rw [et1] at nt
          exact (List.nodup_append.mp nt).2.2 n z n (List.mem_singleton.mpr rfl) rfl
        have hnm := List.mem_of_getElem? hn
        by_cases hnf : n ∈ fs
        · have eq1 : (G.ns.filter fun m => decide (m ∈ fs ∨ m ∉ G.ns.take (i + 1))) = G.ns.filter fun m => decide (m ∈ fs ∨ m ∉ G.ns.take i) := List.filter_congr fun m _ => by
            rw [decide_eq_decide, et1, List.mem_append, List.mem_singleton, not_or]
            exact ⟨fun h => h.imp id fun h => h.1, fun h => h.elim .inl fun h => (Classical.em (m = n)).elim (fun e => .inl (e ▸ hnf)) fun e => .inr ⟨h, e⟩⟩
          refine st_Fn (att_B (at_is (at_dnin (at_var rfl) (at_var rfl) (dget_dM (F := fun _ => .bl true) hf8 hnf)) rfl)) ⟨⟨_, rfl⟩, fr, by rw [eq1]; exact h1, by rw [eq1]; exact h2⟩
        · have hnr : n ∈ G.ns.filter fun m => decide (m ∈ fs ∨ m ∉ G.ns.take i) := List.mem_filter.mpr ⟨hnm, decT (.inr hnt)⟩
          have eq1 : (G.ns.filter fun m => decide (m ∈ fs ∨ m ∉ G.ns.take (i + 1))) = (G.ns.filter fun m => decide (m ∈ fs ∨ m ∉ G.ns.take i)).filter (· ≠ n) := by
            rw [List.filter_filter]
            refine List.filter_congr fun m _ => ?_
            rw [← Bool.decide_and, decide_eq_decide, et1, List.mem_append, List.mem_singleton, not_or]
            exact ⟨fun h => h.elim (fun h => ⟨fun e => hnf (e ▸ h), .inl h⟩) fun h => ⟨h.2, .inr h.1⟩, fun h => h.2.imp id fun z => ⟨z, h.1⟩⟩
          refine st_T (att_B (at_is (at_dnin (at_var rfl) (at_var rfl) (dnone_dM (F := fun _ => .bl true) hf8 hnf)) rfl)) (sq_dr (dpop_ (F := fun n => .ref (L.tv n)) (at_var rfl) (at_var rfl) h1 hnr ?_))
          refine dr_ (dpop_ (F := fun n => .int (G.h n)) (at_var rfl) (at_var rfl) (by rw [upd_ne A0.th.symm]; exact h2) hnr ⟨⟨_, rfl⟩, fr.trans ((Fr.upd (.inl rfl)).trans (Fr.upd (.inr rfl))), ?_, ?_⟩)
          · rw [upd_ne A0.th, upd_same, dropK_dM, eq1]
          · rw [upd_same, dropK_dM, eq1]
      · obtain ⟨⟨x0, rfl⟩, fr, h1, h2⟩ := I
        rw [List.length_map, List.take_length] at h1 h2
        have en : (G.ns.filter fun n => decide (n ∈ fs ∨ n ∉ G.ns)) = (sweepG G).ns := List.filter_congr fun n hn => by
          rw [decide_eq_decide]
          exact ⟨fun h => h.elim (fun h => (q.f n h).2) fun h => absurd hn h, fun l => .inl (q.done wb l hn)⟩
        rw [en] at h1 h2
        have f0 : Fr (fun a => a = L.tw ∨ a = L.ho) H H' := (Fr.same s7).trans fr
        have tk : TK H H' := f0.tk fun a o h e xs z => by
          subst z
          rcases h with h | h <;> subst h
          · rw [A0.tw] at e; cases e
          · rw [A0.ho] at e; cases e
        obtain ⟨gs, g1, g2⟩ := A0.gr
        have three : ∀ a xs, H a = some (.lst xs) → ¬ (a = L.tw ∨ a = L.ho) := fun a xs e z => by
          rcases z with z | z <;> subst z
          · rw [A0.tw] at e; cases e
          · rw [A0.ho] at e; cases e
        have sub : ∀ n ∈ (sweepG G).ns, n ∈ G.ns := fun n hn => (List.mem_filter.mp hn).1
        exact k H' f0 ⟨h1, h2, ⟨gs, f0 _ _ g1 (three _ _ g1), g2.mono tk _ _⟩, f0 _ _ A0.to (three _ _ A0.to), fun n hn => by
          obtain ⟨j1, xs, j2, j3⟩ := A0.kd n (sub n hn)
          exact ⟨tk _ _ j1, xs, f0 _ _ j2 (three _ _ j2), j3.mono tk _ _⟩, A0.th, A0.gt, fun n hn => A0.wt n (sub n hn), A0.nz⟩
end
end Tw

set_option Elab.async false
set_option linter.all false
set_option maxRecDepth 100000
set_option maxHeartbeats 4000000
/-! The law: seen, looked. -/
namespace Tw
open PySem PySem.Spec PyProof.Rows L2 LamX
open He (ga ma)
theorem okS_tup {n : Nat} {ds : List PyData} (h : ∀ d ∈ ds, okS n d = true) : okS (n + 1) (.tuple ds) = true := by
  simp only [okS, List.all_eq_true]
  exact h
theorem few_tup2 {n : Nat} {ds : List PyData} (hl : ds.length ≤ 100) (h : ∀ d ∈ ds, few n d = true) : few (n + 1) (.tuple ds) = true := by
  simp only [few, Bool.and_eq_true, decide_eq_true_eq, List.all_eq_true]
  exact ⟨hl, h⟩
theorem ints_okS {n : Nat} (ns : List Nat) : ∀ d ∈ ns.map (fun (n : Nat) => PyData.int (n : Int)), okS n d = true ∧ few n d = true := fun d hd => by
  obtain ⟨m, _, rfl⟩ := List.mem_map.mp hd
  cases n <;> exact ⟨rfl, rfl⟩
theorem what_ok {g : Nat → PyData} {G : Gs} (wf : WF G) (GO : GridOk g) {n : Nat} (hn : n ∈ G.ns) : okS 4 (.tuple (whatD g (G.t n))) = true ∧ few 4 (.tuple (whatD g (G.t n))) = true := by
  cases e : G.t n with
  | leaf rows =>
    have RO := (wf.lf n hn rows e).1
    have l4 := RO.l4
    have hr : ∀ d ∈ rows.map (rowD g), okS 3 d = true ∧ few 3 d = true := fun d hd => by
      obtain ⟨r, hr, rfl⟩ := List.mem_map.mp hd
      have k := RO.k r hr
      have gk := GO.d _ k.1
      have two : ∀ d ∈ [g r.1, r.2], okS 2 d = true ∧ few 2 d = true := fun d hd => by
        rcases List.mem_cons.mp hd with h | h
        · rw [h]
          exact ⟨gk.s 1, gk.f 2⟩
        · rw [List.mem_singleton.mp h]
          exact ⟨k.2.s 1, k.2.f 2⟩
      exact ⟨okS_tup fun d hd => (two d hd).1, few_tup2 (by show 2 ≤ 100; decide) fun d hd => (two d hd).2⟩
    exact ⟨okS_tup fun d hd => (hr d hd).1, few_tup2 (by show (rows.map (rowD g)).length ≤ 100; rw [List.length_map]; omega) fun d hd => (hr d hd).2⟩
  | stem bs =>
    obtain ⟨h1, _, _⟩ := wf.st n hn bs e
    have h4 := h1.l4
    rw [List.length_map] at h4
    exact ⟨okS_tup fun d hd => (ints_okS bs d hd).1, few_tup2 (by show (bs.map _).length ≤ 100; rw [List.length_map]; omega) fun d hd => (ints_okS bs d hd).2⟩
theorem lab_ok {g : Nat → PyData} {G : Gs} (wf : WF G) (GO : GridOk g) {n : Nat} (hn : n ∈ G.ns) : okS 4 (labD g (G.l n)) = true ∧ few 4 (labD g (G.l n)) = true := by
  have k := wf.kb' hn
  have k1 := k.a
  have k2 := k.b
  have g1 := GO.d (G.l n).lo (by omega)
  have g2 := GO.d (G.l n).hi (by omega)
  have all : ∀ d ∈ [PyData.int ((G.l n).ht : Int), g (G.l n).lo, g (G.l n).hi, .int ((G.l n).cnt : Int)], okS 3 d = true ∧ few 3 d = true := fun d hd => by
    simp only [List.mem_cons, List.not_mem_nil, or_false] at hd
    rcases hd with h | h | h | h
    · rw [h]; exact ⟨rfl, rfl⟩
    · rw [h]; exact ⟨g1.s 2, g1.f 3⟩
    · rw [h]; exact ⟨g2.s 2, g2.f 3⟩
    · rw [h]; exact ⟨rfl, rfl⟩
  exact ⟨okS_tup fun d hd => (all d hd).1, few_tup2 (by show 4 ≤ 100; decide) fun d hd => (all d hd).2⟩
def spSeen (K : PySem.W.Frag) (tb : Addr) : Sp := fun vs H Q _ => ∃ g w S L G sn n, vs = [.ref S.p, iV n, .ref (L.tv n)] ∧ Bun K g tb lamQ w H S L G sn ∧ GridOk g ∧ n ∈ G.ns ∧ sn.length ≤ 90 ∧
  ∀ H' S', BTo K g tb lamQ w H S L G H' S' L G (sn ++ [n]) → Q (.bl true) H'
def spLLooked (K : PySem.W.Frag) (tb : Addr) : Sp := fun vs H Q _ => ∃ g w S L G sn zl, vs = [.ref S.p, .ref zl] ∧ Bun K g tb lamQ w H S L G sn ∧ H zl = some (.lst (sn.map iV)) ∧ sn.length ≤ 90 ∧ ∀ H', Same H H' → Q (.bl true) H'
theorem callW2 {sp : Sp} {E : XK} {σ : L2.St} {H : Hp} {t1 t2 : TE} {Q : VK} (h : t1 σ H fun x H1 => t2 σ H1 fun y H2 => sp [x, y] H2 Q E) : tCall sp [] E (tCons t1 (tCons t2 tNil)) σ H Q := h
theorem sq_notB {σ : L2.St} {H : Hp} {te : TE} {s1 u : TS} {D : Ends} (h : te σ H fun x H1 => ∃ k, x = .bl k ∧ (if (!k) = true then s1 { D with nx := u D } σ H1 else u D σ H1)) : tSeq (tIfS (tNot (tB te)) s1 tNext) u D σ H := by
  have e : tSeq (tIfS (tNot (tB te)) s1 tNext) u D σ H = (te σ H fun x H1 => ∃ k, x = .bl k ∧ (if (!k) = true then s1 { D with nx := u D } σ H1 else u D σ H1)) := rfl
  rw [e]
  exact h
theorem sq_orW {σ : L2.St} {H : Hp} {t : TT} {te : TE} {s1 u : TS} {D : Ends} (h1 : AtT t σ H false) (h : te σ H fun x H1 => ∃ k, x = .bl k ∧ (if (!k) = true then s1 { D with nx := u D } σ H1 else u D σ H1)) : tSeq (tIfS (tOr t (tNot (tB te))) s1 tNext) u D σ H := tor_F h1 h
theorem tupL {K : PySem.W.Frag} {σ : L2.St} {H : Hp} {te : TE} {a : Addr} {xs : List V} {Q : VK} (ha : At te σ H (.ref a)) (h : H a = some (.lst xs)) (k : ∀ p, H p = none → Q (.ref p) (upd H p (.tup xs))) :
    tCB (fun vs H Q => ∃ p ys, vs = [V.ref p] ∧ ((SqL K H p ys ∧ ∀ l, H l = none → Q (.ref l) (upd H l (.tup ys))) ∨ (SqT K H p ys ∧ Q (.ref p) H))) (tCons te tNil) σ H Q := cb1 (ha _ ⟨a, xs, rfl, .inl ⟨SqL.of h, k⟩⟩)
section
variable {P : Program} {w : World} {K : PySem.W.Frag} {mg : Str → Option Value} {base : Heap}
theorem sc__law_seen : FnScope ["_law_shelf", "_law_number", "_law_twig", "_law_found"] ["_law_shelf", "_law_number", "_law_twig"] (defScope (top 53)) := ⟨rfl, rfl, rfl, by decide +kernel, rfl, by decide +kernel, by decide +kernel⟩
theorem ok__law_seen (T : TX K mg) {tb : Addr} (F : Fd K "_law_seen" "_law_seen" (top 53) (ga K "_law_seen")) (G_look : OkM P w K mg base CX0 (ga K "Shelf") "look" 2 (ma K (ga K "Shelf") "look") ["self", "number"] (spLook K)) (G__law_alike : OkF P w K mg base CX0 5 (ga K "_law_alike") ["_law_found", "_law_due"] (spAlike 5)) :
    OkF P w K mg base CX0 6 (ga K "_law_seen") ["_law_shelf", "_law_number", "_law_twig"] (spSeen K tb) := by
  refine mkOk F sc__law_seen (fun vs H Q E h => ?_) (fun _ _ _ _ _ _ us hl => match us, hl with | [_, _, _], _ => rfl) (fun cdv A outer s H vs Q E hr h => ?_)
  · obtain ⟨g, wl, S, L, G, sn, n, rfl, _⟩ := h
    rfl
  · obtain ⟨g, wl, S, L, G, sn, n, rfl, B, GO, hn, hsl, k⟩ := h
    have hu := hu_of hr
    have nd := sc__law_seen.nd
    refine ⟨_, (pss_cons (ps_set (i := 3) nd rfl (by first | exact Or.inl rfl | exact Or.inr rfl) (pe_m (pv 0) T.cl G_look (hr.mono (by decide)) (pa_cons (pv 1) pa_nil)))
      (pss_cons (ps_if (PW.pt (pw_or (pt_not (pt_val (pe_callB (call_isi) rfl T.f_isinstance bt_isinstance (pa_cons (pv 3) (pa_cons (pe_bltn rfl T.f_tuple bt_tuple (v := .ty "tuple") rfl) pa_nil))))) (pw_or (pt_cmpR op_ne (pe_callB (call_len_seq) rfl T.f_len bt_len (pa_cons (pv 3) pa_nil)) pe_int (nomark _)) (pw_or (pt_cmpR op_ne (pe_ix ix_tup (pv 3) pe_int (fun _ _ => rfl)) (pe_ix ix_tup (pv 2) pe_int (fun _ _ => rfl)) (nomark _)) (pw_or1 (pt_not (pt_val (pe_callB (call_isi) rfl T.f_isinstance bt_isinstance (pa_cons (pe_ix ix_tup (pv 3) pe_int (fun _ _ => rfl)) (pa_cons (pe_bltn rfl T.f_list bt_list (v := .ty "list") rfl) pa_nil)))))))))) (pss_one (ps_ret pe_bl)) pss_nil)
      (pss_cons (ps_if (pt_not (pt_val (pe_c G__law_alike (hr.mono (by decide)) rfl T.g__law_alike (pa_cons (pe_callTy (call_tuple_of) rfl T.f_tuple bt_tuple (pa_cons (pe_ix ix_tup (pv 3) pe_int (fun _ _ => rfl)) pa_nil)) (pa_cons (pe_callTy (call_tuple_of) rfl T.f_tuple bt_tuple (pa_cons (pe_ix ix_tup (pv 2) pe_int (fun _ _ => rfl)) pa_nil)) pa_nil))))) (pss_one (ps_ret pe_bl)) pss_nil)
      (pss_cons (ps_expr (pe_bm0 PySem.F.plainAttrs_list PySem.F.slot_list_clear PySem.F.type_list_clear (mt_clear) (pe_ix ix_tup (pv 3) pe_int (fun _ _ => rfl))))
      (pss_one (ps_ret pe_bl)))))), ?_⟩
    obtain ⟨dx, ob⟩ := B.sh.c.ob
    refine sq_as (wp_meth (at_var rfl) ob rfl (ata_cons (at_var rfl) ata_nil) ⟨g, S, G, sn, n, rfl, B.sh, hn, by omega, fun H1 q wl2 xs Z hq hw hq1 hw1 hx => ?_⟩)
    have B1 := B.shelf Z (B.lw.away Z.fr (B.sh.tk Z.fr) fun a h z => B.dj a z h) B.wf ⟨rfl, rfl, rfl, rfl⟩ fun a h => h
    obtain ⟨ht, ys, hy1, hy⟩ := B1.at_.lw.kd n hn
    refine sq_Fn (att_orF (att_nT (att_B (at_isi (ata_cons (at_var rfl) (ata_cons at_c ata_nil)) (.base (.tup hq1)) kb_tup_tup))) (att_orF (att_test (at_ne (at_lenT (ata_cons (at_var rfl) ata_nil) hq1) at_c rfl (b := true) rfl)) (att_orF (att_test (at_ne (at_ixT (at_var rfl) at_c hq1 (atI_nat (j := 0) rfl)) (at_ixT (at_var rfl) at_c ht (atI_nat (j := 0) rfl)) rfl (b := true) (by rw [dec_str]; exact decT rfl)))
      (att_nT (att_B (at_isi (ata_cons (at_ixT (at_var rfl) at_c hq1 (atI_nat (j := 1) rfl)) (ata_cons at_c ata_nil)) (.base (.lst hw1)) kb_lst_lst)))))) ?_
    obtain ⟨w1, w2⟩ := what_ok B.wf GO hn
    refine sq_notB (callW2 (tupL (at_ixT (at_var rfl) at_c hq1 (atI_nat (j := 1) rfl)) hw1 fun p hp => tupL (at_ixT (at_var rfl) at_c (same_new hp _ _ ht) (atI_nat (j := 1) rfl)) (same_new hp _ _ hy1) fun p2 hp2 => ?_))
    have s2 := (same_new (o := .tup xs) hp).trans (same_new (o := .tup ys) hp2)
    refine ⟨.ref p, .ref p2, _, rfl, (Tp.mk hp hx).sm (same_new hp2), Tp.mk hp2 (hy.sm (same_new hp)), w1, w2, fun H3 s3 => ⟨true, rfl, ?_⟩⟩
    rw [if_neg (by decide)]
    have s23 := s2.trans s3
    have hq3 := s23 _ _ hq1
    have hw3 := s23 _ _ hw1
    refine sq_clear (at_ixT (at_var rfl) at_c hq3 (atI_nat (j := 1) rfl)) hw3 (st_ret at_c ?_)
    have nw : ¬ stF S L G.ns wl2 := (B.new hw).1
    have nw2 : wl2 ≠ wl := (B.new hw).2.1
    have B3 := B1.at_.same s23
    refine k _ S ⟨B3.away (F := fun a => a = wl2) (Fr.upd rfl) (TK.upd hw3 fun _ z => by cases z) (tabS_fr B3.tab (F := fun a => a = wl2) (Fr.upd rfl) fun a o h e => ?_) (fun a h z => nw (z ▸ h)) (fun z => nw2 z.symm), rfl, ⟨rfl, rfl, rfl, rfl⟩, fun a o ha hn2 ht2 => ?_, fun a h => .inl h⟩
    · subst h
      rw [hw3] at e
      cases e
      exact .inl ⟨_, rfl⟩
    · rw [upd_ne (ne_of_none ha hw)]
      exact s23 _ _ (B1.fr a o ha hn2 ht2)
theorem sc__law_looked : FnScope ["_law_shelf", "_law_seen_here", "_law_found"] ["_law_shelf", "_law_seen_here"] (defScope (top 54)) := ⟨rfl, rfl, rfl, by decide +kernel, rfl, by decide +kernel, by decide +kernel⟩
theorem ok__law_looked (T : TX K mg) {tb : Addr} (F : Fd K "_law_looked" "_law_looked" (top 54) (ga K "_law_looked")) (G_looked : OkM P w K mg base CX0 (ga K "Shelf") "looked" 1 (ma K (ga K "Shelf") "looked") ["self"] (spLooked K)) (G__law_alike : OkF P w K mg base CX0 5 (ga K "_law_alike") ["_law_found", "_law_due"] (spAlike 5)) :
    OkF P w K mg base CX0 6 (ga K "_law_looked") ["_law_shelf", "_law_seen_here"] (spLLooked K tb) := by
  refine mkOk F sc__law_looked (fun vs H Q E h => ?_) (fun _ _ _ _ _ _ us hl => match us, hl with | [_, _], _ => rfl) (fun cdv A outer s H vs Q E hr h => ?_)
  · obtain ⟨g, wl, S, L, G, sn, zl, rfl, _⟩ := h
    rfl
  · obtain ⟨g, wl, S, L, G, sn, zl, rfl, B, hz, hsl, k⟩ := h
    have hu := hu_of hr
    have nd := sc__law_looked.nd
    refine ⟨_, (pss_cons (ps_set (i := 2) nd rfl (by first | exact Or.inl rfl | exact Or.inr rfl) (pe_m0 (pv 0) T.cl G_looked (hr.mono (by decide))))
      (pss_cons (ps_if (PW.pt (pw_or (pt_not (pt_val (pe_callB (call_isi) rfl T.f_isinstance bt_isinstance (pa_cons (pv 2) (pa_cons (pe_bltn rfl T.f_list bt_list (v := .ty "list") rfl) pa_nil))))) (pw_or1 (pt_not (pt_val (pe_c G__law_alike (hr.mono (by decide)) rfl T.g__law_alike (pa_cons (pe_callTy (call_tuple_of) rfl T.f_tuple bt_tuple (pa_cons (pv 2) pa_nil)) (pa_cons (pe_callTy (call_tuple_of) rfl T.f_tuple bt_tuple (pa_cons (pv 1) pa_nil)) pa_nil)))))))) (pss_one (ps_ret pe_bl)) pss_nil)
      (pss_cons (ps_expr (pe_bm PySem.F.plainAttrs_list PySem.F.slot_list_append PySem.F.type_list_append (mt_append) (pv 2) (pa_cons pe_int pa_nil)))
      (pss_one (ps_ret (pe_c G__law_alike (hr.mono (by decide)) rfl T.g__law_alike (pa_cons (pe_callTy (call_tuple_of) rfl T.f_tuple bt_tuple (pa_cons (pe_m0 (pv 0) T.cl G_looked (hr.mono (by decide))) pa_nil)) (pa_cons (pe_callTy (call_tuple_of) rfl T.f_tuple bt_tuple (pa_cons (pv 1) pa_nil)) pa_nil)))))))), ?_⟩
    obtain ⟨dx, ob⟩ := B.sh.c.ob
    have w1 : okS 4 (.tuple (sn.map fun (n : Nat) => .int (n : Int))) = true := okS_tup fun d hd => (ints_okS sn d hd).1
    have w2 : few 4 (.tuple (sn.map fun (n : Nat) => .int (n : Int))) = true := few_tup2 (by rw [List.length_map]; omega) fun d hd => (ints_okS sn d hd).2
    refine sq_as (at_var rfl _ ⟨S.p, dx, _, rfl, ob, rfl, ⟨g, S, G, sn, rfl, B.sh, fun q hq => ?_⟩⟩)
    have s1 := same_new (o := .lst (sn.map iV)) hq
    have hq1 : upd H q (.lst (sn.map iV)) q = some (.lst (sn.map iV)) := upd_same
    generalize upd H q (.lst (sn.map iV)) = H1 at s1 hq1 ⊢
    have hz1 := s1 _ _ hz
    refine sq_orW (att_nT (att_B (at_isi (ata_cons (at_var rfl) (ata_cons at_c ata_nil)) (.base (.lst hq1)) kb_lst_lst))) (callW2 (tupL (at_var rfl) hq1 fun p hp => tupL (at_var rfl) (same_new hp _ _ hz1) fun p2 hp2 => ?_))
    have s2 := (same_new (o := .tup (sn.map iV)) hp).trans (same_new (o := .tup (sn.map iV)) hp2)
    refine ⟨.ref p, .ref p2, _, rfl, (Tp.mk hp (ints_tp sn)).sm (same_new hp2), Tp.mk hp2 (ints_tp sn), w1, w2, fun H3 s3 => ⟨true, rfl, ?_⟩⟩
    rw [if_neg (by decide)]
    have s23 := s2.trans s3
    have hq3 := s23 _ _ hq1
    have s13 := s1.trans s23
    refine sq_app (at_var rfl) hq3 at_c (by rw [List.length_map]; omega) ?_
    have s4 : Same H (upd H3 q (.lst (sn.map iV ++ [.int 0]))) := same_mut s13 hq
    have B4 := B.same s4
    have hz4 := s4 _ _ hz
    generalize upd H3 q (.lst (sn.map iV ++ [.int 0])) = H4 at s4 B4 hz4 ⊢
    obtain ⟨dx4, ob4⟩ := B4.sh.c.ob
    refine rt_ (callW2 (cb1 (at_var rfl _ ⟨S.p, dx4, _, rfl, ob4, rfl, ⟨g, S, G, sn, rfl, B4.sh, fun q2 hq2 => ⟨q2, _, rfl, .inl ⟨SqL.of upd_same, fun p hp => tupL (at_var rfl) (same_new hp _ _ (same_new hq2 _ _ hz4)) fun p2 hp2 => ?_⟩⟩⟩⟩)))
    have s5 := (same_new (o := .lst (sn.map iV)) hq2).trans ((same_new (o := .tup (sn.map iV)) hp).trans (same_new (o := .tup (sn.map iV)) hp2))
    exact ⟨.ref p, .ref p2, _, rfl, (Tp.mk hp (ints_tp sn)).sm (same_new hp2), Tp.mk hp2 (ints_tp sn), w1, w2, fun H6 s6 => k H6 ((s4.trans s5).trans s6)⟩
end
end Tw

set_option Elab.async false
set_option linter.all false
set_option maxRecDepth 100000
set_option maxHeartbeats 4000000
/-! The law: what is no look. -/
namespace Tw
open PySem PySem.Spec PyProof.Rows L2 LamX
open He (ga ma)
theorem cut_init (xs : List V) : cutV xs none (some (-1)) = xs.dropLast := by
  have h0 : HT.sIx xs.length 0 none = 0 := by
    simp [HT.sIx]
  have h1 : HT.sIx xs.length xs.length (some (-1)) = xs.length - 1 := by
    unfold HT.sIx
    simp
    try omega
  unfold cutV
  rw [h0, h1, List.drop_zero, Nat.sub_zero, List.dropLast_eq_take]
theorem slW {K : PySem.W.Frag} {σ : L2.St} {H : Hp} {te t1 : TE} {a : Addr} {xs : List V} {Q : VK} (ha : At te σ H (.ref a)) (hu : At t1 σ H (.int (-1))) (h : H a = some (.lst xs)) (k : ∀ p, H p = none → Q (.ref p) (upd H p (.lst xs.dropLast))) : tSl (rSlL K) te tNoPart (tPart t1) σ H Q :=
  ha _ (hu _ ⟨-1, rfl, a, xs, rfl, SqL.of h, fun p hp => by rw [cut_init]; exact k p hp⟩)
theorem wf_hold {G : Gs} (w : WF G) (n : Nat) : WF (holdG G n 1) := by
  refine ⟨w.lt, fun m hm => ?_, w.so, w.lf, w.st, w.ab, w.abs, fun m hm => ?_⟩
  · show 0 ≤ setF G.h n (G.h n + 1) m
    have h0 := w.h0 m hm
    by_cases e : m = n
    · subst e
      rw [setF_same]
      omega
    · rw [setF_ne e]
      exact h0
  · show 0 < setF G.h n (G.h n + 1) m ∨ G.ab m ≠ []
    by_cases e : m = n
    · subst e
      have h0 := w.h0 m hm
      rw [setF_same]
      exact .inl (by omega)
    · rw [setF_ne e]
      exact w.lv m hm
section
variable {K : PySem.W.Frag} {g : Nat → PyData} {tb w : Addr} {qn : Str} {H0 H H1 H2 H3 : Hp} {S S1 S2 : ShA} {L L1 L2 : LwA} {G G1 G2 : Gs} {sn sn1 sn2 : List Nat} {t : Twg} {l : Lb} {h' : Nat → Int} {q t0 : Addr}
/-- the holds are written -/
theorem LwAt.setH (A : LwAt g H L G) : LwAt g (upd H L.ho (.dK (dM G.ns fun n => .int (h' n)))) L { G with h := h' } := by
  have tk : TK H (upd H L.ho (.dK (dM G.ns fun n => .int (h' n)))) := TK.upd A.ho fun _ z => by cases z
  have ne : ∀ {a xs}, H a = some (.lst xs) → a ≠ L.ho := fun e => ne_of e A.ho (by intro z; cases z)
  obtain ⟨gs, g1, g2⟩ := A.gr
  refine ⟨by rw [upd_ne A.th]; exact A.tw, upd_same, ⟨gs, by rw [upd_ne (ne g1)]; exact g1, g2.mono tk _ _⟩, by rw [upd_ne (ne A.to)]; exact A.to, fun n hn => ?_, A.th, A.gt, A.wt, A.nz⟩
  obtain ⟨k1, xs, k2, k3⟩ := A.kd n hn
  exact ⟨tk _ _ k1, xs, by rw [upd_ne (ne k2)]; exact k2, k3.mono tk _ _⟩
/-- a twig's own is written -/
theorem LwAt.setT {n : Nat} (A : LwAt g H L G) (hn : n ∈ G.ns) (ht : H t0 = some (.tup [.str (kindS t), .ref q])) (hq : ∃ xs, H q = some (.lst xs) ∧ TpA H xs (whatD g t)) (hqt : q ≠ L.to) :
    LwAt g (upd H L.tw (.dK (dM G.ns fun n_1 => .ref (setF L.tv n t0 n_1)))) { L with tv := setF L.tv n t0, wh := setF L.wh n q } { G with t := setF G.t n t } := by
  have tk : TK H (upd H L.tw (.dK (dM G.ns fun n_1 => .ref (setF L.tv n t0 n_1)))) := TK.upd A.tw fun _ z => by cases z
  have ne : ∀ {a xs}, H a = some (.lst xs) → a ≠ L.tw := fun e => ne_of e A.tw (by intro z; cases z)
  obtain ⟨gs, g1, g2⟩ := A.gr
  refine ⟨upd_same, by rw [upd_ne A.th.symm]; exact A.ho, ⟨gs, by rw [upd_ne (ne g1)]; exact g1, g2.mono tk _ _⟩, by rw [upd_ne (ne A.to)]; exact A.to, fun m hm => ?_, A.th, A.gt, fun m hm => ?_, A.nz⟩
  · dsimp only
    by_cases e : m = n
    · subst e
      obtain ⟨xs, k2, k3⟩ := hq
      rw [setF_same, setF_same, setF_same]
      exact ⟨tk _ _ ht, xs, by rw [upd_ne (ne k2)]; exact k2, k3.mono tk _ _⟩
    · obtain ⟨k1, xs, k2, k3⟩ := A.kd m hm
      rw [setF_ne e, setF_ne e, setF_ne e]
      exact ⟨tk _ _ k1, xs, by rw [upd_ne (ne k2)]; exact k2, k3.mono tk _ _⟩
  · show setF L.wh n q m ≠ L.to
    by_cases e : m = n
    · subst e
      rw [setF_same]
      exact hqt
    · rw [setF_ne e]
      exact A.wt m hm
/-- the law's own changes, then the shelf -/
theorem Bun.law (B : Bun K g tb qn w H0 S L G sn) (f : Fr (fun a => a = L.tw ∨ a = L.ho) H0 H1) : ShAt K g H1 S G sn ∧ TK H0 H1 := by
  have three : ∀ a, (a = L.tw ∨ a = L.ho) → lwF L G.ns a := fun a h => h.elim .inl fun h => .inr (.inl h)
  have tk := f.tk fun a o h e => (B.lw.pl (three a h) e).tup
  exact ⟨B.sh.away f tk fun a h z => B.dj a h (three a z), tk⟩
theorem Bun.both2 (B : Bun K g tb qn w H0 S L G sn) (f : Fr (fun a => a = L.tw ∨ a = L.ho) H0 H1) (lw1 : LwAt g H1 L1 G1) (Z : ShTo K g H1 S G H2 S1 G1 sn1) (wf : WF G1) (e : L1.tw = L.tw ∧ L1.ho = L.ho ∧ L1.gr = L.gr ∧ L1.to = L.to)
    (hl : ∀ a, lwF L1 G1.ns a → lwF L G.ns a ∨ H0 a = none) : BTo K g tb qn w H0 S L G H2 S1 L1 G1 sn1 := by
  have three : ∀ a, (a = L.tw ∨ a = L.ho) → lwF L G.ns a := fun a h => h.elim .inl fun h => .inr (.inl h)
  obtain ⟨A1, tk⟩ := B.law f
  have dj1 : ∀ a, shF S G.ns a → ¬ lwF L1 G1.ns a := fun a h z => by
    rcases hl a z with z | z
    · exact B.dj a h z
    · obtain ⟨o, ho⟩ := B.there (.inl h)
      rw [z] at ho
      cases ho
  have thr1 : ∀ a, (a = L.tw ∨ a = L.ho) → ∃ o, H1 a = some o := fun a h => by
    rcases h with h | h
    · exact ⟨_, by rw [h, ← e.1]; exact lw1.tw⟩
    · exact ⟨_, by rw [h, ← e.2.1]; exact lw1.ho⟩
  have full : ∀ a, H1 a = none → H0 a = none := fun a h => f.free_w thr1 h
  obtain ⟨a1, a2, a3, a4, a5, a6⟩ := B.wl
  have hw1 := f _ _ a5 fun z => B.wst (.inr (three w z))
  refine ⟨⟨Z.at_, lw1.away Z.fr (A1.tk Z.fr) fun a h z => dj1 a z h, wf, fun a h z => ?_, ⟨a1, a2, a3, a4, Z.fr _ _ hw1 fun z => B.wst (.inl z), a6⟩, fun z => ?_, tabS_fr (tabS_fr B.tab f fun a o h e => B.lw.pl (three a h) e) Z.fr fun a o h e => A1.pl h e⟩, Z.p, e, fun a o ha hn ht => ?_, fun a h => ?_⟩
  · rcases Z.ft a h with y | y
    · exact dj1 a y z
    · obtain ⟨o, ho⟩ := lw1.there z
      rw [ho] at y
      cases y
  · rcases z with z | z
    · rcases Z.ft w z with y | y
      · exact B.wst (.inl y)
      · rw [hw1] at y
        cases y
    · rcases hl w z with z | z
      · exact B.wst (.inr z)
      · rw [a5] at z
        cases z
  · exact Z.fr a o (f a o ha fun z => hn (.inl (.inr (three a z)))) fun z => hn (.inl (.inl z))
  · rcases h with h | h
    · exact (Z.ft a h).imp .inl fun y => Nw.of (full a y)
    · exact (hl a h).imp .inr Nw.of
end
theorem tpA_init {H : Hp} {xs : List V} {ds : List PyData} (h : TpA H xs ds) : TpA H xs.dropLast ds.dropLast := TpA.of_get (by rw [List.length_dropLast, List.length_dropLast, h.length]) fun i v d e1 e2 => by
  rw [List.getElem?_dropLast] at e1 e2
  split at e1
  · split at e2
    · obtain ⟨d', e3, e4⟩ := h.get e1
      rw [e3] at e2
      cases e2
      exact e4
    · cases e2
  · cases e1
theorem rows_init {rows : List (Nat × PyData)} (h : RowsOk rows) (h2 : 2 ≤ rows.length) : RowsOk rows.dropLast ∧ Shr (labR rows) (labR rows.dropLast) := by
  have l4 := h.l4
  have sub := List.dropLast_sublist rows
  refine ⟨⟨by rw [List.length_dropLast]; omega, by rw [List.length_dropLast]; omega, fun r hr => h.k r (sub.subset hr), h.up.sublist (sub.map _)⟩, ?_⟩
  match rows, h2 with
  | a :: b :: r, _ =>
    refine ⟨rfl, rfl, ?_⟩
    have up := h.up
    show (((a :: (b :: r).dropLast).getLast?).map (·.1)).getD 0 ≤ (((a :: b :: r).getLast?).map (·.1)).getD 0
    have e1 : (a :: b :: r).getLast? = some ((a :: b :: r).getLast (by simp)) := List.getLast?_eq_some_getLast (by simp)
    have e2 : (a :: (b :: r).dropLast).getLast? = some ((a :: (b :: r).dropLast).getLast (by simp)) := List.getLast?_eq_some_getLast (by simp)
    rw [e1, e2]
    show ((a :: (b :: r).dropLast).getLast (by simp)).1 ≤ ((a :: b :: r).getLast (by simp)).1
    have hm : (a :: (b :: r).dropLast).getLast (by simp) ∈ (a :: b :: r).dropLast := List.getLast_mem (l := a :: (b :: r).dropLast) (by simp)
    have sp : (a :: b :: r).dropLast ++ [(a :: b :: r).getLast (by simp)] = a :: b :: r := List.dropLast_concat_getLast (by simp)
    rw [← sp, List.map_append, List.pairwise_append] at up
    exact Nat.le_of_lt (up.2.2 _ (List.mem_map.mpr ⟨_, hm, rfl⟩) _ (List.mem_singleton.mpr rfl))
theorem tBNW {σ : L2.St} {H : Hp} {te : TE} {Q : Bool → Hp → Prop} (h : te σ H fun x H1 => ∃ k, V.bl (!decide (x = .non)) = .bl k ∧ Q k H1) : tB (tNotN te) σ H Q := h
def spNoLook (K : PySem.W.Frag) (tb : Addr) : Sp := fun vs H Q _ => ∃ g w sa S L G sn n, ∃ way : Nat, vs = [.int (way : Int), .ref w, .ref sa, iV n] ∧ H sa = some (.tup (stT S L)) ∧ Bun K g tb lamQ w H S L G sn ∧ GridOk g ∧ n ∈ G.ns ∧
  ∀ H' S' L' G', BTo K g tb lamQ w H S L G H' S' L' G' sn → G'.nx = G.nx → Q (.bl true) H'
section
variable {P : Program} {w : World} {K : PySem.W.Frag} {mg : Str → Option Value} {base : Heap}
theorem sc__law_no_look : FnScope ["_law_way", "_law_well_here", "_law_state", "_law_number", "_law_shelf", "_law_twigs", "_law_holds", "_law_grid_here", "_law_told", "_law_kind", "_law_what"] ["_law_way", "_law_well_here", "_law_state", "_law_number"] (defScope (top 55)) := ⟨rfl, rfl, rfl, by decide +kernel, rfl, by decide +kernel, by decide +kernel⟩
theorem ok__law_no_look (T : TX K mg) {tb : Addr} (F : Fd K "_law_no_look" "_law_no_look" (top 55) (ga K "_law_no_look")) (G_hold : OkM P w K mg base CX0 (ga K "Shelf") "hold" 2 (ma K (ga K "Shelf") "hold") ["self", "number"] (spHold K))
    (G_let_go : OkM P w K mg base CX0 (ga K "Shelf") "let_go" 2 (ma K (ga K "Shelf") "let_go") ["self", "number"] (spLetGo K)) (G__law_swept : OkF P w K mg base CX0 1 (ga K "_law_swept") ["_law_twigs", "_law_holds"] spSwept) (G__law_shared : OkF P w K mg base CX0 2 (ga K "_law_shared") ["_law_twigs", "_law_holds", "_law_number"] spLawShared)
    (G_change_leaf : OkM P w K mg base CX0 (ga K "Shelf") "change_leaf" 9 (ma K (ga K "Shelf") "change_leaf") ["self", "number", "rows"] (spChangeLeaf K)) (G_change_stem : OkM P w K mg base CX0 (ga K "Shelf") "change_stem" 9 (ma K (ga K "Shelf") "change_stem") ["self", "number", "numbers"] (spChangeStem K)) :
    OkF P w K mg base CX0 10 (ga K "_law_no_look") ["_law_way", "_law_well_here", "_law_state", "_law_number"] (spNoLook K tb) := by
  refine mkOk F sc__law_no_look (fun vs H Q E h => ?_) (fun _ _ _ _ _ _ us hl => match us, hl with | [_, _, _, _], _ => rfl) (fun cdv A outer s H vs Q E hr h => ?_)
  · obtain ⟨g, wl, sa, S, L, G, sn, n, way, rfl, _⟩ := h
    rfl
  · obtain ⟨g, wl, sa, S, L, G, sn, n, way, rfl, hsa, B, GO, hn, k⟩ := h
    have hu := hu_of hr
    have nd := sc__law_no_look.nd
    refine ⟨_, (pss_cons (ps_asg (pv 2) (pg_tup rfl (pgs_cons (pg_name (i := 4) nd rfl (by first | exact Or.inl rfl | exact Or.inr rfl)) (pgs_cons (pg_name (i := 5) nd rfl (by first | exact Or.inl rfl | exact Or.inr rfl)) (pgs_cons (pg_name (i := 6) nd rfl (by first | exact Or.inl rfl | exact Or.inr rfl)) (pgs_cons (pg_name (i := 7) nd rfl (by first | exact Or.inl rfl | exact Or.inr rfl)) (pgs_cons (pg_name (i := 8) nd rfl (by first | exact Or.inl rfl | exact Or.inr rfl)) pgs_nil)))))))
      (pss_cons (ps_asg (pe_dget hu (pv 5) (pv 3) (fun _ _ => rfl)) (pg_tup rfl (pgs_cons (pg_name (i := 9) nd rfl (by first | exact Or.inl rfl | exact Or.inr rfl)) (pgs_cons (pg_name (i := 10) nd rfl (by first | exact Or.inl rfl | exact Or.inr rfl)) pgs_nil))))
      (pss_cons (ps_if (PW.pt (pw_or (pt_cmpR op_eq (pv 0) pe_int (nomark _)) (pw_or1 (pt_cmpR op_lt (pe_callB (call_lenD) rfl T.f_len bt_len (pa_cons (pv 5) pa_nil)) pe_int (nomark _))))) (pss_cons (ps_dput hu (pv 6) (pv 3) (pe_op op_add (pe_dget hu (pv 6) (pv 3) (fun _ _ => rfl)) pe_int) rfl)
      (pss_one (ps_ret (pe_cmp (pc_isN (pe_m (pv 4) T.cl G_hold (hr.mono (by decide)) (pa_cons (pv 3) pa_nil))))))) pss_nil)
      (pss_cons (ps_if (PW.pt (pw_and (pt_cmpR op_eq (pv 0) pe_int (nomark _)) (pw_and1 (pt_cmpR op_gt (pe_dget hu (pv 6) (pv 3) (fun _ _ => rfl)) pe_int (nomark _))))) (pss_cons (ps_dput hu (pv 6) (pv 3) (pe_op op_sub (pe_dget hu (pv 6) (pv 3) (fun _ _ => rfl)) pe_int) rfl)
      (pss_cons (ps_expr (pe_c G__law_swept (hr.mono (by decide)) rfl T.g__law_swept (pa_cons (pv 5) (pa_cons (pv 6) pa_nil))))
      (pss_one (ps_ret (pe_cmp (pc_isN (pe_m (pv 4) T.cl G_let_go (hr.mono (by decide)) (pa_cons (pv 3) pa_nil)))))))) pss_nil)
      (pss_cons (ps_if (PW.pt (pw_or (pt_cmp (pc_notN (pe_c G__law_shared (hr.mono (by decide)) rfl T.g__law_shared (pa_cons (pv 5) (pa_cons (pv 6) (pa_cons (pv 3) pa_nil)))))) (pw_or (pt_cmpR op_lt (pe_callB (call_len_seq) rfl T.f_len bt_len (pa_cons (pv 10) pa_nil)) pe_int (nomark _)) (pw_or1 (PW.pt (pw_and (pt_cmpR op_eq (pv 9) pe_str (nomark _)) (pw_and1 (pt_cmpR op_lt (pe_callB (call_len_seq) rfl T.f_len bt_len (pa_cons (pv 10) pa_nil)) pe_int (nomark _))))))))) (pss_one (ps_ret pe_bl)) pss_nil)
      (pss_cons (ps_dput hu (pv 5) (pv 3) (pe_tup (pa_cons (pv 9) (pa_cons (pe_slice sl_list (pv 10) po_none (po_some (pe_un un_neg pe_int))) pa_nil))) rfl)
      (pss_cons (ps_if (pt_cmpR op_eq (pv 9) pe_str (nomark _)) (pss_one (ps_ret (pe_cmp (pc_isN (pe_m (pv 4) T.cl G_change_leaf (hr.mono (by decide)) (pa_cons (pv 3) (pa_cons (pe_slice sl_list (pv 10) po_none (po_some (pe_un un_neg pe_int))) pa_nil))))))) pss_nil)
      (pss_cons (ps_dput hu (pv 6) (pe_ix ix_list (pv 10) (pe_un un_neg pe_int) (fun _ _ => rfl)) (pe_op op_add (pe_dget hu (pv 6) (pe_ix ix_list (pv 10) (pe_un un_neg pe_int) (fun _ _ => rfl)) (fun _ _ => rfl)) pe_int) rfl)
      (pss_one (ps_ret (pe_cmp (pc_isN (pe_m (pv 4) T.cl G_change_stem (hr.mono (by decide)) (pa_cons (pv 3) (pa_cons (pe_slice sl_list (pv 10) po_none (po_some (pe_un un_neg pe_int))) pa_nil))))))))))))))), ?_⟩
    have hz : G.ns.length ≤ 900 := by have := B.wf.len; have := B.lw.nz; omega
    refine sq_asg (at_then (at_var rfl) (g5 hsa ?_))
    obtain ⟨ht, xs, hw, hxs⟩ := B.lw.kd n hn
    refine sq_asg (at_then (at_dget (at_var rfl) (at_var rfl) (B.lw.dgt hn)) (gPair ht ?_))
    have fho : ∀ {o : HO}, Fr (fun a => a = L.tw ∨ a = L.ho) H (upd H L.ho o) := Fr.upd (.inr rfl)
    refine sq_ifn (att_or (att_test (at_eq (at_var rfl) at_c rfl dec_int)) fun _ => att_test (at_I0 (at_cb (z := .int (G.ns.length : Int)) (ata_cons (at_var rfl) ata_nil) fun Q q => ⟨_, _, rfl, B.lw.tw, by rw [dM_length]; exact q⟩) at_c rfl)) (fun _ => ?_) fun _ => ?_
    · refine sq_dput (at_I0 (at_dget (at_var rfl) (at_var rfl) (B.lw.dgh hn)) at_c rfl) (at_var rfl) (at_var rfl) (dput_old B.lw.ho hn (by omega)) ?_
      rw [setF_int]
      have lw1 := B.lw.setH (h' := setF G.h n (G.h n + 1))
      obtain ⟨A1, tk1⟩ := B.law (fho (o := .dK (dM G.ns fun m => .int (setF G.h n (G.h n + 1) m))))
      obtain ⟨dx, ob⟩ := A1.c.ob
      refine rt_ (wp_meth (at_var rfl) ob rfl (ata_cons (at_var rfl) ata_nil) ⟨g, S, G, sn, n, rfl, A1, hn, by omega, fun H2 Z => ?_⟩)
      exact k H2 S L _ (B.both2 fho lw1 Z (wf_hold B.wf n) ⟨rfl, rfl, rfl, rfl⟩ fun a h => .inl h) rfl
    · refine sq_ifn (att_and (att_test (at_eq (at_var rfl) at_c rfl dec_int)) fun _ => att_test (at_I0 (at_dget (at_var rfl) (at_var rfl) (B.lw.dgh hn)) at_c rfl)) (fun hb => ?_) fun _ => ?_
      · rw [Bool.and_eq_true] at hb
        have hh : 0 < G.h n := of_decide_eq_true hb.2
        refine sq_dput (at_I0 (at_dget (at_var rfl) (at_var rfl) (B.lw.dgh hn)) at_c rfl) (at_var rfl) (at_var rfl) (dput_old B.lw.ho hn (by omega)) ?_
        rw [setF_int]
        have lw1 : LwAt g _ L (holdG G n (-1)) := B.lw.setH (h' := setF G.h n (G.h n + -1))
        refine sq_dr (wp_call (ata_cons (at_var rfl) (ata_cons (at_var rfl) ata_nil)) ⟨g, L, holdG G n (-1), rfl, lw1, B.wf.wb.hold _ _, fun H2 f2 lw2 => ?_⟩)
        have f12 := (fho (o := .dK (dM G.ns fun m => .int (setF G.h n (G.h n + -1) m)))).trans f2
        obtain ⟨A2, tk2⟩ := B.law f12
        obtain ⟨dx, ob⟩ := A2.c.ob
        refine rt_ (wp_meth (at_var rfl) ob rfl (ata_cons (at_var rfl) ata_nil) ⟨g, S, G, sn, n, rfl, A2, B.wf, hn, hh, B.lw.nz, fun H3 Z => ?_⟩)
        refine k H3 S L _ (B.both2 f12 lw2 Z (wf_sweep B.wf hn hh) ⟨rfl, rfl, rfl, rfl⟩ fun a h => .inl ?_) rfl
        rcases h with h | h | h | h | ⟨m, hm, h⟩
        · exact .inl h
        · exact .inr (.inl h)
        · exact .inr (.inr (.inl h))
        · exact .inr (.inr (.inr (.inl h)))
        · exact .inr (.inr (.inr (.inr ⟨m, (List.mem_filter.mp hm).1, h⟩)))
      · by_cases al : Alone G n
        · refine sq_ifw (torW (tBNW (wp_call (ata_cons (at_var rfl) (ata_cons (at_var rfl) (ata_cons (at_var rfl) ata_nil))) ⟨g, L, G, n, rfl, B.lw, B.wf, hn, fun _ H1 s1 => ⟨_, rfl, ?_⟩, fun h => absurd al h⟩)))
          rw [if_neg (by decide)]
          have B1 := B.same s1
          have hw1 := s1 _ _ hw
          have hx1 := hxs.sm s1
          refine att_or (att_test (at_I0 (at_lenL (ata_cons (at_var rfl) ata_nil) hw1) at_c rfl)) (fun _ => att_and (att_test (at_eq (at_var rfl) at_c rfl dec_str)) fun _ => att_test (at_I0 (at_lenL (ata_cons (at_var rfl) ata_nil) hw1) at_c rfl)) _ ?_
          cases hb : (decide ((xs.length : Int) < 2) || (decide (kindS (G.t n) = "stem") && decide ((xs.length : Int) < 3))) with
          | true =>
            rw [if_pos rfl]
            exact st_ret at_c (k H1 S L G (BTo.same B s1) rfl)
          | false =>
            rw [if_neg Bool.false_ne_true]
            rw [Bool.or_eq_false_iff, Bool.and_eq_false_iff] at hb
            have hl2 : 2 ≤ xs.length := by have := of_decide_eq_false hb.1; omega
            refine nx_ ?_
            dsimp only
            refine sq_dp (tup2W (at_then (at_var rfl) (slW (at_var rfl) (at_U at_c rfl) hw1 fun q hq => ⟨z2, fun t0 ht0 => ?_⟩)))
            have hqH : H q = none := s1.free hq
            have s2 := (same_new (o := .lst xs.dropLast) hq).trans (same_new (o := .tup [.str (kindS (G.t n)), .ref q]) ht0)
            have s12 := s1.trans s2
            have hq2 : upd (upd H1 q (.lst xs.dropLast)) t0 (.tup [.str (kindS (G.t n)), .ref q]) q = some (.lst xs.dropLast) := same_new ht0 _ _ upd_same
            have ht2 : upd (upd H1 q (.lst xs.dropLast)) t0 (.tup [.str (kindS (G.t n)), .ref q]) t0 = some (.tup [.str (kindS (G.t n)), .ref q]) := upd_same
            generalize upd (upd H1 q (.lst xs.dropLast)) t0 (.tup [.str (kindS (G.t n)), .ref q]) = H2 at s2 s12 hq2 ht2 ⊢
            have A2 := B.lw.same s12
            have hw2 := s12 _ _ hw
            have hx2 := (tpA_init hxs).sm s12
            refine dpk (at_var rfl) (at_var rfl) (dput_old A2.tw hn (by omega)) ?_
            rw [setF_ref]
            have f3 : Fr (fun a => a = L.tw ∨ a = L.ho) H (upd H2 L.tw (.dK (dM G.ns fun m => .ref (setF L.tv n t0 m)))) := (Fr.same s12).trans (Fr.upd (.inl rfl))
            have qto : q ≠ L.to := fun z => by
              rw [z, B.lw.to] at hqH
              cases hqH
            have tk3 : TK H2 (upd H2 L.tw (.dK (dM G.ns fun m => .ref (setF L.tv n t0 m)))) := TK.upd A2.tw fun _ z => by cases z
            have hw3 : upd H2 L.tw (.dK (dM G.ns fun m => .ref (setF L.tv n t0 m))) (L.wh n) = some (.lst xs) := by
              rw [upd_ne (ne_of hw2 A2.tw (by intro z; cases z))]
              exact hw2
            have newF : ∀ {G1 : Gs} {a : Addr}, G1.ns = G.ns → lwF { L with tv := setF L.tv n t0, wh := setF L.wh n q } G1.ns a → lwF L G.ns a ∨ H a = none := fun {G1 a} e h => by
              rw [e] at h
              rcases h with h | h | h | h | ⟨m, hm, h⟩
              · exact .inl (.inl h)
              · exact .inl (.inr (.inl h))
              · exact .inl (.inr (.inr (.inl h)))
              · exact .inl (.inr (.inr (.inr (.inl h))))
              · have h : a = setF L.wh n q m := h
                by_cases e2 : m = n
                · subst e2
                  rw [setF_same] at h
                  exact .inr (h ▸ hqH)
                · rw [setF_ne e2] at h
                  exact .inl (.inr (.inr (.inr (.inr ⟨m, hm, h⟩))))
            cases et : G.t n with
            | leaf rows =>
              have hrl := hxs.length
              rw [et] at hxs hx2 ht2 hrl
              have hrl : xs.length = rows.length := by rw [hrl]; exact List.length_map _
              obtain ⟨RO, el⟩ := B.wf.lf n hn rows et
              obtain ⟨RO2, sh⟩ := rows_init RO (by omega)
              have edl : (rows.map (rowD g)).dropLast = rows.dropLast.map (rowD g) := List.map_dropLast.symm
              have hx2 : TpA H2 xs.dropLast (rows.dropLast.map (rowD g)) := by rw [← edl]; exact hx2
              have lw3 := A2.setT (t := .leaf rows.dropLast) (t0 := t0) (q := q) hn ht2 ⟨_, hq2, hx2⟩ qto
              obtain ⟨A3, tk03⟩ := B.law f3
              obtain ⟨dx, ob⟩ := A3.c.ob
              refine sq_T (att_test (at_eq (at_var rfl) at_c rfl (by rw [dec_str]; exact decT rfl))) (rt_ (wp_methW2 (at_var rfl) ob rfl (at_then (at_var rfl) (slW (at_var rfl) (at_U at_c rfl) hw3 fun q2 hq3 => ?_))))
              have s4 := same_new (o := .lst xs.dropLast) hq3
              exact ⟨g, S, G, sn, n, q2, _, rows, rows.dropLast, rfl, A3.same s4, B.wf, GO, hn, al, B.lw.nz, et, upd_same, (hx2.mono tk3 _ _).sm s4, RO2, by rw [el]; exact sh, fun S' H5 l' wf5 Z =>
                k H5 S' _ _ (B.both2 (f3.trans (Fr.same s4)) ((lw3.same s4).congr (G1 := chG G n (.leaf rows.dropLast) l') rfl (fun m _ => ⟨rfl, rfl⟩) rfl) Z wf5 ⟨rfl, rfl, rfl, rfl⟩ fun a h => newF (G1 := chG G n (.leaf rows.dropLast) l') rfl h) rfl⟩
            | stem bs =>
              have hwb := B.lw.bs hn et
              rw [hw] at hwb
              cases hwb
              rw [et] at ht2 hb
              have hl3 : 3 ≤ bs.length := by
                rcases hb.2 with h | h
                · exact absurd (of_decide_eq_false h) (fun z => z rfl)
                · have := of_decide_eq_false h
                  rw [List.length_map] at this
                  omega
              obtain ⟨cs, z, ec⟩ : ∃ cs z, bs = cs ++ [z] := by
                have hne : bs ≠ [] := fun e => by rw [e] at hl3; simp at hl3
                exact ⟨bs.dropLast, bs.getLast hne, (List.dropLast_concat_getLast hne).symm⟩
              subst ec
              have edl : ((cs ++ [z]).map iV).dropLast = cs.map iV := by
                rw [List.map_append]
                exact List.dropLast_concat
              rw [List.length_append] at hl3
              have hl3 : 3 ≤ cs.length + 1 := hl3
              have hzn : z ∈ G.ns := ((B.wf.st n hn _ et).2.2 z (List.mem_append_right _ (List.mem_singleton.mpr rfl))).1
              rw [edl] at hq2
              have lw3 := A2.setT (t := .stem cs) (t0 := t0) (q := q) hn ht2 ⟨_, hq2, ints_tp cs⟩ qto
              have hlast : ((cs ++ [z]).map iV)[((cs ++ [z]).map iV).length - 1]? = some (iV z) := by
                rw [List.length_map, List.length_append]
                show ((cs ++ [z]).map iV)[cs.length + 1 - 1]? = _
                rw [Nat.add_sub_cancel, List.getElem?_map, List.getElem?_append_right (Nat.le_refl _), Nat.sub_self]
                rfl
              refine sq_Fn (att_test (at_eq (at_var rfl) at_c rfl (by rw [dec_str]; exact decF (show ¬ ("stem" : Str) = "leaf" by decide)))) ?_
              have hzv : ∀ {σ : L2.St} {H' : Hp}, σ[10]? = some (some (.ref (L.wh n))) → H' (L.wh n) = some (.lst ((cs ++ [z]).map iV)) → At (tOp (rIxL K) (tVar 10) (tUn (rU fun i => .int (-i)) (tC (.int 1)))) σ H' (iV z) := fun h1 h2 => at_ixL (at_var h1) (at_U at_c rfl) h2 (atI_last hlast)
              refine sq_dput (at_I0 (at_dget (at_var rfl) (hzv rfl hw3) (lw3.dgh hzn)) at_c rfl) (at_var rfl) (hzv rfl hw3) (dput_old lw3.ho hzn (show G.ns.length ≤ 1000 by omega)) ?_
              rw [setF_int]
              have lw4 := lw3.setH (h' := setF G.h z (G.h z + 1))
              have f4 := f3.trans (Fr.upd (p := L.ho) (o := .dK (dM G.ns fun m => .int (setF G.h z (G.h z + 1) m))) (.inr rfl))
              have hw4 : upd (upd H2 L.tw (.dK (dM G.ns fun m => .ref (setF L.tv n t0 m)))) L.ho (.dK (dM G.ns fun m => .int (setF G.h z (G.h z + 1) m))) (L.wh n) = some (.lst ((cs ++ [z]).map iV)) := by
                rw [upd_ne (ne_of hw3 lw3.ho (by intro z; cases z))]
                exact hw3
              obtain ⟨A4, tk04⟩ := B.law f4
              obtain ⟨dx, ob⟩ := A4.c.ob
              refine rt_ (wp_methW2 (at_var rfl) ob rfl (at_then (at_var rfl) (slW (at_var rfl) (at_U at_c rfl) hw4 fun q2 hq3 => ?_)))
              rw [edl]
              have s5 := same_new (o := .lst (cs.map iV)) hq3
              exact ⟨g, S, G, sn, n, q2, cs, z, rfl, A4.same s5, B.wf, GO, hn, al, B.lw.nz, et, by omega, upd_same, fun S' H5 l' wf5 Z =>
                k H5 S' _ _ (B.both2 (f4.trans (Fr.same s5)) ((lw4.same s5).congr (G1 := chS G n cs z l') rfl (fun m _ => ⟨rfl, rfl⟩) rfl) Z wf5 ⟨rfl, rfl, rfl, rfl⟩ fun a h => newF (G1 := chS G n cs z l') rfl h) rfl⟩
        · refine sq_ifw (torW (tBNW (wp_call (ata_cons (at_var rfl) (ata_cons (at_var rfl) (ata_cons (at_var rfl) ata_nil))) ⟨g, L, G, n, rfl, B.lw, B.wf, hn, fun h => absurd h al, fun _ H1 m s1 => ⟨_, rfl, ?_⟩⟩)))
          rw [if_pos (by rw [decF (by intro z; cases z)]; rfl), if_pos rfl]
          exact st_ret at_c (k H1 S L G (BTo.same B s1) rfl)
end
end Tw

set_option Elab.async false
set_option linter.all false
set_option maxRecDepth 100000
set_option maxHeartbeats 4000000
/-! The law: one deed. -/
namespace Tw
open PySem PySem.Spec PyProof.Rows L2 LamX
open He (ga ma)
/-- a dict == {} -/
def rEq0 : R2 := fun x y H Q => ∃ a b ks, x = .ref a ∧ y = .ref b ∧ H a = some (.dK ks) ∧ H b = some (.dK []) ∧ Q (.bl (decide (ks.length = 0))) H
theorem op_eq0 {X : Cx} (hu : X.A.units < cLine) : OpR X (compareOp .Eq) rEq0 := by
  intro pins s0 σ H x y v u Q J rx ry h
  obtain ⟨a, b, ks, rfl, rfl, ea, eb, q⟩ := h
  obtain rfl : v = Value.ref a := rx
  obtain rfl : u = Value.ref b := ry
  obtain ⟨_, ya, va, ra, da⟩ := (show ObjOk X.prog X.w H s0.heap a (.dK ks) from J.hok a _ ea)
  obtain ⟨_, yb, vb, rb, db⟩ := (show ObjOk X.prog X.w H s0.heap b (.dK []) from J.hok b _ eb)
  have hb0 : vb.length = 0 := by rw [← rb.length]; rfl
  refine PySem.W.keq_eq (knd := mixKind X.prog X.w) (r := true) ya yb da db hu (fun hl => ?_) (fin_bl J q (by rw [ra.length, hb0, Bool.and_true]; cases va.length <;> rfl))
  have hk : ks = [] := List.length_eq_zero_iff.mp (by rw [ra.length]; omega)
  exact hits_all rb ra fun p hp => by rw [hk] at hp; exact absurd hp List.not_mem_nil
structure DTo (K : PySem.W.Frag) (g : Nat → PyData) (tb w zl : Addr) (H : Hp) (S : ShA) (L : LwA) (G : Gs) (m : Nat) (H' : Hp) (S' : ShA) (L' : LwA) (G' : Gs) (sn' : List Nat) : Prop where
  at_ : Bun K g tb lamQ w H' S' L' G' sn'
  p : S'.p = S.p
  e : L'.tw = L.tw ∧ L'.ho = L.ho ∧ L'.gr = L.gr ∧ L'.to = L.to
  fr : FrT (fun a => bunF S L G.ns w a ∨ a = zl) H H'
  ft : ∀ a, stF S' L' G'.ns a → stF S L G.ns a ∨ Nw H a
  z : H' zl = some (.lst (sn'.map iV))
  sl : sn'.length ≤ m
  nx : G'.nx ≤ G.nx + 1
def spDeed (K : PySem.W.Frag) (tb : Addr) : Sp := fun vs H Q _ => ∃ g w sa zl S L G sn, vs = [.ref w, .ref sa, .ref zl] ∧ H sa = some (.tup (stT S L)) ∧ Bun K g tb lamQ w H S L G sn ∧ GridOk g ∧ G.nx < 880 ∧ H zl = some (.lst (sn.map iV)) ∧ ¬ stF S L G.ns zl ∧ zl ≠ w ∧ sn.length ≤ 89 ∧
  ∀ H' S' L' G' sn', DTo K g tb w zl H S L G (sn.length + 1) H' S' L' G' sn' → Q (.bl true) H'
section
variable {K : PySem.W.Frag} {g : Nat → PyData} {tb w zl : Addr} {H H1 H2 : Hp} {S S1 S2 : ShA} {L L1 L2 : LwA} {G G1 G2 : Gs} {sn sn1 sn2 : List Nat} {m : Nat}
theorem BTo.d (b : BTo K g tb lamQ w H S L G H1 S1 L1 G1 sn1) (hz : H zl = some (.lst (sn1.map iV))) (n1 : ¬ stF S L G.ns zl) (n2 : zl ≠ w) (hl : sn1.length ≤ m) (hx : G1.nx ≤ G.nx + 1) : DTo K g tb w zl H S L G m H1 S1 L1 G1 sn1 :=
  ⟨b.at_, b.p, b.e, b.fr.mono fun a h => .inl h, b.ft, b.fr _ _ hz (fun z => z.elim n1 n2) (fun _ z => by cases z), hl, hx⟩
/-- the list beside is written -/
theorem Bun.setz {xs ys : List V} (B : Bun K g tb lamQ w H S L G sn) (hz : H zl = some (.lst xs)) (n1 : ¬ stF S L G.ns zl) (n2 : zl ≠ w) : Bun K g tb lamQ w (upd H zl (.lst ys)) S L G sn :=
  B.away (F := fun a => a = zl) (Fr.upd rfl) (TK.upd hz fun _ z => by cases z) (tabS_fr B.tab (F := fun a => a = zl) (Fr.upd rfl) fun a o h e => by subst h; rw [hz] at e; cases e; exact .inl ⟨_, rfl⟩) (fun a h z => n1 (z ▸ h)) fun z => n2 z.symm
theorem BTo.dz {xs : List V} (b : BTo K g tb lamQ w H S L G H1 S1 L1 G1 sn1) (hz : H zl = some (.lst xs)) (n1 : ¬ stF S L G.ns zl) (n2 : zl ≠ w) (hl : sn1.length ≤ m) (hx : G1.nx ≤ G.nx + 1) : DTo K g tb w zl H S L G m (upd H1 zl (.lst (sn1.map iV))) S1 L1 G1 sn1 := by
  have hz1 := b.fr _ _ hz (fun z => z.elim n1 n2) (fun _ z => by cases z)
  have n3 : ¬ stF S1 L1 G1.ns zl := fun h => by
    rcases b.ft _ h with z | z
    · exact n1 z
    · obtain ⟨ps, e⟩ := z _ hz
      cases e
  exact ⟨b.at_.setz hz1 n3 n2, b.p, b.e, (b.fr.mono fun a h => .inl h).trans (FrT.of ((Fr.upd (F := fun a => a = zl) rfl).mono fun a h => .inr h)), b.ft, upd_same, hl, hx⟩
end
theorem sq_keep {σ : L2.St} {H : Hp} {D : Ends} {u : TS} (h : u D σ H) : u D σ H := h
theorem st_clear {K : PySem.W.Frag} {σ : L2.St} {H : Hp} {to : TE} {l : Addr} {xs : List V} {D : Ends} (ha : At to σ H (.ref l)) (hl : H l = some (.lst xs)) (k : D.nx σ (upd H l (.lst []))) : tDrop (tBM0 K "list" rClear to) D σ H :=
  ha _ ⟨.inl ⟨rfl, _, SqL.of hl⟩, l, _, rfl, rfl, hl, k⟩
theorem isNW {σ : L2.St} {H : Hp} {te : TE} {Q : VK} (h : te σ H fun x H1 => Q (.bl (decide (x = .non))) H1) : tIsN te σ H Q := h
theorem callW3 {sp : Sp} {E : XK} {σ : L2.St} {H : Hp} {t1 t2 t3 : TE} {Q : VK} (h : t1 σ H fun x H1 => t2 σ H1 fun y H2 => t3 σ H2 fun z H3 => sp [x, y, z] H3 Q E) : tCall sp [] E (tCons t1 (tCons t2 (tCons t3 tNil))) σ H Q := h
theorem wp_meth0 {σ : L2.St} {H : Hp} {ta : TE} {a C dx : Addr} {fs : List (Str × V)} {m : Str} {sp : Sp} {E : XK} {Q : VK} (h : At ta σ H (.ref a)) (hi : H a = some (.ins C dx fs)) (hl : fs.lookup m = none) (k : sp [.ref a] H Q E) : tMeth C m sp [] E ta tNil σ H Q :=
  h _ ⟨a, dx, fs, rfl, hi, hl, k⟩
theorem andVW {σ : L2.St} {H : Hp} {ta tb : TE} {Q : VK} (h : ta σ H fun x H1 => ∃ b, x = .bl b ∧ (if b = true then tb σ H1 Q else Q (.bl false) H1)) : tAndV ta tb σ H Q := h
section
variable {P : Program} {w : World} {K : PySem.W.Frag} {mg : Str → Option Value} {base : Heap}
theorem sc__law_deed : FnScope ["_law_well_here", "_law_state", "_law_seen_here", "_law_way", "_law_number", "_law_shelf", "_law_twigs", "_law_holds", "_law_grid_here", "_law_told", "_law_many", "_law_good"] ["_law_well_here", "_law_state", "_law_seen_here"] (defScope (top 56)) := ⟨rfl, rfl, rfl, by decide +kernel, rfl, by decide +kernel, by decide +kernel⟩
theorem ok__law_deed (T : TX K mg) {tb : Addr} (F : Fd K "_law_deed" "_law_deed" (top 56) (ga K "_law_deed")) (G__law_pull : OkF P w K mg base CX0 1 (ga K "_law_pull") ["_law_well_here", "_law_many"] spPull) (G__law_picked : OkF P w K mg base CX0 2 (ga K "_law_picked") ["_law_well_here", "_law_some"] spPicked)
    (G__law_put_leaf : OkF P w K mg base CX0 10 (ga K "_law_put_leaf") ["_law_well_here", "_law_state", "_law_block"] (spLawPutLeaf K tb lamQ)) (G__law_put_stem : OkF P w K mg base CX0 10 (ga K "_law_put_stem") ["_law_well_here", "_law_state"] (spLawPutStem K tb)) (G__law_no_look : OkF P w K mg base CX0 10 (ga K "_law_no_look") ["_law_way", "_law_well_here", "_law_state", "_law_number"] (spNoLook K tb))
    (G__law_seen : OkF P w K mg base CX0 6 (ga K "_law_seen") ["_law_shelf", "_law_number", "_law_twig"] (spSeen K tb)) (G__law_alike : OkF P w K mg base CX0 5 (ga K "_law_alike") ["_law_found", "_law_due"] (spAlike 5)) (G__law_label : OkF P w K mg base CX0 2 (ga K "_law_label") ["_law_twigs", "_law_number"] spLawLabel) (G__law_shared : OkF P w K mg base CX0 2 (ga K "_law_shared") ["_law_twigs", "_law_holds", "_law_number"] spLawShared)
    (G_label : OkM P w K mg base CX0 (ga K "Shelf") "label" 2 (ma K (ga K "Shelf") "label") ["self", "number"] (spLabel K)) (G_holders : OkM P w K mg base CX0 (ga K "Shelf") "holders" 2 (ma K (ga K "Shelf") "holders") ["self", "number"] (spHolders K)) (G_alone : OkM P w K mg base CX0 (ga K "Shelf") "alone" 4 (ma K (ga K "Shelf") "alone") ["self", "number"] (spAlone K))
    (G_many : OkM P w K mg base CX0 (ga K "Shelf") "many" 1 (ma K (ga K "Shelf") "many") ["self"] (spMany K)) (G_numbers : OkM P w K mg base CX0 (ga K "Shelf") "numbers" 1 (ma K (ga K "Shelf") "numbers") ["self"] (spNumbers K)) (G_outside : OkM P w K mg base CX0 (ga K "Shelf") "outside" 2 (ma K (ga K "Shelf") "outside") ["self", "number"] (spOutside K))
    (G_forget : OkM P w K mg base CX0 (ga K "Shelf") "forget" 1 (ma K (ga K "Shelf") "forget") ["self"] (spForget K)) (G_looked : OkM P w K mg base CX0 (ga K "Shelf") "looked" 1 (ma K (ga K "Shelf") "looked") ["self"] (spLooked K)) :
    OkF P w K mg base CX0 11 (ga K "_law_deed") ["_law_well_here", "_law_state", "_law_seen_here"] (spDeed K tb) := by
  refine mkOk F sc__law_deed (fun vs H Q E h => ?_) (fun _ _ _ _ _ _ us hl => match us, hl with | [_, _, _], _ => rfl) (fun cdv A outer s H vs Q E hr h => ?_)
  · obtain ⟨g, wl, sa, zl, S, L, G, sn, rfl, _⟩ := h
    rfl
  · obtain ⟨g, wl, sa, zl, S, L, G, sn, rfl, hsa, B, GO, hnx, hz, n1, n2, hsl, k⟩ := h
    have hu := hu_of hr
    have nd := sc__law_deed.nd
    refine ⟨_, (pss_cons (ps_asg (pv 1) (pg_tup rfl (pgs_cons (pg_name (i := 5) nd rfl (by first | exact Or.inl rfl | exact Or.inr rfl)) (pgs_cons (pg_name (i := 6) nd rfl (by first | exact Or.inl rfl | exact Or.inr rfl)) (pgs_cons (pg_name (i := 7) nd rfl (by first | exact Or.inl rfl | exact Or.inr rfl)) (pgs_cons (pg_name (i := 8) nd rfl (by first | exact Or.inl rfl | exact Or.inr rfl)) (pgs_cons (pg_name (i := 9) nd rfl (by first | exact Or.inl rfl | exact Or.inr rfl)) pgs_nil)))))))
      (pss_cons (ps_set (i := 3) nd rfl (by first | exact Or.inl rfl | exact Or.inr rfl) (pe_c G__law_pull (hr.mono (by decide)) rfl T.g__law_pull (pa_cons (pv 0) (pa_cons pe_int pa_nil))))
      (pss_cons (ps_if (pt_cmpR (op_eq0 hr.units0) (pv 6) pe_dnewK (nomark _)) (pss_one (ps_ret (pe_c G__law_put_leaf (hr.mono (by decide)) rfl T.g__law_put_leaf (pa_cons (pv 0) (pa_cons (pv 1) (pa_cons (pe_c G__law_pull (hr.mono (by decide)) rfl T.g__law_pull (pa_cons (pv 0) (pa_cons pe_int pa_nil))) pa_nil)))))) pss_nil)
      (pss_cons (ps_set (i := 4) nd rfl (by first | exact Or.inl rfl | exact Or.inr rfl) (pe_c G__law_picked (hr.mono (by decide)) rfl T.g__law_picked (pa_cons (pv 0) (pa_cons (pe_callB (cr_sortedK rfl) rfl T.f_sorted bt_sorted (pa_cons (pv 6) pa_nil)) pa_nil))))
      (pss_cons (ps_if (pt_cmpR op_gt (pv 3) pe_int (nomark _)) (pss_one (ps_ret (pe_c G__law_no_look (hr.mono (by decide)) rfl T.g__law_no_look (pa_cons (pv 3) (pa_cons (pv 0) (pa_cons (pv 1) (pa_cons (pv 4) pa_nil))))))) pss_nil)
      (pss_cons (ps_if (pt_cmpR op_lt (pv 3) pe_int (nomark _)) (pss_cons (ps_expr (pe_bm PySem.F.plainAttrs_list PySem.F.slot_list_append PySem.F.type_list_append (mt_append) (pv 2) (pa_cons (pv 4) pa_nil)))
      (pss_one (ps_ret (pe_c G__law_seen (hr.mono (by decide)) rfl T.g__law_seen (pa_cons (pv 5) (pa_cons (pv 4) (pa_cons (pe_dget hu (pv 6) (pv 4) (fun _ _ => rfl)) pa_nil))))))) pss_nil)
      (pss_cons (ps_if (pt_cmpR op_eq (pv 3) pe_int (nomark _)) (pss_one (ps_ret (pe_and (pe_c G__law_alike (hr.mono (by decide)) rfl T.g__law_alike (pa_cons (pe_m (pv 5) T.cl G_label (hr.mono (by decide)) (pa_cons (pv 4) pa_nil)) (pa_cons (pe_c G__law_label (hr.mono (by decide)) rfl T.g__law_label (pa_cons (pv 6) (pa_cons (pv 4) pa_nil))) pa_nil))) (pe_one (pe_cmpR op_gt (pe_m (pv 5) T.cl G_holders (hr.mono (by decide)) (pa_cons (pv 4) pa_nil)) pe_int (nomark _)))))) pss_nil)
      (pss_cons (ps_if (pt_cmpR op_eq (pv 3) pe_int (nomark _)) (pss_one (ps_ret (pe_cmpR op_eq (pe_m (pv 5) T.cl G_alone (hr.mono (by decide)) (pa_cons (pv 4) pa_nil)) (pe_cmp (pc_isN (pe_c G__law_shared (hr.mono (by decide)) rfl T.g__law_shared (pa_cons (pv 6) (pa_cons (pv 7) (pa_cons (pv 4) pa_nil)))))) (nomark _)))) pss_nil)
      (pss_cons (ps_if (pt_cmpR op_eq (pv 3) pe_int (nomark _)) (pss_one (ps_ret (pe_and (pe_cmpR op_eq (pe_m0 (pv 5) T.cl G_many (hr.mono (by decide))) (pe_callB (call_len_seq) rfl T.f_len bt_len (pa_cons (pe_m0 (pv 5) T.cl G_numbers (hr.mono (by decide))) pa_nil)) (nomark _)) (pe_one (pe_cmpR op_eq (pe_m (pv 5) T.cl G_outside (hr.mono (by decide)) (pa_cons (pv 4) pa_nil)) (pe_dget hu (pv 7) (pv 4) (fun _ _ => rfl)) (nomark _)))))) pss_nil)
      (pss_cons (ps_if (pt_cmpR op_eq (pv 3) pe_int (nomark _)) (pss_one (ps_ret (pe_c G__law_put_leaf (hr.mono (by decide)) rfl T.g__law_put_leaf (pa_cons (pv 0) (pa_cons (pv 1) (pa_cons (pe_c G__law_pull (hr.mono (by decide)) rfl T.g__law_pull (pa_cons (pv 0) (pa_cons pe_int pa_nil))) pa_nil)))))) pss_nil)
      (pss_cons (ps_if (pt_cmpR op_eq (pv 3) pe_int (nomark _)) (pss_cons (ps_set (i := 10) nd rfl (by first | exact Or.inl rfl | exact Or.inr rfl) (pe_callB (call_len_seq) rfl T.f_len bt_len (pa_cons (pv 9) pa_nil)))
      (pss_cons (ps_set (i := 11) nd rfl (by first | exact Or.inl rfl | exact Or.inr rfl) (pe_c G__law_put_stem (hr.mono (by decide)) rfl T.g__law_put_stem (pa_cons (pv 0) (pa_cons (pv 1) pa_nil))))
      (pss_cons (ps_if (pt_cmpR op_eq (pe_callB (call_len_seq) rfl T.f_len bt_len (pa_cons (pv 9) pa_nil)) (pv 10) (nomark _)) (pss_cons (ps_expr (pe_m0 (pv 5) T.cl G_forget (hr.mono (by decide))))
      (pss_one (ps_expr (pe_bm0 PySem.F.plainAttrs_list PySem.F.slot_list_clear PySem.F.type_list_clear (mt_clear) (pv 2))))) pss_nil)
      (pss_one (ps_ret (pv 11)))))) pss_nil)
      (pss_cons (ps_expr (pe_bm0 PySem.F.plainAttrs_list PySem.F.slot_list_clear PySem.F.type_list_clear (mt_clear) (pv 2)))
      (pss_one (ps_ret (pe_and (pe_cmp (pc_isN (pe_m0 (pv 5) T.cl G_forget (hr.mono (by decide))))) (pe_one (pe_cmpR (op_eqD hr.units) (pe_m0 (pv 5) T.cl G_looked (hr.mono (by decide))) (pe_lst pa_nil) (nomark _)))))))))))))))))), ?_⟩
    refine sq_asg (at_then (at_var rfl) (g5 hsa ?_))
    refine sq_as (wp_call (ata_cons (at_var rfl) (ata_cons at_c ata_nil)) ⟨wl, 16, rfl, by decide, by decide, B.wl, fun way H1 hway f1 W1 => ?_⟩)
    have b1 := BTo.pull B f1 W1
    have B1 := b1.at_
    have hz1 := f1 _ _ hz n2
    have hsa1 := B.wl.tk f1 _ _ hsa
    have fin : ∀ {H' : Hp} {S' : ShA} {L' : LwA} {G' : Gs}, BTo K g tb lamQ wl H1 S L G H' S' L' G' sn → G'.nx ≤ G.nx + 1 → Q (.bl true) H' := fun b h => k _ _ _ _ _ ((b1.trans b).d hz n1 n2 (by omega) h)
    have hpl : ∀ {H2 : Hp} {D : Ends} {σ : L2.St} {hw0 : σ[0]? = some (some (.ref wl))} {hw1 : σ[1]? = some (some (.ref sa))}, Same H1 H2 → D.rt = Q → tRet (tCall (spLawPutLeaf K tb lamQ) [] E0 (tCons (tVar 0) (tCons (tVar 1) (tCons (tCall spPull [] E0 (tCons (tVar 0) (tCons (tC (.int 16)) tNil))) tNil)))) D σ H2 := fun {H2 D σ hw0 hw1} s2 eD => by
      refine rt_ ?_
      rw [eD]
      refine callW3 (at_then (at_var hw0) (at_then (at_var hw1) (wp_call (ata_cons (at_var hw0) (ata_cons at_c ata_nil)) ⟨wl, 16, rfl, by decide, by decide, W1.same s2, fun r H3 hr3 f3 W3 => ?_⟩)))
      have b2 := BTo.same B1 s2
      have b3 := BTo.pull b2.at_ f3 W3
      have hsa3 := (W1.same s2).tk f3 _ _ (s2 _ _ hsa1)
      exact ⟨g, wl, sa, S, L, G, sn, r, rfl, hsa3, b3.at_, GO, hr3, by omega, fun H' S' L' G' b hx _ => fin ((b2.trans b3).trans b) (by omega)⟩
    refine sq_ifS (b := decide (G.ns.length = 0)) (fun Q q => testW (opW (at_then (at_var rfl) (fun p hp => ⟨L.tw, p, _, rfl, rfl, same_new hp _ _ B1.lw.tw, upd_same, _, rfl, by rw [dM_length]; exact q _ (same_new hp)⟩)))) (fun _ H2 s2 => hpl (hw0 := rfl) (hw1 := rfl) s2 rfl) fun hb H2 s2 => ?_
    have hne : G.ns ≠ [] := fun e => by
      rw [e] at hb
      cases hb
    have b2 := BTo.same B1 s2
    have B2 := b2.at_
    refine sq_as (callW2 (at_then (at_var rfl) (sortedW (F := fun n => .ref (L.tv n)) (at_var rfl) B2.lw.tw B2.wf.so fun p hp => ?_)))
    have s3 := same_new (o := .lst (G.ns.map iV)) hp
    have npw : p ≠ wl := (B2.new hp).2.1
    refine ⟨wl, p, G.ns, rfl, B2.wl.same s3, upd_same, npw, hne, by have := B2.wf.len; omega, fun n H3 hn f3 W3 => ?_⟩
    have b3 := (b2.trans (BTo.same B2 s3)).trans (BTo.pull (B2.same s3) f3 W3)
    have B3 := b3.at_
    have hz3 : H3 zl = some (.lst (sn.map iV)) := b3.fr _ _ hz1 (fun z => z.elim n1 n2) (fun _ z => by cases z)
    have hsa3 : H3 sa = some (.tup (stT S L)) := (B2.wl.same s3).tk f3 _ _ (s3 _ _ (s2 _ _ hsa1))
    have fin3 : ∀ {H' : Hp} {S' : ShA} {L' : LwA} {G' : Gs}, BTo K g tb lamQ wl H3 S L G H' S' L' G' sn → G'.nx ≤ G.nx + 1 → Q (.bl true) H' := fun b h => fin (b3.trans b) h
    obtain ⟨dx3, ob3⟩ := B3.sh.c.ob
    have hnx3 := B3.lw.nz
    refine sq_ifn (att_test (at_I0 (at_var rfl) at_c rfl)) (fun _ => ?_) fun h11 => ?_
    · exact rt_ (wp_call (ata_cons (at_var rfl) (ata_cons (at_var rfl) (ata_cons (at_var rfl) (ata_cons (at_var rfl) ata_nil)))) ⟨g, wl, sa, S, L, G, sn, n, way, rfl, hsa3, B3, GO, hn, fun H' S' L' G' b hx => fin3 b (by omega)⟩)
    refine sq_ifn (att_test (at_I0 (at_var rfl) at_c rfl)) (fun _ => ?_) fun h6 => ?_
    · have hzz : H3 zl = some (.lst (sn.map iV)) := hz3
      refine sq_app (at_var rfl) hz3 (at_var rfl) (by rw [List.length_map]; omega) ?_
      have B4 := B3.setz (ys := sn.map iV ++ [iV n]) hz3 n1 n2
      have hz4 : upd H3 zl (.lst (sn.map iV ++ [iV n])) zl = some (.lst ((sn ++ [n]).map iV)) := by
        rw [upd_same, List.map_append]
        rfl
      have f4 : FrT (fun a => bunF S L G.ns wl a ∨ a = zl) H3 (upd H3 zl (.lst (sn.map iV ++ [iV n]))) := FrT.of ((Fr.upd (F := fun a => a = zl) rfl).mono fun a h => .inr h)
      generalize upd H3 zl (.lst (sn.map iV ++ [iV n])) = H4 at B4 hz4 f4 ⊢
      refine rt_ (wp_call (ata_cons (at_var rfl) (ata_cons (at_var rfl) (ata_cons (at_dget (at_var rfl) (at_var rfl) (B4.lw.dgt hn)) ata_nil))) ⟨g, wl, S, L, G, sn, n, rfl, B4, GO, hn, by omega, fun H5 S5 b5 => ?_⟩)
      refine k H5 S5 L G (sn ++ [n]) ⟨b5.at_, b5.p, b5.e, (((b1.trans b3).fr.mono fun a h => .inl h).trans f4).trans (b5.fr.mono fun a h => .inl h), fun a h => ?_, b5.fr _ _ hz4 (fun z => z.elim n1 n2) (fun _ z => by cases z), by rw [List.length_append]; exact Nat.le_refl _, by omega⟩
      by_cases y : bunF S L G.ns wl a ∨ a = zl
      · rcases y with (y | y) | y
        · exact .inl y
        · subst y
          exact absurd h b5.at_.wst
        · subst y
          rcases b5.ft _ h with z | z
          · exact .inl z
          · obtain ⟨ps, e⟩ := z _ hz4
            cases e
      · rcases b5.ft a h with z | z
        · exact .inl z
        · refine .inr fun o ho => Classical.byContradiction fun nt => nt ?_
          exact z o ((((b1.trans b3).fr.mono fun a h => .inl h).trans f4) a o ho y fun ps e => nt ⟨ps, e⟩)
    refine sq_ifn (att_test (at_eq (at_var rfl) at_c rfl dec_int)) (fun _ => ?_) fun h6b => ?_
    · refine rt_ (andVW (callW2 (wp_meth (at_var rfl) ob3 rfl (ata_cons (at_var rfl) ata_nil) ⟨g, S, G, sn, n, rfl, B3.sh, hn, fun v hv => ?_⟩)))
      refine wp_call (ata_cons (at_var rfl) (ata_cons (at_var rfl) ata_nil)) ⟨g, L, G, n, rfl, B3.lw, B3.wf, hn, fun v2 H4 s4 hv2 => ?_⟩
      obtain ⟨o1, o2⟩ := lab_ok B3.wf GO hn
      refine ⟨v, v2, _, rfl, hv.sm s4, hv2, o1, o2, fun H5 s5 => ⟨true, rfl, ?_⟩⟩
      rw [if_pos rfl]
      have b5 := BTo.same B3 (s4.trans s5)
      obtain ⟨dx5, ob5⟩ := b5.at_.sh.c.ob
      have hlv := B3.wf.lv n hn
      have hh0 := B3.wf.h0 n hn
      have pos : 0 < ((G.ab n).length : Int) + G.h n := by
        rcases hlv with h | h
        · omega
        · have := List.length_pos_iff.mpr h
          omega
      exact at_I0 (z := .bl true) (at_meth (at_var rfl) ob5 rfl (ata_cons (at_var rfl) ata_nil) fun Q q => ⟨g, S, G, sn, n, rfl, b5.at_.sh, hn, q⟩) at_c (congrArg V.bl (decT pos)) _ (fin3 b5 (by omega))
    refine sq_ifn (att_test (at_eq (at_var rfl) at_c rfl dec_int)) (fun _ => ?_) fun h7b => ?_
    · refine rt_ (opW (wp_meth (at_var rfl) ob3 rfl (ata_cons (at_var rfl) ata_nil) ⟨g, S, G, sn, n, rfl, B3.sh, B3.wf.up, hn, fun H4 b s4 hb4 => ?_⟩))
      have b4 := BTo.same B3 s4
      refine isNW (wp_call (ata_cons (at_var rfl) (ata_cons (at_var rfl) (ata_cons (at_var rfl) ata_nil))) ⟨g, L, G, n, rfl, b4.at_.lw, B3.wf, hn, fun al H5 s5 => ?_, fun al H5 j s5 => ?_⟩)
      · refine ⟨rfl, ?_⟩
        rw [hb4.mpr al]
        exact fin3 (b4.trans (BTo.same b4.at_ s5)) (by omega)
      · refine ⟨rfl, ?_⟩
        have : b = false := by
          cases b with
          | true => exact absurd (hb4.mp rfl) al
          | false => rfl
        rw [this, decF (show ¬ iV j = V.non by intro z; cases z)]
        exact fin3 (b4.trans (BTo.same b4.at_ s5)) (by omega)
    refine sq_ifn (att_test (at_eq (at_var rfl) at_c rfl dec_int)) (fun _ => ?_) fun h8b => ?_
    · refine rt_ (andVW (opW (wp_meth0 (at_var rfl) ob3 rfl ⟨g, S, G, sn, rfl, B3.sh, cb1 (wp_meth0 (at_var rfl) ob3 rfl ⟨g, S, G, sn, rfl, B3.sh, B3.wf.so, fun q hq => ⟨q, _, rfl, .inl (SqL.of upd_same), rfl, true, ?_, ?_⟩⟩)⟩)))
      · rw [List.length_map]
        exact congrArg V.bl (decT rfl)
      · rw [if_pos rfl]
        have b4 := BTo.same B3 (same_new (o := .lst (G.ns.map iV)) hq)
        obtain ⟨dx4, ob4⟩ := b4.at_.sh.c.ob
        exact at_eq (b := true) (at_meth (at_var rfl) ob4 rfl (ata_cons (at_var rfl) ata_nil) fun Q q => ⟨g, S, G, sn, n, rfl, b4.at_.sh, hn, q⟩) (at_dget (at_var rfl) (at_var rfl) (b4.at_.lw.dgh hn)) rfl (decT rfl) _ (fin3 b4 (by omega))
    refine sq_ifn (att_test (at_eq (at_var rfl) at_c rfl dec_int)) (fun _ => ?_) fun h9b => ?_
    · refine rt_ (callW3 (at_then (at_var rfl) (at_then (at_var rfl) (wp_call (ata_cons (at_var rfl) (ata_cons at_c ata_nil)) ⟨wl, 16, rfl, by decide, by decide, B3.wl, fun r H4 hr4 f4 W4 => ?_⟩))))
      have b4 := BTo.pull B3 f4 W4
      have hsa4 := B3.wl.tk f4 _ _ hsa3
      exact ⟨g, wl, sa, S, L, G, sn, r, rfl, hsa4, b4.at_, GO, hr4, by omega, fun H' S' L' G' b hx _ => fin3 (b4.trans b) (by omega)⟩
    have b13 := b1.trans b3
    refine sq_ifn (att_test (at_eq (at_var rfl) at_c rfl dec_int)) (fun _ => ?_) fun h10b => ?_
    · refine sq_set (at_lenL (ata_cons (at_var rfl) ata_nil) B3.lw.to) ?_
      refine sq_as (wp_call (ata_cons (at_var rfl) (ata_cons (at_var rfl) ata_nil)) ⟨g, wl, sa, S, L, G, sn, rfl, hsa3, B3, GO, by omega, hne, fun H4 S4 L4 G4 b4 hne4 hx4 => ?_⟩)
      have b14 := b13.trans b4
      have hto4 := b4.at_.lw.to
      rw [b4.e.2.2.2] at hto4
      refine sq_ifn (att_test (at_eq (at_lenL (ata_cons (at_var rfl) ata_nil) hto4) (at_var rfl) rfl dec_int)) (fun _ => ?_) fun _ => ?_
      · obtain ⟨dx4, ob4⟩ := b4.at_.sh.c.ob
        rw [b4.p] at ob4
        refine sq_dr (wp_meth0 (at_var rfl) ob4 rfl ⟨g, S4, G4, sn, by rw [b4.p], b4.at_.sh, fun H5 q Z => ?_⟩)
        have b5 := b4.at_.shelf Z (b4.at_.lw.away Z.fr (b4.at_.sh.tk Z.fr) fun a h z => b4.at_.dj a z h) b4.at_.wf ⟨rfl, rfl, rfl, rfl⟩ fun a h => h
        have b15 := b14.trans b5
        have d5 := b15.dz (m := sn.length + 1) hz n1 n2 (Nat.zero_le _) (by omega)
        have hz5 := b15.fr _ _ hz (fun z => z.elim n1 n2) (fun _ z => by cases z)
        exact st_clear (at_var rfl) hz5 (st_ret (at_var rfl) (k _ _ _ _ _ d5))
      · exact st_ret (at_var rfl) (k _ _ _ _ _ (b14.d hz n1 n2 (by omega) (by omega)))
    · refine sq_clear (at_var rfl) hz3 ?_
      have B4 := B3.setz (ys := []) hz3 n1 n2
      have f4 : FrT (fun a => bunF S L G.ns wl a ∨ a = zl) H3 (upd H3 zl (.lst [])) := FrT.of ((Fr.upd (F := fun a => a = zl) rfl).mono fun a h => .inr h)
      have hz4 : upd H3 zl (.lst []) zl = some (.lst (([] : List Nat).map iV)) := upd_same
      generalize upd H3 zl (.lst []) = H4 at B4 f4 hz4 ⊢
      obtain ⟨dx4, ob4⟩ := B4.sh.c.ob
      refine rt_ (andVW (isNW (wp_meth0 (at_var rfl) ob4 rfl ⟨g, S, G, sn, rfl, B4.sh, fun H5 q Z => ⟨true, rfl, ?_⟩⟩)))
      rw [if_pos rfl]
      have b5 := B4.shelf Z (B4.lw.away Z.fr (B4.sh.tk Z.fr) fun a h z => B4.dj a z h) B4.wf ⟨rfl, rfl, rfl, rfl⟩ fun a h => h
      obtain ⟨dx5, ob5⟩ := b5.at_.sh.c.ob
      refine opW (wp_meth0 (at_var rfl) ob5 rfl ⟨g, { S with s := q }, G, [], rfl, b5.at_.sh, fun q2 hq2 => (sm_eqNil (K := K) (σ := []) (ta := tC (.ref q2)) (ns := []) at_c upd_same) _ fun H6 s6 => ?_⟩)
      have s56 := (same_new (o := .lst (([] : List Nat).map iV)) hq2).trans s6
      have b6 := b5.trans (BTo.same b5.at_ s56)
      refine k H6 _ L G [] ⟨b6.at_, b6.p, b6.e, ((b13.fr.mono fun a h => .inl h).trans f4).trans (b6.fr.mono fun a h => .inl h), fun a h => ?_, b6.fr _ _ hz4 (fun z => z.elim n1 n2) (fun _ z => by cases z), Nat.zero_le _, by omega⟩
      by_cases y : bunF S L G.ns wl a ∨ a = zl
      · rcases y with (y | y) | y
        · exact .inl y
        · subst y
          exact absurd h b6.at_.wst
        · subst y
          rcases b6.ft _ h with z | z
          · exact .inl z
          · obtain ⟨ps, e⟩ := z _ hz4
            cases e
      · rcases b6.ft a h with z | z
        · exact .inl z
        · refine .inr fun o ho => Classical.byContradiction fun nt => nt ?_
          exact z o (((b13.fr.mono fun a h => .inl h).trans f4) a o ho y fun ps e => nt ⟨ps, e⟩)
end
end Tw

set_option Elab.async false
set_option linter.all false
set_option maxRecDepth 100000
set_option maxHeartbeats 4000000
/-! The law: begun. -/
namespace Tw
open PySem PySem.Spec PyProof.Rows L2 LamX
open He (ga ma)
theorem pe_mk0 {X : Cx} {C f : Addr} {k : Nat} {ps : List Str} {sp : Sp} {x : Str} {p pos : Pos} (M : Mk X.K C f) (G : OkF X.prog X.w X.K X.mg X.base CX0 k f ps sp) (hr : Room (k + 1) X.A) (hg : Gl X x) (hm : X.mg x = some (.ref C))
    (hdb : (x == ("__debug__" : Str)) = false := by decide) : PE X (.Call (.Name x p) [] [] pos) (tMake C sp [] E0 tNil) := by
  obtain ⟨⟨fd, a, b⟩, c⟩ := G
  exact pe_make0 M a hr hg hm b .nil pass0 hdb
theorem wf_0 : WF G0 := ⟨fun n hn => absurd hn List.not_mem_nil, fun n hn => absurd hn List.not_mem_nil, .nil, fun n hn => absurd hn List.not_mem_nil, fun n hn => absurd hn List.not_mem_nil, fun n hn => absurd hn List.not_mem_nil, fun n hn => absurd hn List.not_mem_nil, fun n hn => absurd hn List.not_mem_nil⟩
def spGrid : Sp := fun vs H Q _ => ∃ w, vs = [.ref w] ∧ WellOk H w ∧ ∀ q gs g H', Fr (fun a => a = w) H H' → WellOk H' w → H q = none → H' q = some (.lst gs) → TpA H' gs ((List.range 64).map g) → GridOk g → Q (.ref q) H'
def spBegun (K : PySem.W.Frag) (tb : Addr) : Sp := fun vs H Q _ => ∃ w, ∃ a b : Nat, vs = [.ref w, .int (a : Int), .int (b : Int)] ∧ WellOk H w ∧ TabS H tb lamQ ∧ 1 ≤ a ∧ a ≤ 12 ∧ b ≤ 8 ∧
  ∀ H' sa S L G g, Bun K g tb lamQ w H' S L G [] → GridOk g → H' sa = some (.tup (stT S L)) → FrT (fun a => a = w) H H' → (∀ a, stF S L G.ns a → Nw H a) → G.nx ≤ 20 → G.ns ≠ [] → Q (.ref sa) H'
theorem makeW {K : PySem.W.Frag} {σ : L2.St} {H : Hp} {C : Addr} {Q : VK} (k : ∀ S H', (∀ g, ShAt K g H' S G0 []) → Same H H' → (∀ a, shF S [] a → H a = none) → Q (.ref S.p) H') (hC : C = ga K "Shelf") : tMake C (spInit K) [] E0 tNil σ H Q := by
  subst hC
  intro x dx hx hdx hne
  refine ⟨x, dx, rfl, upd_same, fun S H' e A fr ft => ⟨rfl, ?_⟩⟩
  subst e
  have s : Same H H' := fun a o h => by
    have h1 : a ≠ S.p := ne_of_none h hx
    exact fr a o (by rw [upd_ne h1, upd_ne (ne_of_none h hdx)]; exact h) h1
  refine k S H' A s fun a h => ?_
  rcases ft a h with e | e
  · rw [e]
    exact hx
  · exact (upd_none (upd_none e).2).2
theorem tup5W {σ : L2.St} {H : Hp} {t1 t2 t3 t4 t5 : TE} {Q : VK} (h : t1 σ H fun a H1 => t2 σ H1 fun b H2 => t3 σ H2 fun c H3 => t4 σ H3 fun d H4 => t5 σ H4 fun e H5 => 5 ≤ sizeLine ∧ ∀ p, H5 p = none → Q (.ref p) (upd H5 p (.tup [a, b, c, d, e]))) : tTup (tCons t1 (tCons t2 (tCons t3 (tCons t4 (tCons t5 tNil))))) σ H Q := h
theorem st_notB {σ : L2.St} {H : Hp} {te : TE} {s1 : TS} {D : Ends} (h : te σ H fun x H1 => ∃ k, x = .bl k ∧ (if (!k) = true then s1 D σ H1 else tNext D σ H1)) : tIfS (tNot (tB te)) s1 tNext D σ H := by
  have e : tIfS (tNot (tB te)) s1 tNext D σ H = (te σ H fun x H1 => ∃ k, x = .bl k ∧ (if (!k) = true then s1 D σ H1 else tNext D σ H1)) := rfl
  rw [e]
  exact h
/-- what stays through a turn -/
structure BgAt (K : PySem.W.Frag) (g : Nat → PyData) (tb w sa a b : Addr) (H : Hp) (S : ShA) (L : LwA) (m : Nat) (z : Prop) (σ : L2.St) (H' : Hp) : Prop where
  l : ∃ x, σ = [some (.ref w), some (.int a), some (.int b), some (.ref sa), x]
  h : ∃ S' L' G', BTo K g tb lamQ w H S L G0 H' S' L' G' [] ∧ H' sa = some (.tup (stT S L)) ∧ G'.nx ≤ m ∧ (z → G'.ns ≠ [])
section
variable {P : Program} {w : World} {K : PySem.W.Frag} {mg : Str → Option Value} {base : Heap}
theorem sc__law_begun : FnScope ["_law_well_here", "_law_leaves", "_law_stems", "_law_state", "_law_j"] ["_law_well_here", "_law_leaves", "_law_stems"] (defScope (top 52)) := ⟨rfl, rfl, rfl, by decide +kernel, rfl, by decide +kernel, by decide +kernel⟩
theorem ok__law_begun (T : TX K mg) {tb : Addr} (MS : Mk K (ga K "Shelf") (ma K (ga K "Shelf") "__init__")) (F : Fd K "_law_begun" "_law_begun" (top 52) (ga K "_law_begun")) (G_init : OkF P w K mg base CX0 1 (ma K (ga K "Shelf") "__init__") ["self"] (spInit K))
    (G__law_grid : OkF P w K mg base CX0 2 (ga K "_law_grid") ["_law_well_here"] spGrid)
    (G__law_put_leaf : OkF P w K mg base CX0 10 (ga K "_law_put_leaf") ["_law_well_here", "_law_state", "_law_block"] (spLawPutLeaf K tb lamQ)) (G__law_put_stem : OkF P w K mg base CX0 10 (ga K "_law_put_stem") ["_law_well_here", "_law_state"] (spLawPutStem K tb)) :
    OkF P w K mg base CX0 11 (ga K "_law_begun") ["_law_well_here", "_law_leaves", "_law_stems"] (spBegun K tb) := by
  refine mkOk F sc__law_begun (fun vs H Q E h => ?_) (fun _ _ _ _ _ _ us hl => match us, hl with | [_, _, _], _ => rfl) (fun cdv A outer s H vs Q E hr h => ?_)
  · obtain ⟨wl, a, b, rfl, _⟩ := h
    rfl
  · obtain ⟨wl, a, b, rfl, W0, tab, ha1, ha, hb, k⟩ := h
    have hu := hu_of hr
    have nd := sc__law_begun.nd
    refine ⟨_, (pss_cons (ps_set (i := 3) nd rfl (by first | exact Or.inl rfl | exact Or.inr rfl) (pe_tup (pa_cons (pe_mk0 MS G_init (hr.mono (by decide)) rfl T.g_Shelf) (pa_cons pe_dnewK (pa_cons pe_dnewK (pa_cons (pe_c G__law_grid (hr.mono (by decide)) rfl T.g__law_grid (pa_cons (pv 0) pa_nil)) (pa_cons (pe_lst pa_nil) pa_nil)))))))
      (pss_cons (ps_for PassesOwn.never rfl (pi_range1 rfl T.f_range (pa_cons (pv 1) pa_nil)) (pg_name (i := 4) nd rfl (by first | exact Or.inl rfl | exact Or.inr rfl)) (pss_one (ps_if (pt_not (pt_val (pe_c G__law_put_leaf (hr.mono (by decide)) rfl T.g__law_put_leaf (pa_cons (pv 0) (pa_cons (pv 3) (pa_cons (pv 4) pa_nil)))))) (pss_one (ps_ret pe_non)) pss_nil)))
      (pss_cons (ps_for PassesOwn.never rfl (pi_range1 rfl T.f_range (pa_cons (pv 2) pa_nil)) (pg_name (i := 4) nd rfl (by first | exact Or.inl rfl | exact Or.inr rfl)) (pss_one (ps_if (pt_not (pt_val (pe_c G__law_put_stem (hr.mono (by decide)) rfl T.g__law_put_stem (pa_cons (pv 0) (pa_cons (pv 3) pa_nil))))) (pss_one (ps_ret pe_non)) pss_nil)))
      (pss_one (ps_ret (pv 3)))))), ?_⟩
    refine sq_as (tup5W (makeW (fun S H1 A1 s1 ft1 => ?_) rfl))
    intro tw htw ho hho
    have s2 := same_new (o := .dK []) htw
    have s3 := same_new (o := .dK []) hho
    refine wp_call (ata_cons (at_var rfl) ata_nil) ⟨wl, rfl, ((W0.same s1).same s2).same s3, fun gr gs g H4 f4 W4 hgr hgr4 hgs GO => ?_⟩
    refine ⟨z0, fun to hto => ⟨zl (by decide), fun sa hsa => ?_⟩⟩
    have s5 := same_new (o := .lst []) hto
    have s6 := same_new (o := .tup [.ref S.p, .ref tw, .ref ho, .ref gr, .ref to]) hsa
    have s13 := (s1.trans s2).trans s3
    have f06 := ((Fr.same (F := fun a => a = wl) s13).trans f4).trans (Fr.same (s5.trans s6))
    obtain ⟨w1, w2, w3, w4, w5, w6⟩ := id W0
    have nw : ∀ {x : Addr}, H x = none → x ≠ wl := fun h z => by rw [z, w5] at h; cases h
    have htwH : H tw = none := s1.free htw
    have hhoH : H ho = none := (s1.trans s2).free hho
    have hgrH : H gr = none := s13.free hgr
    have htoH : H to = none := W0.free ((Fr.same (F := fun a => a = wl) s13).trans f4) W4 hto
    have keep : ∀ x o, x ≠ wl → upd (upd H1 tw (.dK [])) ho (.dK []) x = some o → upd (upd H4 to (.lst [])) sa (.tup [.ref S.p, .ref tw, .ref ho, .ref gr, .ref to]) x = some o := fun x o n e => (s5.trans s6) _ _ (f4 x o e n)
    have etw := keep tw _ (nw htwH) (s3 _ _ upd_same)
    have eho := keep ho _ (nw hhoH) upd_same
    have egr := (s5.trans s6) _ _ hgr4
    have eto : upd (upd H4 to (.lst [])) sa (.tup [.ref S.p, .ref tw, .ref ho, .ref gr, .ref to]) to = some (.lst []) := s6 _ _ upd_same
    have esa : upd (upd H4 to (.lst [])) sa (.tup [.ref S.p, .ref tw, .ref ho, .ref gr, .ref to]) sa = some (.tup [.ref S.p, .ref tw, .ref ho, .ref gr, .ref to]) := upd_same
    have egs := hgs.sm (s5.trans s6)
    have W6 := W4.same (s5.trans s6)
    have tab6 : TabS (upd (upd H4 to (.lst [])) sa (.tup [.ref S.p, .ref tw, .ref ho, .ref gr, .ref to])) tb lamQ := tabS_fr (F := fun a => a = wl) tab f06 fun x o h e => by
      subst h
      exact W0.pl e
    have tk06 := W0.tk f06
    have A6 : ShAt K g (upd (upd H4 to (.lst [])) sa (.tup [.ref S.p, .ref tw, .ref ho, .ref gr, .ref to])) S G0 [] := ((A1 g).same (s2.trans s3)).away ((Fr.refl _ _).trans (f4.trans (Fr.same (s5.trans s6)))) ((((W0.same s1).same s2).same s3).tk (f4.trans (Fr.same (s5.trans s6)))) fun x h z => nw (ft1 x h) z
    have ntwho : tw ≠ ho := ne_of_none upd_same hho
    have ngt : gr ≠ to := ne_of_none hgr4 hto
    have B0 : Bun K g tb lamQ wl (upd (upd H4 to (.lst [])) sa (.tup [.ref S.p, .ref tw, .ref ho, .ref gr, .ref to])) S ⟨tw, ho, gr, to, fun _ => 0, fun _ => 0⟩ G0 [] := by
      refine ⟨A6, ⟨etw, eho, ⟨gs, egr, egs⟩, eto, fun n hn => absurd hn List.not_mem_nil, ntwho, ngt, fun n hn => absurd hn List.not_mem_nil, Nat.zero_le _⟩, wf_0, fun x h z => ?_, W6, fun z => ?_, tab6⟩
      · obtain ⟨o, ho1, _⟩ := (A1 g).some_ h
        have h2 := ((s2.trans s3)) _ _ ho1
        have n0 := nw (ft1 x h)
        rcases z with z | z | z | z | ⟨n, hn, _⟩
        · have z : x = tw := z
          rw [z, htw] at ho1
          cases ho1
        · have z : x = ho := z
          rw [z] at ho1
          rw [s2 _ _ ho1] at hho
          cases hho
        · have z : x = gr := z
          rw [z, hgr] at h2
          cases h2
        · have z : x = to := z
          rw [z] at h2 n0
          rw [f4 _ _ h2 n0] at hto
          cases hto
        · exact absurd hn List.not_mem_nil
      · rcases z with z | z
        · exact nw (ft1 _ z) rfl
        · rcases z with z | z | z | z | ⟨n, hn, _⟩
          · exact nw htwH z.symm
          · exact nw hhoH z.symm
          · exact nw hgrH z.symm
          · exact nw htoH z.symm
          · exact absurd hn List.not_mem_nil
    have new0 : ∀ x, stF S ⟨tw, ho, gr, to, fun _ => 0, fun _ => 0⟩ G0.ns x → Nw H x := fun x h => by
      rcases h with h | h | h | h | h | ⟨n, hn, _⟩
      · exact Nw.of (ft1 x h)
      · exact Nw.of (by rw [show x = tw from h]; exact htwH)
      · exact Nw.of (by rw [show x = ho from h]; exact hhoH)
      · exact Nw.of (by rw [show x = gr from h]; exact hgrH)
      · exact Nw.of (by rw [show x = to from h]; exact htoH)
      · exact absurd hn List.not_mem_nil
    have f06' : FrT (fun a => a = wl) H _ := FrT.of f06
    generalize upd (upd H4 to (.lst [])) sa (.tup [.ref S.p, .ref tw, .ref ho, .ref gr, .ref to]) = H6 at B0 esa f06' ⊢
    have T0 := TK.refl H6
    refine sq_forR1 (n := a) (ata_cons (at_var rfl) ata_nil) (by omega) (fun i => BgAt K g tb wl sa a b H6 S ⟨tw, ho, gr, to, fun _ => 0, fun _ => 0⟩ i (0 < i)) ⟨⟨_, rfl⟩, _, _, _, BTo.same B0 (Same.refl _), esa, Nat.zero_le _, fun h => absurd h (Nat.lt_irrefl _)⟩ (fun i σ' H' hi hP => ?_) fun σ' H' hP => ?_
    · obtain ⟨⟨x, rfl⟩, S1, L1, G1, b1, e1, h1, _⟩ := hP
      have est : stT S1 L1 = stT S ⟨tw, ho, gr, to, fun _ => 0, fun _ => 0⟩ := by
        unfold stT
        rw [b1.p, b1.e.1, b1.e.2.1, b1.e.2.2.1, b1.e.2.2.2]
      refine st_notB (wp_call (ata_cons (at_var rfl) (ata_cons (at_var rfl) (ata_cons (at_var rfl) ata_nil))) ⟨g, wl, sa, S1, L1, G1, [], i, rfl, by rw [est]; exact e1, b1.at_, GO, by omega, by omega, fun H2 S2 L2 G2 b2 hx hne => ⟨true, rfl, ?_⟩⟩)
      exact ⟨⟨_, rfl⟩, S2, L2, G2, b1.trans b2, b2.fr.tk (fun a o h e xs => h.elim (fun h => (b1.at_.plB h e).tup xs) fun h => ((b1.at_.wl.pl (h ▸ e)).tup xs)) _ _ e1, by omega, fun _ => hne⟩
    refine sq_forR1 (n := b) (σ := σ') (ata_cons (at_var (by obtain ⟨⟨x, rfl⟩, _⟩ := hP; rfl)) ata_nil) (by omega) (fun i => BgAt K g tb wl sa a b H6 S ⟨tw, ho, gr, to, fun _ => 0, fun _ => 0⟩ (a + i) True) ⟨hP.l, by
      obtain ⟨_, S1, L1, G1, b1, e1, h1, h2⟩ := hP
      exact ⟨S1, L1, G1, b1, e1, h1, fun _ => h2 ha1⟩⟩ (fun i σ' H' hi hP => ?_) fun σ' H' hP => ?_
    · obtain ⟨⟨x, rfl⟩, S1, L1, G1, b1, e1, h1, hn1⟩ := hP
      have est : stT S1 L1 = stT S ⟨tw, ho, gr, to, fun _ => 0, fun _ => 0⟩ := by
        unfold stT
        rw [b1.p, b1.e.1, b1.e.2.1, b1.e.2.2.1, b1.e.2.2.2]
      refine st_notB (wp_call (ata_cons (at_var rfl) (ata_cons (at_var rfl) ata_nil)) ⟨g, wl, sa, S1, L1, G1, [], rfl, by rw [est]; exact e1, b1.at_, GO, by omega, hn1 trivial, fun H2 S2 L2 G2 b2 hne hx => ⟨true, rfl, ?_⟩⟩)
      exact ⟨⟨_, rfl⟩, S2, L2, G2, b1.trans b2, b2.fr.tk (fun a o h e xs => h.elim (fun h => (b1.at_.plB h e).tup xs) fun h => ((b1.at_.wl.pl (h ▸ e)).tup xs)) _ _ e1, by omega, fun _ => hne⟩
    obtain ⟨⟨x, rfl⟩, S1, L1, G1, b1, e1, h1, hn1⟩ := hP
    have est : stT S1 L1 = stT S ⟨tw, ho, gr, to, fun _ => 0, fun _ => 0⟩ := by
      unfold stT
      rw [b1.p, b1.e.1, b1.e.2.1, b1.e.2.2.1, b1.e.2.2.2]
    refine st_ret (at_var rfl) (k H' sa S1 L1 G1 g b1.at_ GO (by rw [est]; exact e1) ?_ (fun x h => ?_) (by omega) (hn1 trivial))
    · intro x o ho1 hn ht
      refine b1.fr x o (f06' x o ho1 hn ht) (fun z => ?_) ht
      rcases z with z | z
      · obtain ⟨ps, e⟩ := new0 x z o ho1
        exact ht ps e
      · exact hn z
    · intro o ho1
      by_cases q : x = wl
      · subst q
        exact absurd h b1.at_.wst
      · refine Classical.byContradiction fun nt => nt ?_
        rcases b1.ft x h with z | z
        · exact new0 x z o ho1
        · exact z o (f06' x o ho1 q fun ps e => nt ⟨ps, e⟩)
end
end Tw

set_option Elab.async false
set_option linter.all false
set_option maxRecDepth 100000
set_option maxHeartbeats 4000000
/-! The law itself. -/
namespace Tw
open PySem PySem.Spec PyProof.Rows L2 LamX
open He (ga ma)
def Scr (K : PySem.W.Frag) (H : Hp) (a : Addr) (xs : List V) (F : Addr → Prop) : Prop := (∀ H', SqL K H' a xs) ∨ ∃ o, H a = some o ∧ (∀ ps, o ≠ .tbl ps) ∧ ¬ F a ∧ ∀ H', H' a = some o → SqL K H' a xs
theorem Scr.sq {K : PySem.W.Frag} {H : Hp} {a : Addr} {xs : List V} {F : Addr → Prop} (h : Scr K H a xs F) : SqL K H a xs := h.elim (fun h => h H) fun ⟨o, e, _, _, k⟩ => k H e
theorem Scr.of {K : PySem.W.Frag} {H : Hp} {a : Addr} {xs : List V} (h : SqL K H a xs) : Scr K H a xs fun _ => False := by
  rcases h with (h | ⟨o, h⟩) | h
  · exact .inr ⟨_, h, (fun ps z => by cases z), id, fun H' e => .inl (.inl e)⟩
  · exact .inr ⟨_, h, (fun ps z => by cases z), id, fun H' e => .inl (.inr ⟨o, e⟩)⟩
  · exact .inl fun H' => .inr h
theorem Scr.fr {K : PySem.W.Frag} {H H' : Hp} {a : Addr} {xs : List V} {F F' : Addr → Prop} (h : Scr K H a xs F) (f : FrT F' H H') (i : ∀ x, F' x → F x) : Scr K H' a xs F :=
  h.imp id fun ⟨o, e, nt, nF, k⟩ => ⟨o, f a o e (fun z => nF (i a z)) nt, nt, nF, k⟩
theorem Scr.grow {K : PySem.W.Frag} {H : Hp} {a : Addr} {xs : List V} {F F' : Addr → Prop} (h : Scr K H a xs F) (i : ∀ x, F' x → F x ∨ Nw H x) : Scr K H a xs F' :=
  h.imp id fun ⟨o, e, nt, nF, k⟩ => ⟨o, e, nt, (fun z => (i a z).elim nF fun n => (n o e).elim nt), k⟩
theorem Bun.away2 {K : PySem.W.Frag} {g : Nat → PyData} {tb w w' : Addr} {qn : Str} {H H1 : Hp} {S : ShA} {L : LwA} {G : Gs} {sn : List Nat} {F : Addr → Prop} (B : Bun K g tb qn w H S L G sn) (f : FrT F H H1) (hp : ∀ a o, F a → H a = some o → Pl o) (W : WellOk H1 w') (hw' : ¬ stF S L G.ns w') (tab : TabS H1 tb qn) (hF : ∀ a, stF S L G.ns a → ¬ F a) : Bun K g tb qn w' H1 S L G sn := by
  have tk := f.tk fun a o h e => (hp a o h e).tup
  have hF' : ∀ a, stF S L G.ns a → ¬ (F a ∨ ∃ ps, H a = some (.tbl ps)) := fun a h z => z.elim (hF a h) fun ⟨ps, e⟩ => (B.plB h e).tbl ps rfl
  exact ⟨B.sh.away f.fr tk fun a h => hF' a (.inl h), B.lw.away f.fr tk fun a h => hF' a (.inr h), B.wf, B.dj, W, hw', tab⟩
/-- two shelves side by side -/
structure Two (K : PySem.W.Frag) (tb w sa sb a : Addr) (xs : List V) (g1 g2 : Nat → PyData) (X : Addr → Prop) (H : Hp) (S : ShA) (L : LwA) (G : Gs) (sn : List Nat) (S2 : ShA) (L2 : LwA) (G2 : Gs) (sn2 : List Nat) : Prop where
  b1 : Bun K g1 tb lamQ w H S L G sn
  b2 : Bun K g2 tb lamQ w H S2 L2 G2 sn2
  sa : H sa = some (.tup (stT S L))
  sb : H sb = some (.tup (stT S2 L2))
  dis : ∀ a, stF S L G.ns a → ¬ stF S2 L2 G2.ns a
  x : ∀ a, X a → (∃ o, H a = some o ∧ Pl o) ∧ ¬ stF S L G.ns a ∧ ¬ stF S2 L2 G2.ns a ∧ a ≠ w
  scr : Scr K H a xs fun q => stF S L G.ns q ∨ stF S2 L2 G2.ns q ∨ q = w ∨ X q
section
variable {K : PySem.W.Frag} {tb w w' sa sb a p : Addr} {xs : List V} {g1 g2 : Nat → PyData} {X Z : Addr → Prop} {H H' : Hp} {S S' S2 : ShA} {L L' L2 : LwA} {G G' G2 : Gs} {sn sn' sn2 : List Nat}
theorem Two.symm (T : Two K tb w sa sb a xs g1 g2 X H S L G sn S2 L2 G2 sn2) : Two K tb w sb sa a xs g2 g1 X H S2 L2 G2 sn2 S L G sn :=
  ⟨T.b2, T.b1, T.sb, T.sa, fun q h z => T.dis q z h, fun q h => ⟨(T.x q h).1, (T.x q h).2.2.1, (T.x q h).2.1, (T.x q h).2.2.2⟩, T.scr.grow fun q h => .inl (h.elim (fun h => .inr (.inl h)) fun h => h.elim .inl fun h => .inr (.inr h))⟩
theorem Two.same (T : Two K tb w sa sb a xs g1 g2 X H S L G sn S2 L2 G2 sn2) (s : Same H H') : Two K tb w sa sb a xs g1 g2 X H' S L G sn S2 L2 G2 sn2 :=
  ⟨T.b1.same s, T.b2.same s, s _ _ T.sa, s _ _ T.sb, T.dis, fun q h => ⟨(T.x q h).1.imp fun o ⟨e, r⟩ => ⟨s _ _ e, r⟩, (T.x q h).2⟩, T.scr.fr (FrT.of (Fr.same (F := fun _ => False) s)) fun _ h => h.elim⟩
/-- a new well -/
theorem Two.well (T : Two K tb w sa sb a xs g1 g2 X H S L G sn S2 L2 G2 sn2) (s : Same H H') (hw : H w' = none) (W : WellOk H' w') : Two K tb w' sa sb a xs g1 g2 X H' S L G sn S2 L2 G2 sn2 := by
  have T1 := T.same s
  refine ⟨⟨T1.b1.sh, T1.b1.lw, T1.b1.wf, T1.b1.dj, W, (T.b1.new hw).1, T1.b1.tab⟩, ⟨T1.b2.sh, T1.b2.lw, T1.b2.wf, T1.b2.dj, W, (T.b2.new hw).1, T1.b2.tab⟩, T1.sa, T1.sb, T1.dis, fun q h => ⟨(T1.x q h).1, (T1.x q h).2.1, (T1.x q h).2.2.1, fun z => ?_⟩, ?_⟩
  · obtain ⟨⟨o, e, _⟩, _⟩ := T.x q h
    rw [z, hw] at e
    cases e
  · exact (T.scr.grow fun q h => by
      rcases h with h | h | h | h
      · exact .inl (.inl h)
      · exact .inl (.inr (.inl h))
      · exact .inr (by rw [h]; exact Nw.of hw)
      · exact .inl (.inr (.inr (.inr h)))).fr (FrT.of (Fr.same (F := fun _ => False) s)) fun _ h => h.elim
/-- one of them moves -/
theorem Two.step (T : Two K tb w sa sb a xs g1 g2 X H S L G sn S2 L2 G2 sn2) (Z : Addr → Prop) (zx : ∀ q, Z q → X q) (fr : FrT (fun q => bunF S L G.ns w q ∨ Z q) H H') (zo : ∀ q, Z q → ∃ o, H' q = some o ∧ Pl o)
    (B : Bun K g1 tb lamQ w H' S' L' G' sn') (p : S'.p = S.p) (e : L'.tw = L.tw ∧ L'.ho = L.ho ∧ L'.gr = L.gr ∧ L'.to = L.to) (ft : ∀ q, stF S' L' G'.ns q → stF S L G.ns q ∨ Nw H q) : Two K tb w sa sb a xs g1 g2 X H' S' L' G' sn' S2 L2 G2 sn2 := by
  have est : stT S' L' = stT S L := by
    unfold stT
    rw [p, e.1, e.2.1, e.2.2.1, e.2.2.2]
  have pl : ∀ q o, (bunF S L G.ns w q ∨ Z q) → H q = some o → Pl o := fun q o h e => by
    rcases h with (h | h) | h
    · exact T.b1.plB h e
    · exact T.b1.wl.pl (h ▸ e)
    · obtain ⟨⟨o2, e2, r⟩, _⟩ := T.x q (zx q h)
      rw [e2] at e
      cases e
      exact r
  have tk := fr.tk fun q o h e => (pl q o h e).tup
  have nx : ∀ q, X q → ¬ stF S L G.ns q := fun q h => (T.x q h).2.1
  have no : ∀ {q o}, Nw H q → H q = some o → Pl o → False := fun n e r => by
    obtain ⟨ps, z⟩ := n _ e
    exact r.tbl ps z
  refine ⟨B, T.b2.away2 fr pl B.wl T.b2.wst B.tab fun q h z => ?_, by rw [est]; exact tk _ _ T.sa, tk _ _ T.sb, fun q h z => ?_, fun q h => ⟨?_, fun z => ?_, (T.x q h).2.2⟩, ?_⟩
  · rcases z with (z | z) | z
    · exact T.dis q z h
    · exact T.b2.wst (z ▸ h)
    · exact (T.x q (zx q z)).2.2.1 h
  · rcases ft q h with y | y
    · exact T.dis q y z
    · obtain ⟨o, ho⟩ := T.b2.there z
      exact no y ho (T.b2.plB z ho)
  · obtain ⟨⟨o, ho, r⟩, n1, _, n3⟩ := T.x q h
    by_cases z : Z q
    · exact zo q z
    · exact ⟨o, fr q o ho (fun y => y.elim (fun y => y.elim n1 n3) z) r.tbl, r⟩
  · obtain ⟨⟨o, ho, r⟩, n1, _⟩ := T.x q h
    rcases ft q z with y | y
    · exact n1 y
    · exact no y ho r
  · exact (T.scr.grow (F' := fun q => stF S' L' G'.ns q ∨ stF S L G.ns q ∨ stF S2 L2 G2.ns q ∨ q = w ∨ X q) fun q h => by
      rcases h with h | h
      · exact (ft q h).imp .inl id
      · exact .inl h).fr fr (fun q h => .inr (h.elim (fun h => h.elim .inl fun h => .inr (.inr (.inl h))) fun h => .inr (.inr (.inr (zx q h))))) |>.grow fun q h => .inl (h.elim .inl fun h => .inr (.inr h))
theorem Two.stepB (T : Two K tb w sa sb a xs g1 g2 X H S L G sn S2 L2 G2 sn2) (b : BTo K g1 tb lamQ w H S L G H' S' L' G' sn') : Two K tb w sa sb a xs g1 g2 X H' S' L' G' sn' S2 L2 G2 sn2 :=
  T.step (fun _ => False) (fun _ h => h.elim) (b.fr.mono fun _ h => .inl h) (fun _ h => h.elim) b.at_ b.p b.e b.ft
theorem Two.pull (T : Two K tb w sa sb a xs g1 g2 X H S L G sn S2 L2 G2 sn2) (f : Fr (fun a => a = w) H H') (W : WellOk H' w) : Two K tb w sa sb a xs g1 g2 X H' S L G sn S2 L2 G2 sn2 :=
  T.stepB (BTo.pull T.b1 f W)
/-- a new list beside -/
theorem Two.list (T : Two K tb w sa sb a xs g1 g2 X H S L G sn S2 L2 G2 sn2) (hp : H p = none) : Two K tb w sa sb a xs g1 g2 (fun q => X q ∨ q = p) (upd H p (.lst [])) S L G sn S2 L2 G2 sn2 := by
  have s := same_new (o := .lst []) hp
  have T1 := T.same s
  refine ⟨T1.b1, T1.b2, T1.sa, T1.sb, T1.dis, fun q h => ?_, ?_⟩
  · rcases h with h | h
    · exact T1.x q h
    · subst h
      exact ⟨⟨_, upd_same, .inl ⟨_, rfl⟩⟩, (T.b1.new hp).1, (T.b2.new hp).1, (T.b1.new hp).2.1⟩
  · exact (T.scr.grow fun q h => by
      rcases h with h | h | h | h | h
      · exact .inl (.inl h)
      · exact .inl (.inr (.inl h))
      · exact .inl (.inr (.inr (.inl h)))
      · exact .inl (.inr (.inr (.inr h)))
      · exact .inr (by rw [h]; exact Nw.of hp)).fr (FrT.of (Fr.same (F := fun _ => False) s)) fun _ h => h.elim
end
def spLaw (K : PySem.W.Frag) (tb : Addr) : Sp := fun vs H Q _ => ∃ (a : Addr) (ns : List Int), vs = [.ref a] ∧ ns.length ≤ 63 ∧ SqL K H a (ns.map V.int) ∧ TabS H tb lamQ ∧ ∀ H', Q (.bl true) H'
theorem sq_or2 {σ : L2.St} {H : Hp} {te1 te2 : TE} {s1 u : TS} {D : Ends} (h : te1 σ H fun x H1 => ∃ k, x = .bl k ∧ (if (!k) = true then s1 { D with nx := u D } σ H1 else te2 σ H1 fun y H2 => ∃ k, y = .bl k ∧ (if (!k) = true then s1 { D with nx := u D } σ H2 else u D σ H2))) : tSeq (tIfS (tOr (tNot (tB te1)) (tNot (tB te2))) s1 tNext) u D σ H := by
  refine torW ?_
  have e : ∀ Q : Bool → Hp → Prop, tNot (tB te1) σ H Q = (te1 σ H fun x H1 => ∃ k, x = .bl k ∧ Q (!k) H1) := fun _ => rfl
  rw [e]
  exact h
theorem sq_if0 {σ : L2.St} {H : Hp} {t : TT} {s1 u : TS} {D : Ends} (h : t σ H fun b H1 => if b = true then s1 { D with nx := u D } σ H1 else u D σ H1) : tSeq (tIfS t s1 tNext) u D σ H := h
theorem methW0 {σ : L2.St} {H : Hp} {ta : TE} {C : Addr} {m : Str} {sp : Sp} {E : XK} {Q : VK} (h : ta σ H fun x H1 => ∃ a dx fs, x = .ref a ∧ H1 a = some (.ins C dx fs) ∧ fs.lookup m = none ∧ sp [x] H1 Q E) : tMeth C m sp [] E ta tNil σ H Q := h
theorem nnT {σ : L2.St} {H : Hp} {i : Nat} {x : Addr} (h : σ[i]? = some (some (.ref x))) : AtT (tB (tIsN (tVar i))) σ H false := fun Q q => at_var h _ ⟨false, congrArg V.bl (decF fun z => by cases z), q⟩
/-- what stays through the turns -/
structure Turn (K : PySem.W.Frag) (tb sa sb a zl ol : Addr) (ns : List Int) (g1 g2 : Nat → PyData) (i : Nat) (σ : L2.St) (H : Hp) : Prop where
  l : ∃ x y z, σ = [some (.ref a), some (.ref sa), some (.ref sb), some (.ref zl), some (.ref ol), x, y, z]
  t : ∃ w S L G sn S2 L2 G2 sn2, Two K tb w sa sb a (ns.map V.int) g1 g2 (fun q => (False ∨ q = zl) ∨ q = ol) H S L G sn S2 L2 G2 sn2 ∧ H zl = some (.lst (sn.map iV)) ∧ H ol = some (.lst (sn2.map iV)) ∧ G.nx ≤ 19 + i ∧ sn.length ≤ i ∧ sn2.length ≤ i ∧ G2.ns ≠ []
section
variable {P : Program} {w : World} {K : PySem.W.Frag} {mg : Str → Option Value} {base : Heap}
theorem sc_law : FnScope ["_law_script", "_law_state", "_law_beside", "_law_seen_here", "_law_other", "_law_k", "_law_well_here", "_law_number"] ["_law_script"] (defScope (top 57)) := ⟨rfl, rfl, rfl, by decide +kernel, rfl, by decide +kernel, by decide +kernel⟩
theorem mkFn {x q : Str} {st : Stmt} {f : Addr} {N ps : List Str} {k : Nat} {sp : Sp} {fd : FuncData} (F : FunD K x q (defArgs st) (defBody st) (defScope st) [] [] f fd) (S : FnScope N ps (defScope st)) (len : ∀ vs H Q E, sp vs H Q E → vs.length = ps.length)
    (body : ∀ (cdv : Value) (A : Around) (outer : List Env) (s : Shared) (H : Hp) (vs : List V) (Q : VK) (E : XK), Room k (A.deeper (envOfC q (defScope st) s.heap.objs.size f cdv)) → sp vs H Q E →
      ∃ t, PSs (cxOf CX0 P w K mg base N q (defScope st) f cdv A outer s H E).nox (defBody st) t ∧ t { nx := fun _ H' => Q .non H', rt := Q } (start N vs) H) : FnOk P w K mg base CX0 (k + 1) f fd ps sp :=
  F.ok S len fun cdv A outer s H vs Q E hr h => let ⟨t, a, b⟩ := body cdv A outer s H vs Q E hr h; ⟨t, a.nox, b⟩
theorem ok_law (T : TX K mg) {tb : Addr} (MS : Mk K (ga K "Shelf") (ma K (ga K "Shelf") "__init__")) {fd : FuncData} (F : FunD K "law" "law" (defArgs (top 57)) (defBody (top 57)) (defScope (top 57)) [] [] (ga K "law") fd) (G_init : OkF P w K mg base CX0 1 (ma K (ga K "Shelf") "__init__") ["self"] (spInit K))
    (G_forget : OkM P w K mg base CX0 (ga K "Shelf") "forget" 1 (ma K (ga K "Shelf") "forget") ["self"] (spForget K)) (G_looked : OkM P w K mg base CX0 (ga K "Shelf") "looked" 1 (ma K (ga K "Shelf") "looked") ["self"] (spLooked K))
    (G__law_well : OkF P w K mg base CX0 1 (ga K "_law_well") ["_law_script", "_law_k"] (spWell K)) (G__law_begun : OkF P w K mg base CX0 11 (ga K "_law_begun") ["_law_well_here", "_law_leaves", "_law_stems"] (spBegun K tb)) (G__law_picked : OkF P w K mg base CX0 2 (ga K "_law_picked") ["_law_well_here", "_law_some"] spPicked)
    (G__law_deed : OkF P w K mg base CX0 11 (ga K "_law_deed") ["_law_well_here", "_law_state", "_law_seen_here"] (spDeed K tb)) (G__law_seen : OkF P w K mg base CX0 6 (ga K "_law_seen") ["_law_shelf", "_law_number", "_law_twig"] (spSeen K tb)) (G__law_looked : OkF P w K mg base CX0 6 (ga K "_law_looked") ["_law_shelf", "_law_seen_here"] (spLLooked K tb)) :
    FnOk P w K mg base CX0 12 (ga K "law") fd ["_law_script"] (spLaw K tb) := by
  refine mkFn F sc_law (fun vs H Q E h => ?_) (fun cdv A outer s H vs Q E hr h => ?_)
  · obtain ⟨a, ns, rfl, _⟩ := h
    rfl
  · obtain ⟨a, ns, rfl, hlen, hs, tab, k⟩ := h
    have hu := hu_of hr
    have nd := sc_law.nd
    refine ⟨_, (pss_cons (ps_set (i := 1) nd rfl (by first | exact Or.inl rfl | exact Or.inr rfl) (pe_c G__law_begun (hr.mono (by decide)) rfl T.g__law_begun (pa_cons (pe_c G__law_well (hr.mono (by decide)) rfl T.g__law_well (pa_cons (pv 0) (pa_cons pe_int pa_nil))) (pa_cons pe_int (pa_cons pe_int pa_nil)))))
      (pss_cons (ps_set (i := 2) nd rfl (by first | exact Or.inl rfl | exact Or.inr rfl) (pe_c G__law_begun (hr.mono (by decide)) rfl T.g__law_begun (pa_cons (pe_c G__law_well (hr.mono (by decide)) rfl T.g__law_well (pa_cons (pv 0) (pa_cons pe_int pa_nil))) (pa_cons pe_int (pa_cons pe_int pa_nil)))))
      (pss_cons (ps_if (PW.pt (pw_or (pt_cmp (pc_isN (pv 1))) (pw_or (pt_cmp (pc_isN (pv 2))) (pw_or1 (pt_cmpR (op_neD hr.units) (pe_m0 (pe_mk0 MS G_init (hr.mono (by decide)) rfl T.g_Shelf) T.cl G_looked (hr.mono (by decide))) (pe_lst pa_nil) (nomark _)))))) (pss_one (ps_ret pe_bl)) pss_nil)
      (pss_cons (ps_expr (pe_m0 (pe_ix ix_tup (pv 1) pe_int (fun _ _ => rfl)) T.cl G_forget (hr.mono (by decide))))
      (pss_cons (ps_expr (pe_m0 (pe_ix ix_tup (pv 2) pe_int (fun _ _ => rfl)) T.cl G_forget (hr.mono (by decide))))
      (pss_cons (ps_set (i := 3) nd rfl (by first | exact Or.inl rfl | exact Or.inr rfl) (pe_lst pa_nil))
      (pss_cons (ps_set (i := 4) nd rfl (by first | exact Or.inl rfl | exact Or.inr rfl) (pe_lst pa_nil))
      (pss_cons (ps_for PassesOwn.never rfl (pi_range2 rfl T.f_range (pa_cons pe_int (pa_cons (pe_callB (call_max2 rfl) rfl T.f_max bt_max (pa_cons pe_int (pa_cons (pe_callB (call_min2 rfl) rfl T.f_min bt_min (pa_cons (pe_callB (call_len_seq) rfl T.f_len bt_len (pa_cons (pv 0) pa_nil)) (pa_cons pe_int pa_nil))) pa_nil))) pa_nil))) (pg_name (i := 5) nd rfl (by first | exact Or.inl rfl | exact Or.inr rfl)) (pss_cons (ps_set (i := 6) nd rfl (by first | exact Or.inl rfl | exact Or.inr rfl) (pe_c G__law_well (hr.mono (by decide)) rfl T.g__law_well (pa_cons (pv 0) (pa_cons (pv 5) pa_nil))))
      (pss_cons (ps_if (PW.pt (pw_or (pt_not (pt_val (pe_c G__law_deed (hr.mono (by decide)) rfl T.g__law_deed (pa_cons (pv 6) (pa_cons (pv 1) (pa_cons (pv 3) pa_nil)))))) (pw_or1 (pt_not (pt_val (pe_c G__law_looked (hr.mono (by decide)) rfl T.g__law_looked (pa_cons (pe_ix ix_tup (pv 1) pe_int (fun _ _ => rfl)) (pa_cons (pv 3) pa_nil)))))))) (pss_one (ps_ret pe_bl)) pss_nil)
      (pss_one (ps_if (pt_cmpR op_eq (pe_op op_mod (pv 5) pe_int) pe_int (nomark _)) (pss_cons (ps_set (i := 7) nd rfl (by first | exact Or.inl rfl | exact Or.inr rfl) (pe_c G__law_picked (hr.mono (by decide)) rfl T.g__law_picked (pa_cons (pv 6) (pa_cons (pe_callB (cr_sortedK rfl) rfl T.f_sorted bt_sorted (pa_cons (pe_ix ix_tup (pv 2) pe_int (fun _ _ => rfl)) pa_nil)) pa_nil))))
      (pss_cons (ps_expr (pe_bm PySem.F.plainAttrs_list PySem.F.slot_list_append PySem.F.type_list_append (mt_append) (pv 4) (pa_cons (pv 7) pa_nil)))
      (pss_one (ps_if (pt_not (pt_val (pe_c G__law_seen (hr.mono (by decide)) rfl T.g__law_seen (pa_cons (pe_ix ix_tup (pv 2) pe_int (fun _ _ => rfl)) (pa_cons (pv 7) (pa_cons (pe_dget hu (pe_ix ix_tup (pv 2) pe_int (fun _ _ => rfl)) (pv 7) (fun _ _ => rfl)) pa_nil)))))) (pss_one (ps_ret pe_bl)) pss_nil)))) pss_nil)))))
      (pss_one (ps_ret (pe_and (pe_c G__law_looked (hr.mono (by decide)) rfl T.g__law_looked (pa_cons (pe_ix ix_tup (pv 1) pe_int (fun _ _ => rfl)) (pa_cons (pv 3) pa_nil))) (pe_one (pe_c G__law_looked (hr.mono (by decide)) rfl T.g__law_looked (pa_cons (pe_ix ix_tup (pv 2) pe_int (fun _ _ => rfl)) (pa_cons (pv 4) pa_nil))))))))))))))), ?_⟩
    have C0 := Scr.of hs
    refine sq_as (callW3 (wp_call (ata_cons (at_var rfl) (ata_cons at_c ata_nil)) ⟨a, ns, 0, rfl, hs, hlen, by decide, fun w1 H1 s1 hw1 W1 => ?_⟩))
    have C1 := (C0.grow (F' := fun q => q = w1) fun q h => .inr (by rw [h]; exact Nw.of hw1)).fr (FrT.of (Fr.same (F := fun _ => False) s1)) fun _ h => h.elim
    refine at_then at_c (at_then at_c ⟨w1, 12, 8, rfl, W1, tab.ext s1, by decide, by decide, by decide, fun H2 sa S L G g1 B1 GO1 hsa f2 nw2 hnx hne1 => ?_⟩)
    have C2 := (C1.grow (F' := fun q => stF S L G.ns q ∨ q = w1) fun q h => h.elim (fun h => .inr (nw2 q h)) .inl).fr f2 fun _ h => .inr h
    refine sq_as (callW3 (wp_call (ata_cons (at_var rfl) (ata_cons at_c ata_nil)) ⟨a, ns, 0, rfl, C2.sq, hlen, by decide, fun w2 H3 s3 hw2 W2 => ?_⟩))
    have C3 := (C2.grow (F' := fun q => stF S L G.ns q ∨ q = w2) fun q h => h.elim (fun h => .inl (.inl h)) fun h => .inr (by rw [h]; exact Nw.of hw2)).fr (FrT.of (Fr.same (F := fun _ => False) s3)) fun _ h => h.elim
    have B3 := B1.same s3
    refine at_then at_c (at_then at_c ⟨w2, 4, 0, rfl, W2, B3.tab, by decide, by decide, by decide, fun H4 sb S2 L2 G2 g2 B2 GO2 hsb f4 nw4 hnx4 hne2 => ?_⟩)
    have T4 : Two K tb w2 sa sb a (ns.map V.int) g1 g2 (fun _ => False) H4 S L G [] S2 L2 G2 [] := by
      refine ⟨B3.away2 f4 (fun q o h e => W2.pl (h ▸ e)) B2.wl (B1.new hw2).1 B2.tab fun q h z => (B1.new hw2).1 (z ▸ h), B2, f4.tk (fun q o h e => (W2.pl (h ▸ e)).tup) _ _ (s3 _ _ hsa), hsb, fun q h z => ?_, fun _ h => h.elim, ?_⟩
      · obtain ⟨o, ho⟩ := B3.there h
        obtain ⟨ps, e⟩ := nw4 q z o ho
        exact (B3.plB h ho).tbl ps e
      · exact (C3.grow (F' := fun q => stF S L G.ns q ∨ stF S2 L2 G2.ns q ∨ q = w2 ∨ False) fun q h => by
          rcases h with h | h | h | h
          · exact .inl (.inl h)
          · exact .inr (nw4 q h)
          · exact .inl (.inr h)
          · exact h.elim).fr f4 fun q h => .inr (.inr (.inl h))
    refine sq_if0 (tor_F (nnT rfl) (tor_F (nnT rfl) (testW (opW (methW0 (makeW (fun S5 H5 A5 s5 ft5 => ?_) rfl))))))
    obtain ⟨dx5, ob5⟩ := (A5 g1).c.ob
    refine ⟨S5.p, dx5, _, rfl, ob5, rfl, g1, S5, G0, [], rfl, A5 g1, fun p hp => (sm_neNil (K := K) (σ := []) (ta := tC (.ref p)) (ns := []) at_c upd_same) _ fun H6 s6 => ⟨false, rfl, ?_⟩⟩
    rw [if_neg Bool.false_ne_true]
    have T6 := T4.same ((s5.trans (same_new (o := .lst []) hp)).trans s6)
    obtain ⟨dx6, ob6⟩ := T6.b1.sh.c.ob
    refine sq_dr (wp_meth0 (at_ixT (at_var rfl) at_c T6.sa (atI_nat (j := 0) rfl)) ob6 rfl ⟨g1, S, G, [], rfl, T6.b1.sh, fun H7 q Z => ?_⟩)
    have T7 := T6.stepB (T6.b1.shelf Z (T6.b1.lw.away Z.fr (T6.b1.sh.tk Z.fr) fun a h z => T6.b1.dj a z h) T6.b1.wf ⟨rfl, rfl, rfl, rfl⟩ fun a h => h)
    obtain ⟨dx7, ob7⟩ := T7.b2.sh.c.ob
    refine sq_dr (wp_meth0 (at_ixT (at_var rfl) at_c T7.sb (atI_nat (j := 0) rfl)) ob7 rfl ⟨g2, S2, G2, [], rfl, T7.b2.sh, fun H8 q2 Z2 => ?_⟩)
    have T8 := (T7.symm.stepB (T7.b2.shelf Z2 (T7.b2.lw.away Z2.fr (T7.b2.sh.tk Z2.fr) fun a h z => T7.b2.dj a z h) T7.b2.wf ⟨rfl, rfl, rfl, rfl⟩ fun a h => h)).symm
    refine sq_as ⟨z0, fun zl hzl => ?_⟩
    refine sq_as ⟨z0, fun ol hol => ?_⟩
    have T10 := (T8.list hzl).list hol
    have hzl1 := (same_new (o := .lst []) hol) _ _ (upd_same (H := H8) (a := zl) (o := .lst []))
    have hol1 : upd (upd H8 zl (.lst [])) ol (.lst []) ol = some (.lst []) := upd_same
    have nzo : zl ≠ ol := ne_of_none upd_same hol
    generalize upd (upd H8 zl (.lst [])) ol (.lst []) = H10 at T10 hzl1 hol1 ⊢
    have hmn : (if ((61 : Int)) < ((ns.map V.int).length : Int) then (61 : Int) else ((ns.map V.int).length : Int)) = ((min ns.length 61 : Nat) : Int) := by
      rw [List.length_map]
      split <;> omega
    have hmx : (if ((min ns.length 61 : Nat) : Int) > 13 then ((min ns.length 61 : Nat) : Int) else 13) = ((max 13 (min ns.length 61) : Nat) : Int) := by
      split <;> omega
    have hn61 : max 13 (min ns.length 61) ≤ 61 := by omega
    refine sq_forR2 (lo := 1) (n := max 13 (min ns.length 61)) (ata_cons at_c (ata_cons (at_cb (z := .int ((max 13 (min ns.length 61) : Nat) : Int)) (ata_cons at_c (ata_cons (at_cb (z := .int ((min ns.length 61 : Nat) : Int)) (ata_cons (at_lenS (ata_cons (at_var rfl) ata_nil) T10.scr.sq) (ata_cons at_c ata_nil)) fun Q q => ⟨_, _, rfl, by rw [hmn]; exact q⟩) ata_nil)) fun Q q => ⟨_, _, rfl, by rw [hmx]; exact q⟩) ata_nil)) ⟨by omega, by omega⟩ (fun i => Turn K tb sa sb a zl ol ns g1 g2 (min i 61))
      ⟨⟨_, _, _, rfl⟩, w2, _, _, _, _, _, _, _, _, T10, hzl1, hol1, by omega, Nat.zero_le _, Nat.zero_le _, hne2⟩ (fun i σ' H' hi1 hi hP => ?_) fun m σ' H' hm1 hm hP => ?_
    · clear T10 T8 T7 T6 T4 hzl1 hol1
      obtain ⟨⟨x5, x6, x7, rfl⟩, w0, S, L, G, sn, S2, L2, G2, sn2, T0, hz, ho, l1, l2, l3, hne⟩ := hP
      refine sq_as (wp_call (ata_cons (at_var rfl) (ata_cons (at_var rfl) ata_nil)) ⟨a, ns, i, rfl, T0.scr.sq, hlen, by omega, fun w1 H1 s1 hw1 W1 => ?_⟩)
      have T1 := T0.well s1 hw1 W1
      obtain ⟨_, zx1, zx2, zx3⟩ := T1.x zl (.inl (.inr rfl))
      obtain ⟨_, ox1, ox2, ox3⟩ := T1.x ol (.inr rfl)
      refine sq_or2 (wp_call (ata_cons (at_var rfl) (ata_cons (at_var rfl) (ata_cons (at_var rfl) ata_nil))) ⟨g1, w1, sa, zl, S, L, G, sn, rfl, T1.sa, T1.b1, GO1, by omega, s1 _ _ hz, zx1, zx3, by omega, fun H2 S' L' G' sn' D' => ⟨true, rfl, ?_⟩⟩)
      have T2 := T1.step (fun q => q = zl) (fun q h => .inl (.inr h)) D'.fr (fun q h => ⟨_, hp_eq h D'.z, .inl ⟨_, rfl⟩⟩) D'.at_ D'.p D'.e D'.ft
      have ho2 := D'.fr _ _ (s1 _ _ ho) (fun z => z.elim (fun z => z.elim ox1 ox3) fun z => nzo z.symm) fun _ z => by cases z
      have hz2 := D'.z
      have hl2 := D'.sl
      have hx2 := D'.nx
      rw [if_neg (by decide)]
      refine wp_call (ata_cons (at_ixT (at_var rfl) at_c T2.sa (atI_nat (j := 0) rfl)) (ata_cons (at_var rfl) ata_nil)) ⟨g1, w1, S', L', G', sn', zl, rfl, T2.b1, hz2, by omega, fun H3 s3 => ⟨true, rfl, ?_⟩⟩
      rw [if_neg (by decide)]
      have T3 := T2.same s3
      have hz3 := s3 _ _ hz2
      have ho3 := s3 _ _ ho2
      refine st_if (att_test (at_eq (at_mod (at_var rfl) at_c (by decide)) at_c rfl rfl)) (fun _ => ?_) fun _ => ?_
      · refine sq_as (callW2 (at_then (at_var rfl) (sortedW (F := fun n => .ref (L2.tv n)) (at_ixT (at_var rfl) at_c T3.sb (atI_nat (j := 1) rfl)) T3.b2.lw.tw T3.b2.wf.so fun p hp => ?_)))
        have s4 := same_new (o := .lst (G2.ns.map iV)) hp
        have T4 := T3.same s4
        refine ⟨w1, p, G2.ns, rfl, T4.b1.wl, upd_same, (T3.b1.new hp).2.1, hne, by have := T4.b2.wf.len; have := T4.b2.lw.nz; omega, fun n H5 hn f5 W5 => ?_⟩
        have T5 := T4.pull f5 W5
        obtain ⟨_, oy1, oy2, oy3⟩ := T5.x ol (.inr rfl)
        obtain ⟨_, zy1, zy2, zy3⟩ := T5.x zl (.inl (.inr rfl))
        have ho5 := f5 _ _ (s4 _ _ ho3) oy3
        have hz5 := f5 _ _ (s4 _ _ hz3) zy3
        refine sq_app (at_var rfl) ho5 (at_var rfl) (by rw [List.length_map]; omega) ?_
        have B6 := T5.b2.setz (ys := sn2.map iV ++ [iV n]) ho5 oy2 oy3
        have ho6 : upd H5 ol (.lst (sn2.map iV ++ [iV n])) ol = some (.lst ((sn2 ++ [n]).map iV)) := by
          rw [upd_same, List.map_append]
          rfl
        have sb6 : upd H5 ol (.lst (sn2.map iV ++ [iV n])) sb = some (.tup (stT S2 L2)) := TK.upd ho5 (fun _ z => by cases z) _ _ T5.sb
        have f6 : FrT (fun q => bunF S2 L2 G2.ns w1 q ∨ q = ol) H5 (upd H5 ol (.lst (sn2.map iV ++ [iV n]))) := FrT.of ((Fr.upd (F := fun a => a = ol) rfl).mono fun a h => .inr h)
        generalize upd H5 ol (.lst (sn2.map iV ++ [iV n])) = H6 at B6 ho6 sb6 f6 ⊢
        refine st_notB (wp_call (ata_cons (at_ixT (at_var rfl) at_c sb6 (atI_nat (j := 0) rfl)) (ata_cons (at_var rfl) (ata_cons (at_dget (at_ixT (at_var rfl) at_c sb6 (atI_nat (j := 1) rfl)) (at_var rfl) (B6.lw.dgt hn)) ata_nil))) ⟨g2, w1, S2, L2, G2, sn2, n, rfl, B6, GO2, hn, by omega, fun H7 S7 b7 => ⟨true, rfl, ?_⟩⟩)
        have ho7 := b7.fr _ _ ho6 (fun z => z.elim oy2 oy3) fun _ z => by cases z
        have f7 : FrT (fun q => bunF S2 L2 G2.ns w1 q ∨ q = ol) H5 H7 := f6.trans (b7.fr.mono fun _ h => .inl h)
        have hz7 := f7 _ _ hz5 (fun z => z.elim (fun z => z.elim zy2 zy3) nzo) fun _ z => by cases z
        have T7 := (T5.symm.step (fun q => q = ol) (fun q h => .inr h) f7 (fun q h => ⟨_, hp_eq h ho7, .inl ⟨_, rfl⟩⟩) b7.at_ b7.p b7.e fun q h => by
          rcases b7.ft q h with z | z
          · exact .inl z
          · refine .inr fun o ho => Classical.byContradiction fun nt => nt ?_
            by_cases y : bunF S2 L2 G2.ns w1 q ∨ q = ol
            · rcases y with (y | y) | y
              · exact absurd y (fun y => by
                  obtain ⟨o2, e2⟩ := T5.b2.there y
                  have := f6 q o2 e2
                  exact nt (by
                    obtain ⟨o3, e3⟩ := B6.there y
                    obtain ⟨ps, e4⟩ := z _ e3
                    exact absurd e4 ((B6.plB y e3).tbl ps)))
              · subst y
                exact absurd h b7.at_.wst
              · subst y
                obtain ⟨ps, e⟩ := z _ ho6
                cases e
            · exact z o (f6 q o ho y fun ps e => nt ⟨ps, e⟩)).symm
        exact nx_ ⟨⟨_, _, _, rfl⟩, w1, _, _, _, _, _, _, _, _, T7, hz7, ho7, by omega, by omega, by rw [List.length_append]; show _ + 1 ≤ _; omega, hne⟩
      · exact nx_ ⟨⟨_, _, _, rfl⟩, w1, _, _, _, _, _, _, _, _, T3, hz3, ho3, by omega, by omega, by omega, hne⟩
    · clear T10 T8 T7 T6 T4 hzl1 hol1
      obtain ⟨⟨x5, x6, x7, rfl⟩, w0, S, L, G, sn, S2, L2, G2, sn2, T0, hz, ho, l1, l2, l3, hne⟩ := hP
      refine rt_ (andVW (wp_call (ata_cons (at_ixT (at_var rfl) at_c T0.sa (atI_nat (j := 0) rfl)) (ata_cons (at_var rfl) ata_nil)) ⟨g1, w0, S, L, G, sn, zl, rfl, T0.b1, hz, by omega, fun H1 s1 => ⟨true, rfl, ?_⟩⟩))
      rw [if_pos rfl]
      have T1 := T0.same s1
      exact wp_call (ata_cons (at_ixT (at_var rfl) at_c T1.sb (atI_nat (j := 0) rfl)) (ata_cons (at_var rfl) ata_nil)) ⟨g2, w0, S2, L2, G2, sn2, ol, rfl, T1.b2, s1 _ _ ho, by omega, fun H2 s2 => k H2⟩
end
end Tw

set_option Elab.async false
set_option linter.all false
set_option maxRecDepth 100000
set_option maxHeartbeats 4000000
/-! The law: a leaf's rows. -/
namespace Tw
open PySem PySem.Spec PyProof.Rows L2 LamX
open He (ga ma)
theorem grid_at {H : Hp} {g : Nat → PyData} {gs : List V} {i : Nat} (h : TpA H gs ((List.range 64).map g)) (hi : i < 64) : ∃ v, gs[i]? = some v ∧ Tp H v (g i) := by
  have hl := h.length
  rw [List.length_map, List.length_range] at hl
  have e : gs[i]? = some gs[i] := List.getElem?_eq_getElem (by omega)
  obtain ⟨d, e2, t⟩ := h.get e
  rw [List.getElem?_map, List.getElem?_range hi] at e2
  cases e2
  exact ⟨_, e, t⟩
theorem st_ifw {σ : L2.St} {H : Hp} {t : TT} {s1 s2 : TS} {D : Ends} (h : t σ H fun b H1 => if b = true then s1 D σ H1 else s2 D σ H1) : tIfS t s1 s2 D σ H := h
theorem st_appV {K : PySem.W.Frag} {σ : L2.St} {H : Hp} {to tv : TE} {l : Addr} {xs : List V} {D : Ends} (ha : At to σ H (.ref l)) (hl : H l = some (.lst xs)) (h : tv σ H fun v H1 => ∃ l' xs y, V.ref l = .ref l' ∧ [v] = [y] ∧ H1 l' = some (.lst xs) ∧ xs.length < sizeLine ∧ D.nx σ (upd H1 l' (.lst (xs ++ [y])))) : tDrop (tBM K "list" rAppend to (tCons tv tNil)) D σ H :=
  ha _ ⟨.inl ⟨rfl, _, SqL.of hl⟩, h⟩
theorem lst6W {σ : L2.St} {H : Hp} {c1 c2 c3 c4 : V} {t5 t6 : TE} {Q : VK} (h : t5 σ H fun e H1 => t6 σ H1 fun f H2 => 6 ≤ sizeLine ∧ ∀ p, H2 p = none → Q (.ref p) (upd H2 p (.lst [c1, c2, c3, c4, e, f]))) : tLst (tCons (tC c1) (tCons (tC c2) (tCons (tC c3) (tCons (tC c4) (tCons t5 (tCons t6 tNil)))))) σ H Q := h
theorem good_int {i : Int} (h : -(10 ^ 60) < i ∧ i < 10 ^ 60) : GoodD (.int i) := ⟨by simp [okD]; exact h, fun n => rfl, fun n => by cases n <;> rfl⟩
theorem good_str {x : Str} (h : okD 3 (.str x) = true) : GoodD (.str x) := ⟨h, fun n => rfl, fun n => by cases n <;> rfl⟩
theorem good_nil : GoodD (.tuple []) := ⟨by decide, fun n => rfl, fun n => by cases n <;> rfl⟩
theorem good_1a : GoodD (.tuple [.int 1, .str "a"]) := ⟨by decide +kernel, fun n => by cases n <;> rfl, fun n => by
  refine few_tup (by decide) fun d hd n => ?_
  rcases List.mem_cons.mp hd with e | hd
  · subst e
    cases n <;> rfl
  · rw [List.mem_singleton.mp hd]
    cases n <;> rfl⟩
theorem six_at {H : Hp} {p q : Addr} (hp : H p = some (.tup [])) (hq : H q = some (.tup [.int 1, .str "a"])) : ∀ r : Nat, r < 6 → ∃ v d, ([V.int 0, .int 1, .str "v", .str "", .ref p, .ref q] : List V)[r]? = some v ∧ Tp H v d ∧ GoodD d
  | 0, _ => ⟨_, _, rfl, .int 0, good_int (by decide)⟩
  | 1, _ => ⟨_, _, rfl, .int 1, good_int (by decide)⟩
  | 2, _ => ⟨_, _, rfl, .str _, good_str (by decide +kernel)⟩
  | 3, _ => ⟨_, _, rfl, .str _, good_str (by decide +kernel)⟩
  | 4, _ => ⟨_, _, rfl, .tup hp .nil, good_nil⟩
  | 5, _ => ⟨_, _, rfl, .tup hq (.cons (.int 1) (.cons (.str _) .nil)), good_1a⟩
  | n + 6, h => absurd h (by omega)
theorem rows_eq0 {g : Nat → PyData} : (PyData.list (List.map (rowD g) [])).eqv (PyData.list []) = true := by simp [PyData.eqv, PyData.eqvAll]
theorem rows_eq1 {g : Nat → PyData} {r : Nat × PyData} {rs : List (Nat × PyData)} : (PyData.list (List.map (rowD g) (r :: rs))).eqv (PyData.list []) = false := by simp [PyData.eqv, PyData.eqvAll]
structure LrAt (g : Nat → PyData) (wl gr q : Addr) (b : Nat) (H : Hp) (i : Nat) (σ : L2.St) (H' : Hp) : Prop where
  l : ∃ x, σ = [some (.ref wl), some (.ref gr), some (iV b), some (.ref q), x]
  f : Fr (fun a => a = wl) H H'
  w : WellOk H' wl
  o : ∃ (xs : List V) (rows : List (Nat × PyData)), H' q = some (.lst xs) ∧ TpA H' xs (rows.map (rowD g)) ∧ rows.length ≤ i ∧ (∀ r ∈ rows, r.1 < 4 * b + i ∧ GoodD r.2) ∧ (rows.map (·.1)).Pairwise (· < ·)
section
variable {P : Program} {w : World} {K : PySem.W.Frag} {mg : Str → Option Value} {base : Heap}
theorem sc__law_leaf_rows : FnScope ["_law_well_here", "_law_grid_here", "_law_block", "_law_rows", "_law_j"] ["_law_well_here", "_law_grid_here", "_law_block"] (defScope (top 36)) := ⟨rfl, rfl, rfl, by decide +kernel, rfl, by decide +kernel, by decide +kernel⟩
theorem ok__law_leaf_rows (T : TX K mg) (F : Fd K "_law_leaf_rows" "_law_leaf_rows" (top 36) (ga K "_law_leaf_rows")) (G__law_pull : OkF P w K mg base CX0 1 (ga K "_law_pull") ["_law_well_here", "_law_many"] spPull) :
    OkF P w K mg base CX0 2 (ga K "_law_leaf_rows") ["_law_well_here", "_law_grid_here", "_law_block"] spLeafRows := by
  refine mkOk F sc__law_leaf_rows (fun vs H Q E h => ?_) (fun _ _ _ _ _ _ us hl => match us, hl with | [_, _, _], _ => rfl) (fun cdv A outer s H vs Q E hr h => ?_)
  · obtain ⟨g, wl, gr, gs, b, rfl, _⟩ := h
    rfl
  · obtain ⟨g, wl, gr, gs, b, rfl, W0, hgr, hgs, GO, hb, hgw, k⟩ := h
    have hu := hu_of hr
    have nd := sc__law_leaf_rows.nd
    refine ⟨_, (pss_cons (ps_set (i := 3) nd rfl (by first | exact Or.inl rfl | exact Or.inr rfl) (pe_lst pa_nil))
      (pss_cons (ps_for PassesOwn.never rfl (pi_range1 rfl T.f_range (pa_cons pe_int pa_nil)) (pg_name (i := 4) nd rfl (by first | exact Or.inl rfl | exact Or.inr rfl)) (pss_one (ps_if (pt_cmpR op_gt (pe_c G__law_pull (hr.mono (by decide)) rfl T.g__law_pull (pa_cons (pv 0) (pa_cons pe_int pa_nil))) pe_int (nomark _)) (pss_one (ps_expr (pe_bm PySem.F.plainAttrs_list PySem.F.slot_list_append PySem.F.type_list_append (mt_append) (pv 3) (pa_cons (pe_tup (pa_cons (pe_ix ix_list (pv 1) (pe_op op_add (pe_op op_mul pe_int (pv 2)) (pv 4)) (fun _ _ => rfl)) (pa_cons (pe_ix ix_list (pe_lst (pa_cons pe_int (pa_cons pe_int (pa_cons pe_str (pa_cons pe_str (pa_cons (pe_tup pa_nil) (pa_cons (pe_tup (pa_cons pe_int (pa_cons pe_str pa_nil))) pa_nil))))))) (pe_c G__law_pull (hr.mono (by decide)) rfl T.g__law_pull (pa_cons (pv 0) (pa_cons pe_int pa_nil))) (fun _ _ => rfl)) pa_nil))) pa_nil)))) pss_nil)))
      (pss_cons (ps_if (pt_cmpR (op_eqD hr.units) (pv 3) (pe_lst pa_nil) (nomark _)) (pss_one (ps_expr (pe_bm PySem.F.plainAttrs_list PySem.F.slot_list_append PySem.F.type_list_append (mt_append) (pv 3) (pa_cons (pe_tup (pa_cons (pe_ix ix_list (pv 1) (pe_op op_add (pe_op op_mul pe_int (pv 2)) (pe_c G__law_pull (hr.mono (by decide)) rfl T.g__law_pull (pa_cons (pv 0) (pa_cons pe_int pa_nil)))) (fun _ _ => rfl)) (pa_cons pe_str pa_nil))) pa_nil)))) pss_nil)
      (pss_one (ps_ret (pv 3)))))), ?_⟩
    have tkF : ∀ {H1 H2 : Hp}, WellOk H1 wl → Fr (fun a => a = wl) H1 H2 → TK H1 H2 := fun W f => W.tk f
    refine sq_as ⟨z0, fun q hq => ?_⟩
    have nqw : q ≠ wl := fun z => by
      obtain ⟨_, _, _, _, e, _⟩ := W0
      rw [← z, hq] at e
      cases e
    refine sq_forR1 (n := 4) (ata_cons at_c ata_nil) (by decide) (LrAt g wl gr q b H) ⟨⟨_, rfl⟩, Fr.same (same_new hq), W0.same (same_new hq), [], [], upd_same, .nil, Nat.zero_le _, fun _ h => absurd h List.not_mem_nil, .nil⟩ (fun i σ' H' hi hP => ?_) fun σ' H' hP => ?_
    · obtain ⟨⟨x, rfl⟩, f, W, xs, rows, hx, hxs, hl, hk, hup⟩ := hP
      refine st_ifw (testW (opW (wp_call (ata_cons (at_var rfl) (ata_cons at_c ata_nil)) ⟨wl, 3, rfl, by decide, by decide, W, fun r H1 hr1 f1 W1 => at_then at_c ⟨_, _, rfl, rfl, _, rfl, ?_⟩⟩)))
      have T1 := W.tk f1
      have f01 := f.trans f1
      have hx1 := f1 _ _ hx nqw
      have hxs1 := hxs.mono T1 _ _
      by_cases hr0 : (0 : Int) < (r : Int)
      · rw [if_pos (decT hr0)]
        have hgr1 := f01 _ _ hgr hgw
        have hgs1 := hgs.mono (W0.tk f01) _ _
        obtain ⟨kv, ek, tk⟩ := grid_at hgs1 (i := 4 * b + i) (by omega)
        have eadd : (4 * (b : Int) + (i : Int)) = ((4 * b + i : Nat) : Int) := by omega
        refine st_appV (at_var rfl) hx1 (tup2W (at_then (at_ixL (at_var rfl) (at_I0 (at_mul at_c (at_var rfl) (.inl ⟨by decide, by decide⟩)) (at_var rfl) (congrArg V.int eadd)) hgr1 (atI_nat ek)) (opW (lst6W ⟨z0, fun p5 hp5 => tup2W (at_then at_c (at_then at_c ⟨z2, fun p6 hp6 => ⟨by decide, fun pl hpl => ?_⟩⟩))⟩))))
        have s2 := same_new (o := .tup []) hp5
        have s3 := same_new (o := .tup [.int 1, .str "a"]) hp6
        have s4 := same_new (o := .lst [.int 0, .int 1, .str "v", .str "", .ref p5, .ref p6]) hpl
        have e5 := s4 _ _ (s3 _ _ (upd_same (H := H1) (a := p5) (o := .tup [])))
        have e6 := s4 _ _ (upd_same (H := upd H1 p5 (.tup [])) (a := p6) (o := .tup [.int 1, .str "a"]))
        have el : upd (upd (upd H1 p5 (.tup [])) p6 (.tup [.int 1, .str "a"])) pl (.lst [.int 0, .int 1, .str "v", .str "", .ref p5, .ref p6]) pl = some (.lst [.int 0, .int 1, .str "v", .str "", .ref p5, .ref p6]) := upd_same
        have s14 := (s2.trans s3).trans s4
        have npl : pl ≠ wl := fun z => by
          obtain ⟨_, _, _, _, e, _⟩ := W1
          have := (s2.trans s3) _ _ e
          rw [← z, hpl] at this
          cases this
        generalize upd (upd (upd H1 p5 (.tup [])) p6 (.tup [.int 1, .str "a"])) pl (.lst [.int 0, .int 1, .str "v", .str "", .ref p5, .ref p6]) = H4 at e5 e6 el s14 ⊢
        have W4 := W1.same s14
        refine wp_call (ata_cons (at_var rfl) (ata_cons at_c ata_nil)) ⟨wl, 6, rfl, by decide, by decide, W4, fun r2 H5 hr2 f5 W5 => ?_⟩
        have T5 := W4.tk f5
        obtain ⟨v, d, ev, tv, gd⟩ := six_at (T5 _ _ e5) (T5 _ _ e6) r2 hr2
        refine ⟨pl, _, (r2 : Int), v, rfl, rfl, SqL.of (f5 _ _ el npl), atI_nat ev, z2, fun pt hpt => ?_⟩
        have f05 : Fr (fun a => a = wl) H H5 := (f01.trans (Fr.same s14)).trans f5
        have s6 := same_new (o := .tup [kv, v]) hpt
        have hx6 := s6 _ _ (f5 _ _ (s14 _ _ hx1) nqw)
        have T16 : TK H1 (upd H5 pt (.tup [kv, v])) := (TK.same s14).trans (T5.trans (TK.same s6))
        have tp6 : Tp (upd H5 pt (.tup [kv, v])) (.ref pt) (rowD g (4 * b + i, d)) := .tup upd_same (.cons (tk.mono T16 _ _) (.cons (tv.sm s6) .nil))
        have hxs6 := hxs1.mono T16 _ _
        have W6 := W5.same s6
        have f06 := f05.trans (Fr.same s6)
        generalize upd H5 pt (.tup [kv, v]) = H6 at hx6 tp6 hxs6 W6 f06 ⊢
        refine ⟨q, xs, .ref pt, rfl, rfl, hx6, zlt (by have := hxs6.length; rw [List.length_map] at this; omega), ?_⟩
        have T7 : TK H6 (upd H6 q (.lst (xs ++ [.ref pt]))) := TK.upd hx6 fun _ z => by cases z
        refine ⟨⟨_, rfl⟩, fun a o ha n => ?_, ?_, xs ++ [.ref pt], rows ++ [(4 * b + i, d)], upd_same, ?_, ?_, fun r h => ?_, ?_⟩
        · rw [upd_ne (ne_of_none ha hq)]
          exact f06 a o ha n
        · obtain ⟨w1, w2, w3, w4, w5, w6⟩ := W6
          exact ⟨w1, w2, w3, w4, by rw [upd_ne (Ne.symm nqw)]; exact w5, w6⟩
        · rw [List.map_append]
          exact TpA.snoc (tp6.mono T7 _ _) (hxs6.mono T7 _ _)
        · rw [List.length_append]
          show rows.length + 1 ≤ i + 1
          omega
        · rcases List.mem_append.mp h with h | h
          · exact ⟨by have := (hk r h).1; omega, (hk r h).2⟩
          · rw [List.mem_singleton.mp h]
            exact ⟨by show 4 * b + i < _; omega, gd⟩
        · rw [List.map_append]
          refine List.pairwise_append.mpr ⟨hup, List.pairwise_singleton _ _, fun x hx y hy => ?_⟩
          obtain ⟨r, hr, rfl⟩ := List.mem_map.mp hx
          rw [List.mem_singleton.mp hy]
          exact (hk r hr).1
      · rw [if_neg (by rw [decF hr0]; decide)]
        exact nx_ ⟨⟨_, rfl⟩, f01, W1, xs, rows, hx1, hxs1, by omega, fun r h => ⟨by have := (hk r h).1; omega, (hk r h).2⟩, hup⟩
    · obtain ⟨⟨x, rfl⟩, f, W, xs, rows, hx, hxs, hl, hk, hup⟩ := hP
      refine sq_ifw (testW (opW (at_then (at_var rfl) ⟨z0, fun p hp => ?_⟩)))
      have s1 := same_new (o := .lst []) hp
      have hx1 := s1 _ _ hx
      have hxs1 := hxs.sm s1
      have W1 := W.same s1
      have f1 := f.trans (Fr.same s1)
      have ep : upd H' p (.lst []) p = some (.lst []) := upd_same
      generalize upd H' p (.lst []) = H1 at hx1 hxs1 W1 f1 ep ⊢
      have good : ∀ d ∈ rows.map (rowD g), d.canLay0 = true ∧ d.depth ≤ 10 := fun d hd => by
        obtain ⟨r, hr, rfl⟩ := List.mem_map.mp hd
        have h1 := (GO.d r.1 (by have := (hk r hr).1; omega)).k
        have h2 := (hk r hr).2.k
        obtain ⟨c1, c2⟩ := okD_lay 4 (rowD g r) (by simp [rowD, okD]; exact ⟨h1, h2⟩)
        exact ⟨c1, by omega⟩
      refine ⟨_, _, .lst (SqL.of hx1) (hxs1.dp _ _), .lst (SqL.of ep) .nil, shaped_list good, shaped_list (fun _ h => absurd h List.not_mem_nil), _, rfl, ?_⟩
      cases rows with
      | nil =>
        cases hxs1
        rw [if_pos rows_eq0]
        refine st_appV (at_var rfl) hx1 (tup2W (opW (at_then (at_var rfl) (opW (at_then (at_mul at_c (at_var rfl) (.inl ⟨by decide, by decide⟩)) (wp_call (ata_cons (at_var rfl) (ata_cons at_c ata_nil)) ⟨wl, 4, rfl, by decide, by decide, W1, fun r H2 hr2 f2 W2 => ?_⟩))))))
        have f02 := f1.trans f2
        have hgr2 := f02 _ _ hgr hgw
        have hgs2 := hgs.mono (W0.tk f02) _ _
        obtain ⟨kv, ek, tk⟩ := grid_at hgs2 (i := 4 * b + r) (by omega)
        have eadd : (4 * (b : Int) + (r : Int)) = ((4 * b + r : Nat) : Int) := by omega
        refine ⟨_, _, rfl, rfl, ⟨gr, gs, _, kv, rfl, rfl, SqL.of hgr2, by rw [eadd]; exact atI_nat ek, ?_⟩⟩
        refine at_then at_c ⟨z2, fun pt hpt => ?_⟩
        have s6 := same_new (o := .tup [kv, .str "w"]) hpt
        have hx6 := s6 _ _ (f2 _ _ hx1 nqw)
        have tp6 : Tp (upd H2 pt (.tup [kv, .str "w"])) (.ref pt) (rowD g (4 * b + r, .str "w")) := .tup upd_same (.cons (tk.sm s6) (.cons (.str _) .nil))
        have W6 := W2.same s6
        have f06 := f02.trans (Fr.same s6)
        generalize upd H2 pt (.tup [kv, .str "w"]) = H6 at hx6 tp6 W6 f06 ⊢
        refine ⟨q, [], .ref pt, rfl, rfl, hx6, zlt (by decide), ?_⟩
        have T7 : TK H6 (upd H6 q (.lst ([] ++ [.ref pt]))) := TK.upd hx6 fun _ z => by cases z
        refine st_ret (at_var rfl) (k q [.ref pt] [(4 * b + r, .str "w")] _ (fun a o ha n => ?_) ?_ hq upd_same (.cons (tp6.mono T7 _ _) .nil) ⟨Nat.le_refl 1, (by decide : 1 ≤ 4), fun r2 h => ?_, List.pairwise_singleton _ _⟩)
        · rw [upd_ne (ne_of_none ha hq)]
          exact f06 a o ha n
        · obtain ⟨w1, w2, w3, w4, w5, w6⟩ := W6
          exact ⟨w1, w2, w3, w4, by rw [upd_ne (Ne.symm nqw)]; exact w5, w6⟩
        · rw [List.mem_singleton.mp h]
          exact ⟨by show 4 * b + r < 64; omega, good_str (by decide +kernel)⟩
      | cons r0 rs =>
        rw [if_neg (by rw [rows_eq1]; decide)]
        exact nx_ (st_ret (at_var rfl) (k q xs (r0 :: rs) H1 f1 W1 hq hx1 hxs1 ⟨Nat.succ_le_succ (Nat.zero_le _), hl, fun r h => ⟨by have := (hk r h).1; omega, (hk r h).2⟩, hup⟩))
end
end Tw

set_option Elab.async false
set_option linter.all false
set_option maxRecDepth 100000
set_option maxHeartbeats 4000000
/-! text * int, tuple * 0 or 1. -/
namespace Tw
open PySem PySem.Spec PyProof.Rows L2 LamX
open He (ga ma)
def rRepStr : R2 := fun x y H Q => ∃ z n, x = .str z ∧ y = .int n ∧ MulOk z n ∧ Q (.str (Txt.mul z n)) H
theorem op_rep_str {X : Cx} : OpR X (binaryOp .Mult) rRepStr := by
  intro pins s σ H x y v u Q I rx ry h
  obtain ⟨z, n, rfl, rfl, hz, q⟩ := h
  obtain ⟨t, rfl⟩ := rx
  obtain ⟨t', rfl⟩ := ry
  exact SB.mul hz fun t' k => ⟨.str (Txt.mul z n), H, I.tok _, ⟨_, rfl⟩, q⟩
theorem tuple_mul0W (l : Addr) (items : Array Value) (n : Nat) (dd : Option Addr) (sl : Array (Option Value)) (u : Tok) (c1 : (items.isEmpty || (0 : Int) == 1) = false) :
    Meets (Builtin.«tuple.__mul__» ⟨[.ref l, .int 0 u], []⟩) (fun _ R s => s.heap.get? l = some { cls := .type "tuple", dict := dd, data := .seq items n, slots := sl } ∧
      R (.ok (.ret (Value.ref s.heap.objs.size))) { s with heap := s.heap.push { cls := Value.type "tuple", data := Data.seq #[] }, toks := s.toks }) :=
  .of_wp fun prog w A R s h => by
    obtain ⟨hp, g, d, tk, os⟩ := s
    obtain ⟨hl, h⟩ := h
    have f1 := AutoSeq1.idx_int
    wp_walk using wpAny_loadPart' hl
    repeat (first
      | (refine wpAny_ite_false (decide_eq_false (by decide)) ?_; wp_walk using wpAny_loadPart' hl)
      | (refine wpAny_ite_false (decide_eq_false (by rw [c1]; exact Bool.false_ne_true)) ?_; wp_walk using wpAny_loadPart' hl)
      | (refine wpAny_ite_true (decide_eq_true (by rfl)) ?_; wp_walk using wpAny_loadPart' hl))
    exact ⟨_, rfl, h⟩
theorem tuple_mul1W (l : Addr) (items : Array Value) (n : Nat) (dd : Option Addr) (sl : Array (Option Value)) (u : Tok) (c1 : (items.isEmpty || (1 : Int) == 1) = true) :
    Meets (Builtin.«tuple.__mul__» ⟨[.ref l, .int 1 u], []⟩) (fun _ R s => s.heap.get? l = some { cls := .type "tuple", dict := dd, data := .seq items n, slots := sl } ∧
      R (.ok (.ret (Value.ref l))) s) :=
  .of_wp fun prog w A R s h => by
    obtain ⟨hp, g, d, tk, os⟩ := s
    obtain ⟨hl, h⟩ := h
    have f1 := AutoSeq1.idx_int
    wp_walk using wpAny_loadPart' hl
    repeat (first
      | (refine wpAny_ite_false (decide_eq_false (by decide)) ?_; wp_walk using wpAny_loadPart' hl)
      | (refine wpAny_ite_true (decide_eq_true (by rw [c1])) ?_; wp_walk using wpAny_loadPart' hl))
    exact ⟨_, rfl, h⟩
def rRepT0 (K : PySem.W.Frag) : R2 := fun x y H Q => ∃ (l : Addr) (xs : List V) (k : Int), x = .ref l ∧ y = .int k ∧ SqT K H l xs ∧ xs ≠ [] ∧ ((k = 0 ∧ ∀ p, H p = none → Q (.ref p) (upd H p (.tup []))) ∨ (k = 1 ∧ Q (.ref l) H))
theorem op_repT0 {X : Cx} : OpR X (binaryOp .Mult) (rRepT0 X.K) := by
  intro pins s σ H x y v u Q I rx ry h
  obtain ⟨l, xs, k, rfl, rfl, hT, hne, h⟩ := h
  cases rx
  obtain ⟨t, rfl⟩ := ry
  obtain ⟨its, r, ⟨⟨cls, dd, data, sl⟩, ho, hc, n, hd⟩, hs⟩ := I.tuple hT
  simp only at hc hd
  subst hc hd
  have hle : its.length = xs.length := r.length.symm
  have hi : its.toArray.isEmpty = false := by
    cases its with
    | nil => exact absurd (List.eq_nil_of_length_eq_zero hle.symm) hne
    | cons a b => rfl
  rcases h with ⟨rfl, q⟩ | ⟨rfl, q⟩
  · refine wpAny_binaryOp_repeat_ref (T := "tuple") (U := "int") (by decide) ⟨_, ho, rfl⟩ (fun s' => typeIs_int s' 0 t) noFill_tuple_mul F.fills_int_mul F.slot_int_rmul repeat_tuple F.slot_int_index.lookup
      (call_meets F.slot_int_rmul (typeIs_int s 0 t) F.entry_int_rmul (F.args_int_rmul_2 _ _) (int_rmul_tuple 0 t l its.toArray n dd sl)
        ⟨ho, rfl, ⟨_, ho, rfl⟩, call_meets F.slot_tuple_mul ⟨_, ho, rfl⟩ F.entry_tuple_mul (F.args_tuple_mul_2 _ _) (tuple_mul0W l its.toArray n dd sl t (by rw [hi]; rfl)) ⟨ho, ?_⟩⟩)
    refine ⟨.ref s.heap.objs.size, _, I.laid (t' := s.toks) (o := .tup []) (fun b ob q => Heap.get?_push_of_some _ q) (Nat.le_refl _) ?_, rfl, q _ (I.hok.fresh (Nat.le_refl _))⟩
    exact ⟨Nat.zero_le _, _, .nil, IsTup.new _ _⟩
  · refine wpAny_binaryOp_repeat_ref (T := "tuple") (U := "int") (by decide) ⟨_, ho, rfl⟩ (fun s' => typeIs_int s' 1 t) noFill_tuple_mul F.fills_int_mul F.slot_int_rmul repeat_tuple F.slot_int_index.lookup
      (call_meets F.slot_int_rmul (typeIs_int s 1 t) F.entry_int_rmul (F.args_int_rmul_2 _ _) (int_rmul_tuple 1 t l its.toArray n dd sl)
        ⟨ho, rfl, ⟨_, ho, rfl⟩, call_meets F.slot_tuple_mul ⟨_, ho, rfl⟩ F.entry_tuple_mul (F.args_tuple_mul_2 _ _) (tuple_mul1W l its.toArray n dd sl t (by rw [hi]; rfl)) ⟨ho, ?_⟩⟩)
    exact ⟨.ref l, H, I, rfl, q⟩
end Tw

set_option Elab.async false
set_option linter.all false
set_option maxRecDepth 100000
set_option maxHeartbeats 4000000
/-! The law: a grid's keys rise. -/
namespace Tw
open PySem PySem.Spec PyProof.Rows L2 LamX
open He (ga ma)
def LL (xs ys : List PyData) : Bool := PyProof.Rows.lexLt PyProof.Rows.itemOrd (PySem.W.keyToksAll xs) (PySem.W.keyToksAll ys)
theorem LL_same (xs : List PyData) : LL xs xs = false := by
  have := PySem.W.dataLt_self (.tuple xs)
  rw [PySem.W.dataLt_tuple] at this
  exact this
theorem LL_int (m n : Int) (xs ys : List PyData) : LL (.int m :: xs) (.int n :: ys) = if m = n then LL xs ys else decide (m < n) := by
  have al : PySem.W.alike (.int m) (.int n) = true := by simp [PySem.W.alike]
  by_cases h : m = n
  · have e : PyData.eqv (.int m) (.int n) = true := by simp [PyData.eqv, h]
    rw [if_pos h]
    exact PySem.W.dataLt_all_yes al e
  · have e : PyData.eqv (.int m) (.int n) = false := by simp [PyData.eqv, h]
    rw [if_neg h]
    exact (PySem.W.dataLt_all_no al e).trans (PySem.W.dataLt_int m n)
theorem LL_str (m n : Str) (xs ys : List PyData) : LL (.str m :: xs) (.str n :: ys) = if m = n then LL xs ys else decide (m.cps.toList < n.cps.toList) := by
  have al : PySem.W.alike (.str m) (.str n) = true := by simp [PySem.W.alike]
  by_cases h : m = n
  · have e : PyData.eqv (.str m) (.str n) = true := by simp [PyData.eqv, h]
    rw [if_pos h]
    exact PySem.W.dataLt_all_yes al e
  · have e : PyData.eqv (.str m) (.str n) = false := by simp [PyData.eqv, h]
    rw [if_neg h]
    exact (PySem.W.dataLt_all_no al e).trans (PySem.W.dataLt_str m n)
theorem LL_tup {as bs : List PyData} (xs ys : List PyData) (h : PySem.W.alike (.tuple as) (.tuple bs) = true) : LL (.tuple as :: xs) (.tuple bs :: ys) = if PyData.eqv (.tuple as) (.tuple bs) = true then LL xs ys else LL as bs := by
  by_cases e : PyData.eqv (.tuple as) (.tuple bs) = true
  · rw [if_pos e]
    exact PySem.W.dataLt_all_yes h e
  · rw [if_neg e]
    exact (PySem.W.dataLt_all_no h (by simpa using e)).trans (PySem.W.dataLt_tuple as bs)
theorem ltK_tup (as bs : List PyData) {d e : PyData} (h1 : rankD 3 d = .tuple as) (h2 : rankD 3 e = .tuple bs) : ltK d e = LL as bs := by
  unfold ltK
  rw [h1, h2]
  exact PySem.W.dataLt_tuple as bs
theorem ltK_ii (m n : Int) : ltK (.int m) (.int n) = decide (m < n) := by
  rw [ltK_tup _ _ (rankD_int 3 m) (rankD_int 3 n), LL_int, if_pos rfl, LL_int]
  by_cases h : m = n
  · subst h
    rw [if_pos rfl, LL_same, decF (Int.lt_irrefl m)]
  · rw [if_neg h]
theorem ltK_ss (x y : Str) : ltK (.str x) (.str y) = decide (x.cps.toList < y.cps.toList) := by
  rw [ltK_tup _ _ (rankD_str 3 x) (rankD_str 3 y), LL_int, if_pos rfl, LL_int, if_pos rfl, LL_str]
  by_cases h : x = y
  · subst h
    rw [if_pos rfl, LL_same, decF (List.lt_irrefl _)]
  · rw [if_neg h]
def rankT (ds : List PyData) : rankD 3 (.tuple ds) = .tuple [.int 2, .int 0, .str "", .tuple (ds.map (rankD 2))] := rfl
theorem ltK_is (m : Int) (y : Str) : ltK (.int m) (.str y) = true := by
  rw [ltK_tup _ _ (rankD_int 3 m) (rankD_str 3 y), LL_int, if_neg (by decide)]
  rfl
theorem ltK_si (m : Int) (y : Str) : ltK (.str y) (.int m) = false := by
  rw [ltK_tup _ _ (rankD_str 3 y) (rankD_int 3 m), LL_int, if_neg (by decide)]
  rfl
theorem ltK_it (m : Int) (ds : List PyData) : ltK (.int m) (.tuple ds) = true := by
  rw [ltK_tup _ _ (rankD_int 3 m) (rankT ds), LL_int, if_neg (by decide)]
  rfl
theorem ltK_ti (m : Int) (ds : List PyData) : ltK (.tuple ds) (.int m) = false := by
  rw [ltK_tup _ _ (rankT ds) (rankD_int 3 m), LL_int, if_neg (by decide)]
  rfl
theorem ltK_st (x : Str) (ds : List PyData) : ltK (.str x) (.tuple ds) = true := by
  rw [ltK_tup _ _ (rankD_str 3 x) (rankT ds), LL_int, if_neg (by decide)]
  rfl
theorem ltK_ts (x : Str) (ds : List PyData) : ltK (.tuple ds) (.str x) = false := by
  rw [ltK_tup _ _ (rankT ds) (rankD_str 3 x), LL_int, if_neg (by decide)]
  rfl
theorem ltK_tt {s t : Int} {r r' : List PyData} (h : s ≠ t) (o1 : okS 3 (.tuple (.str "" :: .int s :: r)) = true) (o2 : okS 3 (.tuple (.str "" :: .int t :: r')) = true) : ltK (.tuple (.str "" :: .int s :: r)) (.tuple (.str "" :: .int t :: r')) = decide (s < t) := by
  have al : PySem.W.alike (.tuple ((PyData.str "" :: .int s :: r).map (rankD 2))) (.tuple ((PyData.str "" :: .int t :: r').map (rankD 2))) = true := by
    have := rankD_alike 3 _ _ o1 o2
    rw [rankT, rankT] at this
    simp only [PySem.W.alike, PySem.W.alikeAll, Bool.and_eq_true] at this ⊢
    exact this.2.2.2.1
  have ne : PyData.eqv (.tuple ((PyData.str "" :: .int s :: r).map (rankD 2))) (.tuple ((PyData.str "" :: .int t :: r').map (rankD 2))) = false := by
    simp [PyData.eqv, PyData.eqvAll, rankD, h]
  rw [ltK_tup _ _ (rankT _) (rankT _), LL_int, if_pos rfl, LL_int, if_pos rfl, LL_str, if_pos rfl, LL_tup _ _ al, if_neg (by rw [ne]; decide)]
  show LL (rankD 2 (.str "") :: rankD 2 (.int s) :: r.map (rankD 2)) (rankD 2 (.str "") :: rankD 2 (.int t) :: r'.map (rankD 2)) = _
  rw [rankD_str, rankD_int, rankD_int, LL_tup _ _ (by simp [PySem.W.alike, PySem.W.alikeAll, aA_nil]), if_pos (by simp [PyData.eqv, PyData.eqvAll]), LL_tup _ _ (by simp [PySem.W.alike, PySem.W.alikeAll, aA_nil]), if_neg (by simp [PyData.eqv, PyData.eqvAll, h]), LL_int, if_pos rfl, LL_int, if_neg h]
end Tw

set_option Elab.async false
set_option linter.all false
set_option maxRecDepth 100000
set_option maxHeartbeats 4000000
/-! The law: a grid is in order. -/
namespace Tw
open PySem PySem.Spec PyProof.Rows L2 LamX
open He (ga ma)
def signsS : Str := "!#$&()*+,-./0123456789:;<=>?@ABCDEFGHIJKLMNOPQRSTUVWXYZ"
def sgn (k : Nat) : Nat := (signsS.cps.toList[k]?).getD 0
theorem sgn_up : ∀ b : Fin 55, ∀ a : Fin 55, a.1 < b.1 → sgn a.1 < sgn b.1 := by decide +kernel
theorem sgn_ok0 : ∀ b : Fin 55, 32 ≤ sgn b.1 ∧ sgn b.1 ≤ 126 ∧ signsS.cps.toList[b.1]? = some (sgn b.1) := by decide +kernel
theorem sgn_lt {a b : Nat} (h : a < b) (hb : b < 55) : sgn a < sgn b := sgn_up ⟨b, hb⟩ ⟨a, by omega⟩ h
theorem sgn_ok {b : Nat} (hb : b < 55) : 32 ≤ sgn b ∧ sgn b ≤ 126 ∧ signsS.cps.toList[b]? = some (sgn b) := sgn_ok0 ⟨b, hb⟩
def sufS (j : Nat) : Str := Txt.mul "a" ((j % 2 : Nat) : Int)
theorem suf_cases (j : Nat) : sufS j = Str.empty ∨ sufS j = "a" := by
  unfold sufS
  rcases Nat.mod_two_eq_zero_or_one j with h | h <;> rw [h]
  · exact .inl rfl
  · exact .inr rfl
def txtG (s j : Nat) : Str := ("k" : Str) ++ ⟨#[sgn (s / 50)]⟩ ++ ⟨#[sgn (s % 50)]⟩ ++ sufS j
theorem txt_cps (s j : Nat) : (txtG s j).cps.toList = 107 :: sgn (s / 50) :: sgn (s % 50) :: (sufS j).cps.toList := by
  have e : (txtG s j).cps = ((("k" : Str).cps ++ #[sgn (s / 50)]) ++ #[sgn (s % 50)]) ++ (sufS j).cps := rfl
  rw [e, Array.toList_append, Array.toList_append, Array.toList_append]
  rfl
theorem txt_lt {s t i j : Nat} (h : s < t) (ht : t ≤ 1280) : (txtG s i).cps.toList < (txtG t j).cps.toList ∧ ¬ (txtG t j).cps.toList < (txtG s i).cps.toList := by
  rw [txt_cps, txt_cps]
  simp only [List.cons_lt_cons_iff, Nat.lt_irrefl, false_or, true_and]
  by_cases e : s / 50 = t / 50
  · have h2 : sgn (s % 50) < sgn (t % 50) := sgn_lt (by omega) (by omega)
    rw [e]
    exact ⟨.inr ⟨rfl, .inl h2⟩, fun z => by
      rcases z with z | ⟨_, z | ⟨z, _⟩⟩ <;> omega⟩
  · have h2 : sgn (s / 50) < sgn (t / 50) := sgn_lt (by omega) (by omega)
    exact ⟨.inl h2, fun z => by
      rcases z with z | ⟨z, _⟩ <;> omega⟩
theorem good_txt {s j : Nat} (hs : s ≤ 1280) : GoodD (.str (txtG s j)) := by
  refine good_str ?_
  have a := sgn_ok (b := s / 50) (by omega)
  have b := sgn_ok (b := s % 50) (by omega)
  have hl : (txtG s j).length ≤ 40 := by
    show (txtG s j).cps.size ≤ 40
    rw [← Array.length_toList, txt_cps]
    rcases suf_cases j with e | e <;> rw [e]
    · exact (by decide : 3 ≤ 40)
    · exact (by decide : 4 ≤ 40)
  unfold okD
  rw [Bool.and_eq_true, decide_eq_true_eq]
  refine ⟨hl, List.all_eq_true.mpr fun c hc => ?_⟩
  rw [txt_cps] at hc
  have hc2 : 32 ≤ c ∧ c ≤ 126 := by
    rcases List.mem_cons.mp hc with h | hc
    · omega
    · rcases List.mem_cons.mp hc with h | hc
      · omega
      · rcases List.mem_cons.mp hc with h | hc
        · omega
        · rcases suf_cases j with e | e <;> rw [e] at hc
          · exact absurd hc List.not_mem_nil
          · have : c = 97 := List.mem_singleton.mp hc
            omega
  simpa using hc2
def tupG (s j : Nat) : List PyData := .str "" :: .int (s : Int) :: if j % 2 = 1 then [.int 0] else []
def gD (one two : Nat) (sz : Nat → Nat) (j : Nat) : PyData := if j < one then .int ((sz j : Int) - 700) else if j < two then .str (txtG (sz j) j) else .tuple (tupG (sz j) j)
theorem tup_all {s j : Nat} (P : PyData → Prop) (h1 : P (.str "")) (h2 : P (.int (s : Int))) (h3 : P (.int 0)) : ∀ d ∈ tupG s j, P d := fun d hd => by
  rcases List.mem_cons.mp hd with e | hd
  · rw [e]; exact h1
  · rcases List.mem_cons.mp hd with e | hd
    · rw [e]; exact h2
    · split at hd
      · rw [List.mem_singleton.mp hd]; exact h3
      · exact absurd hd List.not_mem_nil
theorem good_tup {s j : Nat} (hs : s ≤ 1280) : GoodD (.tuple (tupG s j)) := by
  have gs : GoodD (.int (s : Int)) := good_int ⟨by omega, by omega⟩
  have hl : (tupG s j).length ≤ 3 := by
    unfold tupG
    split
    · exact Nat.le_refl 3
    · exact (by decide : 2 ≤ 3)
  refine ⟨?_, fun n => ?_, fun n => few_tup (Nat.le_trans hl (by decide)) (tup_all (fun d => ∀ n, few n d = true) (fun n => by cases n <;> rfl) gs.f (fun n => by cases n <;> rfl))⟩
  · show (decide ((tupG s j).length ≤ 4) && (tupG s j).all (okD 2)) = true
    rw [Bool.and_eq_true, decide_eq_true_eq]
    exact ⟨by omega, List.all_eq_true.mpr (tup_all _ (by decide +kernel) (by have := gs.k; simpa [okD] using this) (by decide))⟩
  · show (tupG s j).all (okS n) = true
    exact List.all_eq_true.mpr (tup_all _ (by cases n <;> rfl) (by cases n <;> rfl) (by cases n <;> rfl))
theorem grid_ok {one two : Nat} {sz : Nat → Nat} (h1 : ∀ a, a < 64 → sz a ≤ 1280) (h2 : ∀ a b, a < b → b < 64 → sz a < sz b) : GridOk (gD one two sz) := by
  have key : ∀ i j, i < 64 → j < 64 → (sz i < sz j ↔ i < j) := fun i j hi hj => by
    rcases Nat.lt_trichotomy i j with h | h | h
    · exact ⟨fun _ => h, fun _ => h2 i j h hj⟩
    · subst h
      exact ⟨fun z => absurd z (Nat.lt_irrefl _), fun z => absurd z (Nat.lt_irrefl _)⟩
    · have := h2 j i h hi
      exact ⟨fun z => by omega, fun z => by omega⟩
  refine ⟨fun i hi => ?_, fun i j hi hj => ?_⟩
  · unfold gD
    have := h1 i hi
    split
    · exact good_int ⟨by omega, by omega⟩
    · split
      · exact good_txt this
      · exact good_tup this
  · have k := key i j hi hj
    have hsi := h1 i hi
    have hsj := h1 j hj
    unfold gD
    by_cases a1 : i < one
    · rw [if_pos a1]
      by_cases b1 : j < one
      · rw [if_pos b1, ltK_ii]
        exact decide_eq_decide.mpr ⟨fun z => k.mp (by omega), fun z => by have := k.mpr z; omega⟩
      · rw [if_neg b1]
        by_cases b2 : j < two
        · rw [if_pos b2, ltK_is, decT (by omega)]
        · rw [if_neg b2, ltK_it, decT (by omega)]
    · rw [if_neg a1]
      by_cases a2 : i < two
      · rw [if_pos a2]
        by_cases b1 : j < one
        · rw [if_pos b1, ltK_si, decF (by omega)]
        · rw [if_neg b1]
          by_cases b2 : j < two
          · rw [if_pos b2, ltK_ss]
            rcases Nat.lt_trichotomy i j with h | h | h
            · rw [decT h, decT (txt_lt (k.mpr h) hsj).1]
            · subst h
              rw [decF (Nat.lt_irrefl i), decF (List.lt_irrefl _)]
            · rw [decF (by omega : ¬ i < j), decF (txt_lt ((key j i hj hi).mpr h) hsi).2]
          · rw [if_neg b2, ltK_st, decT (by omega)]
      · rw [if_neg a2]
        by_cases b1 : j < one
        · rw [if_pos b1, ltK_ti, decF (by omega)]
        · rw [if_neg b1]
          by_cases b2 : j < two
          · rw [if_pos b2, ltK_ts, decF (by omega)]
          · rw [if_neg b2]
            by_cases e : i = j
            · subst e
              rw [decF (Nat.lt_irrefl i)]
              exact PySem.W.dataLt_self _
            · have ne : sz i ≠ sz j := fun z => by
                rcases Nat.lt_trichotomy i j with h | h | h
                · have := k.mpr h; omega
                · exact e h
                · have := (key j i hj hi).mpr h; omega
              refine (ltK_tt (s := (sz i : Int)) (t := (sz j : Int)) (by omega) ((good_tup hsi).s 2) ((good_tup hsj).s 2)).trans ?_
              exact decide_eq_decide.mpr ⟨fun z => k.mp (by omega), fun z => by have := k.mpr z; omega⟩
end Tw

set_option Elab.async false
set_option linter.all false
set_option maxRecDepth 100000
set_option maxHeartbeats 4000000
/-! The law: a grid is made. -/
namespace Tw
open PySem PySem.Spec PyProof.Rows L2 LamX
open He (ga ma)
structure GrAt (wl q : Addr) (one two : Nat) (H : Hp) (i : Nat) (σ : L2.St) (H' : Hp) : Prop where
  o : ∃ (sz : Nat → Nat) (cur : Nat) (x : Option V) (xs : List V), σ = [some (.ref wl), some (.str signsS), some (.ref q), some (.int (cur : Int)), some (.int (one : Int)), some (.int (two : Int)), x] ∧ H' q = some (.lst xs) ∧ TpA H' xs ((List.range i).map (gD one two sz)) ∧ cur ≤ 20 * i ∧ (∀ a, a < i → sz a ≤ cur) ∧ ∀ a b, a < b → b < i → sz a < sz b
  f : Fr (fun a => a = wl) H H'
  w : WellOk H' wl
theorem mul_a (j : Nat) : MulOk "a" ((j % 2 : Nat) : Int) := mulOk_of 16 1048576 (by decide) (by omega) (by omega) (by decide) (by decide)
section
variable {P : Program} {w : World} {K : PySem.W.Frag} {mg : Str → Option Value} {base : Heap}
theorem sc__law_grid : FnScope ["_law_well_here", "_law_signs", "_law_found", "_law_size", "_law_one", "_law_two", "_law_j"] ["_law_well_here"] (defScope (top 35)) := ⟨rfl, rfl, rfl, by decide +kernel, rfl, by decide +kernel, by decide +kernel⟩
theorem ok__law_grid (T : TX K mg) (F : Fd K "_law_grid" "_law_grid" (top 35) (ga K "_law_grid")) (G__law_pull : OkF P w K mg base CX0 1 (ga K "_law_pull") ["_law_well_here", "_law_many"] spPull) :
    OkF P w K mg base CX0 2 (ga K "_law_grid") ["_law_well_here"] spGrid := by
  refine mkOk F sc__law_grid (fun vs H Q E h => ?_) (fun _ _ _ _ _ _ us hl => match us, hl with | [_], _ => rfl) (fun cdv A outer s H vs Q E hr h => ?_)
  · obtain ⟨wl, rfl, _⟩ := h
    rfl
  · obtain ⟨wl, rfl, W0, k⟩ := h
    have hu := hu_of hr
    have nd := sc__law_grid.nd
    refine ⟨_, (pss_cons (ps_set (i := 1) nd rfl (by first | exact Or.inl rfl | exact Or.inr rfl) pe_str)
      (pss_cons (ps_set (i := 2) nd rfl (by first | exact Or.inl rfl | exact Or.inr rfl) (pe_lst pa_nil))
      (pss_cons (ps_set (i := 3) nd rfl (by first | exact Or.inl rfl | exact Or.inr rfl) pe_int)
      (pss_cons (ps_set (i := 4) nd rfl (by first | exact Or.inl rfl | exact Or.inr rfl) (pe_c G__law_pull (hr.mono (by decide)) rfl T.g__law_pull (pa_cons (pv 0) (pa_cons pe_int pa_nil))))
      (pss_cons (ps_set (i := 5) nd rfl (by first | exact Or.inl rfl | exact Or.inr rfl) (pe_op op_add (pv 4) (pe_c G__law_pull (hr.mono (by decide)) rfl T.g__law_pull (pa_cons (pv 0) (pa_cons (pe_op op_sub pe_int (pv 4)) pa_nil)))))
      (pss_cons (ps_for PassesOwn.never rfl (pi_range1 rfl T.f_range (pa_cons pe_int pa_nil)) (pg_name (i := 6) nd rfl (by first | exact Or.inl rfl | exact Or.inr rfl)) (pss_cons (ps_set (i := 3) nd rfl (by first | exact Or.inl rfl | exact Or.inr rfl) (pe_op op_add (pe_op op_add (pv 3) pe_int) (pe_c G__law_pull (hr.mono (by decide)) rfl T.g__law_pull (pa_cons (pv 0) (pa_cons pe_int pa_nil)))))
      (pss_one (ps_if (pt_cmpR op_lt (pv 6) (pv 4) (nomark _)) (pss_one (ps_expr (pe_bm PySem.F.plainAttrs_list PySem.F.slot_list_append PySem.F.type_list_append (mt_append) (pv 2) (pa_cons (pe_op op_sub (pv 3) pe_int) pa_nil)))) (pss_one (ps_if (pt_cmpR op_lt (pv 6) (pv 5) (nomark _)) (pss_one (ps_expr (pe_bm PySem.F.plainAttrs_list PySem.F.slot_list_append PySem.F.type_list_append (mt_append) (pv 2) (pa_cons (pe_op op_add_str (pe_op op_add_str (pe_op op_add_str pe_str (pe_ix ix_str (pv 1) (pe_op op_fdiv (pv 3) pe_int) (fun _ _ => rfl))) (pe_ix ix_str (pv 1) (pe_op op_mod (pv 3) pe_int) (fun _ _ => rfl))) (pe_op op_rep_str pe_str (pe_op op_mod (pv 6) pe_int))) pa_nil)))) (pss_one (ps_expr (pe_bm PySem.F.plainAttrs_list PySem.F.slot_list_append PySem.F.type_list_append (mt_append) (pv 2) (pa_cons (pe_op op_catT (pe_tup (pa_cons pe_str (pa_cons (pv 3) pa_nil))) (pe_op op_repT0 (pe_tup (pa_cons pe_int pa_nil)) (pe_op op_mod (pv 6) pe_int))) pa_nil))))))))))
      (pss_one (ps_ret (pv 2))))))))), ?_⟩
    refine sq_set at_c ?_
    refine sq_as ⟨z0, fun q hq => ?_⟩
    refine sq_set at_c ?_
    have nqw : q ≠ wl := fun z => by
      obtain ⟨_, _, _, _, e, _⟩ := W0
      rw [← z, hq] at e
      cases e
    have s1 := same_new (o := .lst []) hq
    refine sq_as (wp_call (ata_cons (at_var rfl) (ata_cons at_c ata_nil)) ⟨wl, 65, rfl, by decide, by decide, W0.same s1, fun one H2 hone f2 W2 => ?_⟩)
    have e65 : ((65 : Int) - (one : Int)) = ((65 - one : Nat) : Int) := by omega
    refine sq_as (opW (at_then (at_var rfl) (wp_call (ata_cons (at_var rfl) (ata_cons (at_I0 at_c (at_var rfl) (congrArg V.int e65)) ata_nil)) ⟨wl, 65 - one, rfl, by omega, by omega, W2, fun r2 H3 hr2 f3 W3 => ⟨_, _, rfl, rfl, ?_⟩⟩)))
    have e3 : H3 q = some (.lst []) := f3 _ _ (f2 _ _ upd_same nqw) nqw
    have f13 := ((Fr.same (F := fun a => a = wl) s1).trans f2).trans f3
    have etwo : ((one : Int) + (r2 : Int)) = ((one + r2 : Nat) : Int) := by omega
    dsimp only
    rw [etwo]
    generalize one + r2 = two
    refine sq_forR1 (n := 64) (ata_cons at_c ata_nil) (by decide) (GrAt wl q one two H) ⟨⟨fun _ => 0, 0, _, [], rfl, e3, .nil, Nat.zero_le _, fun a h => absurd h (Nat.not_lt_zero _), fun a b _ h => absurd h (Nat.not_lt_zero _)⟩, f13, W3⟩ (fun i σ' H' hi hP => ?_) fun σ' H' hP => ?_
    · obtain ⟨⟨sz, cur, x, xs, rfl, hx, hxs, hc, h1, h2⟩, f, W⟩ := hP
      refine sq_as (opW (at_then (at_I0 (at_var rfl) at_c rfl) (wp_call (ata_cons (at_var rfl) (ata_cons at_c ata_nil)) ⟨wl, 20, rfl, by decide, by decide, W, fun r H1 hr1 f1 W1 => ⟨_, _, rfl, rfl, ?_⟩⟩)))
      have enew : ((cur : Int) + 1 + (r : Int)) = ((cur + 1 + r : Nat) : Int) := by omega
      dsimp only
      rw [enew]
      have hnew : cur < cur + 1 + r ∧ cur + 1 + r ≤ 20 * (i + 1) := by omega
      generalize cur + 1 + r = new at hnew ⊢
      have hx1 := f1 _ _ hx nqw
      have hxs1 := hxs.mono (W.tk f1) _ _
      have f01 := f.trans f1
      have hlen : xs.length < 100000 := by
        have := hxs.length
        rw [List.length_map, List.length_range] at this
        omega
      have fin : ∀ (σ : L2.St) v H2, σ = [some (.ref wl), some (.str signsS), some (.ref q), some (.int (new : Int)), some (.int (one : Int)), some (.int (two : Int)), some (iV i)] → Same H1 H2 → Tp H2 v (gD one two (setF sz i new) i) → GrAt wl q one two H (i + 1) σ (upd H2 q (.lst (xs ++ [v]))) := fun σ v H2 eσ s2 tp => by
        have hx2 := s2 _ _ hx1
        have T3 : TK H2 (upd H2 q (.lst (xs ++ [v]))) := TK.upd hx2 fun _ z => by cases z
        have W2 := W1.same s2
        refine ⟨⟨setF sz i new, new, _, xs ++ [v], eσ, upd_same, ?_, hnew.2, fun a ha => ?_, fun a b hab hb => ?_⟩, fun a o ha n => ?_, ?_⟩
        · rw [List.range_succ, List.map_append]
          refine TpA.snoc (tp.mono T3 _ _) ?_
          have e : (List.range i).map (gD one two (setF sz i new)) = (List.range i).map (gD one two sz) := List.map_congr_left fun a ha => by
            unfold gD
            rw [setF_ne (Nat.ne_of_lt (List.mem_range.mp ha))]
          rw [e]
          exact (hxs1.sm s2).mono T3 _ _
        · by_cases e : a = i
          · rw [e, setF_same]
            exact Nat.le_refl _
          · rw [setF_ne e]
            have := h1 a (by omega)
            omega
        · rw [setF_ne (show a ≠ i by omega)]
          by_cases e : b = i
          · rw [e, setF_same]
            have := h1 a (by omega)
            omega
          · rw [setF_ne e]
            exact h2 a b hab (by omega)
        · rw [upd_ne (ne_of_none ha hq)]
          exact s2 _ _ (f01 a o ha n)
        · obtain ⟨w1, w2, w3, w4, w5, w6⟩ := W2
          exact ⟨w1, w2, w3, w4, by rw [upd_ne (Ne.symm nqw)]; exact w5, w6⟩
      refine st_if (att_test (at_I0 (at_var rfl) (at_var rfl) rfl)) (fun h => ?_) fun h => ?_
      · have h : i < one := by have := of_decide_eq_true h; omega
        refine st_app (at_var rfl) hx1 (at_I0 (at_var rfl) at_c rfl) hlen (fin _ _ _ rfl (Same.refl _) ?_)
        unfold gD
        rw [if_pos h, setF_same]
        exact .int _
      have h : ¬ i < one := fun z => by have := of_decide_eq_false h; omega
      refine st_if (att_test (at_I0 (at_var rfl) (at_var rfl) rfl)) (fun g => ?_) fun g => ?_
      · have g : i < two := by have := of_decide_eq_true g; omega
        have d1 : ((new : Int) / 50) = ((new / 50 : Nat) : Int) := by omega
        have d2 : ((new : Int) % 50) = ((new % 50 : Nat) : Int) := by omega
        have d3 : ((i : Int) % 2) = ((i % 2 : Nat) : Int) := by omega
        have hz : signsS.length ≤ sizeLine := by decide +kernel
        have c1 := sgn_ok (b := new / 50) (by omega)
        have c2 := sgn_ok (b := new % 50) (by omega)
        refine st_app (v := .str (txtG new i)) (at_var rfl) hx1 (at_op (at_op (at_op at_c (at_op (at_var rfl) (at_I (at_var rfl) at_c ⟨by decide, by decide⟩ (congrArg V.int d1)) fun Q q => ⟨_, _, sgn (new / 50), rfl, rfl, hz, atI_nat c1.2.2, q⟩) fun Q q => ⟨_, _, rfl, rfl, ?_, q⟩)
          (at_op (at_var rfl) (at_I (at_var rfl) at_c (by decide) (congrArg V.int d2)) fun Q q => ⟨_, _, sgn (new % 50), rfl, rfl, hz, atI_nat c2.2.2, q⟩) fun Q q => ⟨_, _, rfl, rfl, ?_, q⟩) (at_op at_c (at_I (at_var rfl) at_c (by decide) (congrArg V.int d3)) fun Q q => ⟨"a", _, rfl, rfl, mul_a i, q⟩) fun Q q => ⟨_, _, rfl, rfl, ?_, q⟩) hlen (fin _ _ _ rfl (Same.refl _) ?_)
        · exact (by decide +kernel : 2 ≤ sizeLine)
        · exact (by decide +kernel : 3 ≤ sizeLine)
        · show 3 + (sufS i).length ≤ sizeLine
          rcases suf_cases i with e | e <;> rw [e]
          · exact (by decide +kernel : 3 ≤ sizeLine)
          · exact (by decide +kernel : 4 ≤ sizeLine)
        · unfold gD
          rw [if_neg h, if_pos g, setF_same]
          exact .str _
      have g : ¬ i < two := fun z => by have := of_decide_eq_false g; omega
      have eg : gD one two (setF sz i new) i = .tuple (tupG new i) := by
        unfold gD
        rw [if_neg h, if_neg g, setF_same]
      rw [eg] at fin
      have d3 : ((i : Int) % 2) = ((i % 2 : Nat) : Int) := by omega
      refine st_appV (at_var rfl) hx1 (opW (tup2W (at_then at_c (at_then (at_var rfl) ⟨z2, fun p hp => ?_⟩))))
      have s2 := same_new (o := .tup [.str "", .int (new : Int)]) hp
      have ep : upd H1 p (.tup [.str "", .int (new : Int)]) p = some (.tup [.str "", .int (new : Int)]) := upd_same
      generalize upd H1 p (.tup [.str "", .int (new : Int)]) = H2 at s2 ep ⊢
      refine opW (tup1W (at_then at_c ⟨z1, fun p2 hp2 => at_then (at_I (at_var rfl) at_c (by decide) (congrArg V.int d3)) ?_⟩))
      have s3 := same_new (o := .tup [.int 0]) hp2
      have ep3 := s3 _ _ ep
      have e2 : upd H2 p2 (.tup [.int 0]) p2 = some (.tup [.int 0]) := upd_same
      generalize upd H2 p2 (.tup [.int 0]) = H3 at s3 ep3 e2 ⊢
      refine ⟨p2, _, _, rfl, rfl, SqT.of e2, by simp, ?_⟩
      rcases Nat.mod_two_eq_zero_or_one i with m | m
      · refine .inl ⟨by rw [m]; rfl, fun p3 hp3 => ?_⟩
        have s4 := same_new (o := .tup []) hp3
        have ep4 := s4 _ _ ep3
        refine ⟨p, p3, _, [], rfl, rfl, SqT.of ep4, SqT.of upd_same, by simp, (by decide +kernel : 2 ≤ sizeLine), fun _ => ?_, fun z => absurd rfl z⟩
        refine ⟨q, xs, _, rfl, rfl, s4 _ _ (s3 _ _ (s2 _ _ hx1)), zlt hlen, fin _ _ _ rfl ((s2.trans s3).trans s4) (.tup ep4 ?_)⟩
        unfold tupG
        rw [if_neg (by omega)]
        exact .cons (.str _) (.cons (.int _) .nil)
      · refine .inr ⟨by rw [m]; rfl, ?_⟩
        refine ⟨p, p2, _, _, rfl, rfl, SqT.of ep3, SqT.of e2, by simp, (by decide +kernel : 3 ≤ sizeLine), (fun z => by cases z), fun _ p4 hp4 => ?_⟩
        have s4 := same_new (o := .tup ([.str "", .int (new : Int)] ++ [.int 0])) hp4
        refine ⟨q, xs, _, rfl, rfl, s4 _ _ (s3 _ _ (s2 _ _ hx1)), zlt hlen, fin _ _ _ rfl ((s2.trans s3).trans s4) (.tup upd_same ?_)⟩
        unfold tupG
        rw [if_pos m]
        exact .cons (.str _) (.cons (.int _) (.cons (.int _) .nil))
    · obtain ⟨⟨sz, cur, x, xs, rfl, hx, hxs, hc, h1, h2⟩, f, W⟩ := hP
      exact st_ret (at_var rfl) (k q xs (gD one two sz) H' f W hq hx hxs (grid_ok (fun a ha => by have := h1 a ha; omega) h2))
end
end Tw

set_option Elab.async false
set_option linter.all false
set_option maxRecDepth 100000
set_option maxHeartbeats 0
namespace Tw
open PySem PySem.Spec PyProof.Rows L2
def fn0 : List He.DefD := [⟨("is_number", none), "is_number", "is_number", defArgs (top 13), defBody (top 13), defScope (top 13), [], []⟩,
  ⟨("is_text", none), "is_text", "is_text", defArgs (top 14), defBody (top 14), defScope (top 14), [], []⟩,
  ⟨("is_within", none), "is_within", "is_within", defArgs (top 15), defBody (top 15), defScope (top 15), [], []⟩,
  ⟨("is_key", none), "is_key", "is_key", defArgs (top 16), defBody (top 16), defScope (top 16), [], []⟩,
  ⟨("checked", none), "checked", "checked", defArgs (top 17), defBody (top 17), defScope (top 17), [], []⟩,
  ⟨("rank", none), "rank", "rank", defArgs (top 18), defBody (top 18), defScope (top 18), [], []⟩,
  ⟨("ahead", none), "ahead", "ahead", defArgs (top 19), defBody (top 19), defScope (top 19), [], []⟩,
  ⟨("checked_rows", none), "checked_rows", "checked_rows", defArgs (top 22), defBody (top 22), defScope (top 22), [], []⟩,
  ⟨("label_of_rows", none), "label_of_rows", "label_of_rows", defArgs (top 23), defBody (top 23), defScope (top 23), [], []⟩,
  ⟨("label_over", none), "label_over", "label_over", defArgs (top 24), defBody (top 24), defScope (top 24), [], []⟩,
  ⟨("_law_well", none), "_law_well", "_law_well", defArgs (top 30), defBody (top 30), defScope (top 30), [], []⟩,
  ⟨("_law_pull", none), "_law_pull", "_law_pull", defArgs (top 31), defBody (top 31), defScope (top 31), [], []⟩,
  ⟨("_law_rank", none), "_law_rank", "_law_rank", defArgs (top 32), defBody (top 32), defScope (top 32), [], []⟩,
  ⟨("_law_less", none), "_law_less", "_law_less", defArgs (top 33), defBody (top 33), defScope (top 33), [], []⟩,
  ⟨("_law_alike", none), "_law_alike", "_law_alike", defArgs (top 34), defBody (top 34), defScope (top 34), [], []⟩,
  ⟨("_law_grid", none), "_law_grid", "_law_grid", defArgs (top 35), defBody (top 35), defScope (top 35), [], []⟩,
  ⟨("_law_leaf_rows", none), "_law_leaf_rows", "_law_leaf_rows", defArgs (top 36), defBody (top 36), defScope (top 36), [], []⟩,
  ⟨("_law_rows_of", none), "_law_rows_of", "_law_rows_of", defArgs (top 37), defBody (top 37), defScope (top 37), [], []⟩,
  ⟨("_law_label", none), "_law_label", "_law_label", defArgs (top 38), defBody (top 38), defScope (top 38), [], []⟩,
  ⟨("_law_above", none), "_law_above", "_law_above", defArgs (top 39), defBody (top 39), defScope (top 39), [], []⟩]
def fn1 : List He.DefD := [⟨("_law_shared", none), "_law_shared", "_law_shared", defArgs (top 40), defBody (top 40), defScope (top 40), [], []⟩,
  ⟨("_law_swept", none), "_law_swept", "_law_swept", defArgs (top 41), defBody (top 41), defScope (top 41), [], []⟩,
  ⟨("_law_asked", none), "_law_asked", "_law_asked", defArgs (top 44), defBody (top 44), defScope (top 44), [], []⟩,
  ⟨("_law_wrong", none), "_law_wrong", "_law_wrong", defArgs (top 45), defBody (top 45), defScope (top 45), [], []⟩,
  ⟨("_law_unheld", none), "_law_unheld", "_law_unheld", defArgs (top 46), defBody (top 46), defScope (top 46), [], []⟩,
  ⟨("_law_picked", none), "_law_picked", "_law_picked", defArgs (top 48), defBody (top 48), defScope (top 48), [], []⟩,
  ⟨("_law_run", none), "_law_run", "_law_run", defArgs (top 49), defBody (top 49), defScope (top 49), [], []⟩,
  ⟨("_law_put_leaf", none), "_law_put_leaf", "_law_put_leaf", defArgs (top 50), defBody (top 50), defScope (top 50), [], []⟩,
  ⟨("_law_put_stem", none), "_law_put_stem", "_law_put_stem", defArgs (top 51), defBody (top 51), defScope (top 51), [], []⟩,
  ⟨("_law_begun", none), "_law_begun", "_law_begun", defArgs (top 52), defBody (top 52), defScope (top 52), [], []⟩,
  ⟨("_law_seen", none), "_law_seen", "_law_seen", defArgs (top 53), defBody (top 53), defScope (top 53), [], []⟩,
  ⟨("_law_looked", none), "_law_looked", "_law_looked", defArgs (top 54), defBody (top 54), defScope (top 54), [], []⟩,
  ⟨("_law_no_look", none), "_law_no_look", "_law_no_look", defArgs (top 55), defBody (top 55), defScope (top 55), [], []⟩,
  ⟨("_law_deed", none), "_law_deed", "_law_deed", defArgs (top 56), defBody (top 56), defScope (top 56), [], []⟩,
  ⟨("law", none), "law", "law", defArgs (top 57), defBody (top 57), defScope (top 57), [], []⟩,
  ⟨("Shelf", some "__init__"), "__init__", "Shelf.__init__", defArgs (shm 0), defBody (shm 0), defScope (shm 0), [], []⟩,
  ⟨("Shelf", some "need"), "need", "Shelf.need", defArgs (shm 1), defBody (shm 1), defScope (shm 1), [], []⟩,
  ⟨("Shelf", some "set_down"), "set_down", "Shelf.set_down", defArgs (shm 2), defBody (shm 2), defScope (shm 2), [], []⟩,
  ⟨("Shelf", some "put_leaf"), "put_leaf", "Shelf.put_leaf", defArgs (shm 3), defBody (shm 3), defScope (shm 3), [], []⟩,
  ⟨("Shelf", some "put_stem"), "put_stem", "Shelf.put_stem", defArgs (shm 4), defBody (shm 4), defScope (shm 4), [], []⟩]
def fn2 : List He.DefD := [⟨("Shelf", some "need_held"), "need_held", "Shelf.need_held", defArgs (shm 5), defBody (shm 5), defScope (shm 5), [], []⟩,
  ⟨("Shelf", some "hand_over"), "hand_over", "Shelf.hand_over", defArgs (shm 6), defBody (shm 6), defScope (shm 6), [], []⟩,
  ⟨("Shelf", some "hold"), "hold", "Shelf.hold", defArgs (shm 7), defBody (shm 7), defScope (shm 7), [], []⟩,
  ⟨("Shelf", some "let_go"), "let_go", "Shelf.let_go", defArgs (shm 8), defBody (shm 8), defScope (shm 8), [], []⟩,
  ⟨("Shelf", some "sweep"), "sweep", "Shelf.sweep", defArgs (shm 9), defBody (shm 9), defScope (shm 9), [], []⟩,
  ⟨("Shelf", some "outside"), "outside", "Shelf.outside", defArgs (shm 10), defBody (shm 10), defScope (shm 10), [], []⟩,
  ⟨("Shelf", some "holders"), "holders", "Shelf.holders", defArgs (shm 11), defBody (shm 11), defScope (shm 11), [], []⟩,
  ⟨("Shelf", some "shared_above"), "shared_above", "Shelf.shared_above", defArgs (shm 12), defBody (shm 12), defScope (shm 12), [], []⟩,
  ⟨("Shelf", some "alone"), "alone", "Shelf.alone", defArgs (shm 13), defBody (shm 13), defScope (shm 13), [], []⟩,
  ⟨("Shelf", some "need_alone"), "need_alone", "Shelf.need_alone", defArgs (shm 14), defBody (shm 14), defScope (shm 14), [], []⟩,
  ⟨("Shelf", some "tags_behind"), "tags_behind", "Shelf.tags_behind", defArgs (shm 15), defBody (shm 15), defScope (shm 15), [], []⟩,
  ⟨("Shelf", some "change_leaf"), "change_leaf", "Shelf.change_leaf", defArgs (shm 16), defBody (shm 16), defScope (shm 16), [], []⟩,
  ⟨("Shelf", some "change_stem"), "change_stem", "Shelf.change_stem", defArgs (shm 17), defBody (shm 17), defScope (shm 17), [], []⟩,
  ⟨("Shelf", some "look"), "look", "Shelf.look", defArgs (shm 18), defBody (shm 18), defScope (shm 18), [], []⟩,
  ⟨("Shelf", some "label"), "label", "Shelf.label", defArgs (shm 19), defBody (shm 19), defScope (shm 19), [], []⟩,
  ⟨("Shelf", some "looked"), "looked", "Shelf.looked", defArgs (shm 20), defBody (shm 20), defScope (shm 20), [], []⟩,
  ⟨("Shelf", some "forget"), "forget", "Shelf.forget", defArgs (shm 21), defBody (shm 21), defScope (shm 21), [], []⟩,
  ⟨("Shelf", some "numbers"), "numbers", "Shelf.numbers", defArgs (shm 22), defBody (shm 22), defScope (shm 22), [], []⟩,
  ⟨("Shelf", some "many"), "many", "Shelf.many", defArgs (shm 23), defBody (shm 23), defScope (shm 23), [], []⟩,
  ⟨("NoTwig", some "__init__"), "__init__", "NoTwig.__init__", defArgs (inClass (top 5) 0), defBody (inClass (top 5) 0), defScope (inClass (top 5) 0), [], []⟩]
def fn3 : List He.DefD := [⟨("NotHeld", some "__init__"), "__init__", "NotHeld.__init__", defArgs (inClass (top 6) 0), defBody (inClass (top 6) 0), defScope (inClass (top 6) 0), [], []⟩]
def fn : List He.DefD := fn0 ++ fn1 ++ fn2 ++ fn3
def fa0 : List He.Fa := [.glo "is_number",
  .glo "is_text",
  .glo "is_within",
  .glo "is_key",
  .glo "checked",
  .glo "rank",
  .glo "ahead",
  .glo "checked_rows",
  .glo "label_of_rows",
  .glo "label_over",
  .glo "_law_well",
  .glo "_law_pull",
  .glo "_law_rank",
  .glo "_law_less",
  .glo "_law_alike",
  .glo "_law_grid",
  .glo "_law_leaf_rows",
  .glo "_law_rows_of",
  .glo "_law_label",
  .glo "_law_above"]
def fa1 : List He.Fa := [.glo "_law_shared",
  .glo "_law_swept",
  .glo "_law_asked",
  .glo "_law_wrong",
  .glo "_law_unheld",
  .glo "_law_picked",
  .glo "_law_run",
  .glo "_law_put_leaf",
  .glo "_law_put_stem",
  .glo "_law_begun",
  .glo "_law_seen",
  .glo "_law_looked",
  .glo "_law_no_look",
  .glo "_law_deed",
  .glo "law",
  .glo "Shelf",
  .glo "TwigError",
  .glo "NoKey",
  .glo "NoLeaf",
  .glo "NoStem"]
def fa2 : List He.Fa := [.glo "NoTwig",
  .glo "NotHeld",
  .glo "Shared",
  .free "isinstance",
  .free "int",
  .free "bool",
  .free "str",
  .free "tuple",
  .free "list",
  .free "len",
  .free "all",
  .free "range",
  .free "sum",
  .free "sorted",
  .free "max",
  .free "min",
  .free "abs",
  .free "reversed",
  .free "ValueError",
  .int "SIGNS" 40]
def fa3 : List He.Fa := [.int "WIDE" 4,
  .int "DEEP" 3,
  .int "MOST" 4,
  .int "BOUND" (10 ^ 60),
  .str "LEAF" "leaf",
  .str "STEM" "stem",
  .cls "Shelf",
  .mkr "Shelf",
  .noat "Shelf" "kept",
  .noat "Shelf" "tags",
  .noat "Shelf" "above",
  .noat "Shelf" "freely",
  .noat "Shelf" "seen",
  .noat "Shelf" "given",
  .meth "Shelf" "need",
  .meth "Shelf" "set_down",
  .meth "Shelf" "put_leaf",
  .meth "Shelf" "put_stem",
  .meth "Shelf" "need_held",
  .meth "Shelf" "hand_over"]
def fa4 : List He.Fa := [.meth "Shelf" "hold",
  .meth "Shelf" "let_go",
  .meth "Shelf" "sweep",
  .meth "Shelf" "outside",
  .meth "Shelf" "holders",
  .meth "Shelf" "shared_above",
  .meth "Shelf" "alone",
  .meth "Shelf" "need_alone",
  .meth "Shelf" "tags_behind",
  .meth "Shelf" "change_leaf",
  .meth "Shelf" "change_stem",
  .meth "Shelf" "look",
  .meth "Shelf" "label",
  .meth "Shelf" "looked",
  .meth "Shelf" "forget",
  .meth "Shelf" "numbers",
  .meth "Shelf" "many"]
def fa : List He.Fa := fa0 ++ fa1 ++ fa2 ++ fa3 ++ fa4
def loose0 : List PySem.Str := ["__name__",
  "TwigError",
  "NoKey",
  "NoLeaf",
  "NoStem",
  "NoTwig",
  "NotHeld",
  "Shared",
  "SIGNS",
  "WIDE",
  "DEEP",
  "BOUND",
  "MOST",
  "LEAF",
  "STEM",
  "Shelf",
  "is_number",
  "is_text",
  "is_within",
  "is_key"]
def loose1 : List PySem.Str := ["checked",
  "rank",
  "ahead",
  "checked_rows",
  "label_of_rows",
  "label_over",
  "_law_well",
  "_law_pull",
  "_law_rank",
  "_law_less",
  "_law_alike",
  "_law_grid",
  "_law_leaf_rows",
  "_law_rows_of",
  "_law_label",
  "_law_above",
  "_law_shared",
  "_law_swept",
  "_law_asked",
  "_law_wrong"]
def loose2 : List PySem.Str := ["_law_unheld",
  "_law_picked",
  "_law_run",
  "_law_put_leaf",
  "_law_put_stem",
  "_law_begun",
  "_law_seen",
  "_law_looked",
  "_law_no_look",
  "_law_deed",
  "_law_count",
  "_law_exact",
  "_law_rises"]
def loose : List PySem.Str := loose0 ++ loose1 ++ loose2
abbrev R : PySem.W.OpenRow := PySem.W.OpenLaw.row PySem.Challenge.rw_twigmap_k27_labels_and_looks
def tf : List He.Defn := [("_law_put_stem", none)]
/-- the objects that are looked at: what the module's names reach, and the statics -/
def asZ (g : Addr → Option Obj) : List Addr := PySem.cStatics :: He.asD g 5
def obsZ (g : Addr → Option Obj) : He.AlX := (He.obsT fa fn [] (He.frT g (asZ g)), exB (He.frT g (asZ g)) && He.tabsB g tf (He.frT g (asZ g)))
theorem saysZ {w : World} {h : Heap} (e : obsZ h.get? = He.valX fn [] w) : He.SaysX fa fn [] tf exB w h (He.frT h.get? (asZ h.get?)) := by
  have e1 : He.obsT fa fn [] (He.frT h.get? (asZ h.get?)) = He.valT fn [] w := congrArg (fun z : He.AlX => z.1) e
  obtain ⟨q1, q2⟩ := He.ba (show (exB (He.frT h.get? (asZ h.get?)) && He.tabsB h.get? tf (He.frT h.get? (asZ h.get?))) = true from congrArg (fun z : He.AlX => z.2) e)
  have at_ : ∀ p ∈ tf, ∃ o, h.get? (He.cT (He.frT h.get? (asZ h.get?)) p).2 = some o ∧ He.emptyTab o = true := fun p hp => by
    have q4 := (He.ba (List.all_eq_true.mp q2 p hp)).2
    split at q4
    · rename_i o ho
      exact ⟨o, ho, q4⟩
    · cases q4
  refine ⟨e1, q1, fun p hp => (He.ba (List.all_eq_true.mp q2 p hp)).1, fun p hp => ?_, fun p hp => ?_⟩
  · obtain ⟨o, a, b⟩ := at_ p hp
    exact He.frT_none a b
  · obtain ⟨o, a, b⟩ := at_ p hp
    exact a.trans (congrArg some (He.emptyTab_eq b))
def hkZ : PySem.W.Hook where
  α := He.AlX
  obs := fun s => obsZ s.heap.get?
  val := fun w => He.valX fn [] w
  says := fun w h => ∃ K : PySem.W.Frag, K.In h ∧ He.SaysX fa fn [] tf exB w h K
  of := fun _ _ e => ⟨_, He.frT_in, saysZ e⟩
  keeps := fun _ _ _ ⟨K, hK, c⟩ k => ⟨K, hK.keeps k, ⟨c.t, c.more, c.hd, c.out, fun p hp => k _ _ (c.empty p hp)⟩⟩
def ob (s : PySem.W.SharedT) : He.AlX := obsZ (HandSHeadRun.getT s)
theorem ob_eq (s : PySem.W.SharedT) : ob s = hkZ.obs s.abs := congrArg obsZ (funext fun a => HandSHeadRun.getT_eq s a)
theorem run (w : World) : HandSHeadRun.RunEq R (PySem.W.view R.prog [57]) hkZ ob 20000 loose w := by
  intro os
  kernel_rfl
end Tw

set_option Elab.async false
set_option linter.all false
set_option maxRecDepth 100000
set_option maxHeartbeats 4000000
/-! The parts are joined. -/
namespace Tw
open PySem PySem.Spec PyProof.Rows L2 LamX
open He (ga ma)
theorem tx_of {w : World} {h : Heap} {K : PySem.W.Frag} {mg : Str → Option Value} (X : K.In h) (G : h.Ns mainGlobals mg) (c : He.SaysX fa fn [] tf exB w h K) : TX K mg :=
  ⟨He.glo_ok X G (c.t.d.fact 0 (f := .glo "is_number") rfl),
    He.glo_ok X G (c.t.d.fact 1 (f := .glo "is_text") rfl),
    He.glo_ok X G (c.t.d.fact 2 (f := .glo "is_within") rfl),
    He.glo_ok X G (c.t.d.fact 3 (f := .glo "is_key") rfl),
    He.glo_ok X G (c.t.d.fact 4 (f := .glo "checked") rfl),
    He.glo_ok X G (c.t.d.fact 5 (f := .glo "rank") rfl),
    He.glo_ok X G (c.t.d.fact 6 (f := .glo "ahead") rfl),
    He.glo_ok X G (c.t.d.fact 7 (f := .glo "checked_rows") rfl),
    He.glo_ok X G (c.t.d.fact 8 (f := .glo "label_of_rows") rfl),
    He.glo_ok X G (c.t.d.fact 9 (f := .glo "label_over") rfl),
    He.glo_ok X G (c.t.d.fact 10 (f := .glo "_law_well") rfl),
    He.glo_ok X G (c.t.d.fact 11 (f := .glo "_law_pull") rfl),
    He.glo_ok X G (c.t.d.fact 12 (f := .glo "_law_rank") rfl),
    He.glo_ok X G (c.t.d.fact 13 (f := .glo "_law_less") rfl),
    He.glo_ok X G (c.t.d.fact 14 (f := .glo "_law_alike") rfl),
    He.glo_ok X G (c.t.d.fact 15 (f := .glo "_law_grid") rfl),
    He.glo_ok X G (c.t.d.fact 16 (f := .glo "_law_leaf_rows") rfl),
    He.glo_ok X G (c.t.d.fact 17 (f := .glo "_law_rows_of") rfl),
    He.glo_ok X G (c.t.d.fact 18 (f := .glo "_law_label") rfl),
    He.glo_ok X G (c.t.d.fact 19 (f := .glo "_law_above") rfl),
    He.glo_ok X G (c.t.d.fact 20 (f := .glo "_law_shared") rfl),
    He.glo_ok X G (c.t.d.fact 21 (f := .glo "_law_swept") rfl),
    He.glo_ok X G (c.t.d.fact 22 (f := .glo "_law_asked") rfl),
    He.glo_ok X G (c.t.d.fact 23 (f := .glo "_law_wrong") rfl),
    He.glo_ok X G (c.t.d.fact 24 (f := .glo "_law_unheld") rfl),
    He.glo_ok X G (c.t.d.fact 25 (f := .glo "_law_picked") rfl),
    He.glo_ok X G (c.t.d.fact 26 (f := .glo "_law_run") rfl),
    He.glo_ok X G (c.t.d.fact 27 (f := .glo "_law_put_leaf") rfl),
    He.glo_ok X G (c.t.d.fact 28 (f := .glo "_law_put_stem") rfl),
    He.glo_ok X G (c.t.d.fact 29 (f := .glo "_law_begun") rfl),
    He.glo_ok X G (c.t.d.fact 30 (f := .glo "_law_seen") rfl),
    He.glo_ok X G (c.t.d.fact 31 (f := .glo "_law_looked") rfl),
    He.glo_ok X G (c.t.d.fact 32 (f := .glo "_law_no_look") rfl),
    He.glo_ok X G (c.t.d.fact 33 (f := .glo "_law_deed") rfl),
    He.glo_ok X G (c.t.d.fact 34 (f := .glo "law") rfl),
    He.glo_ok X G (c.t.d.fact 35 (f := .glo "Shelf") rfl),
    He.glo_ok X G (c.t.d.fact 36 (f := .glo "TwigError") rfl),
    He.glo_ok X G (c.t.d.fact 37 (f := .glo "NoKey") rfl),
    He.glo_ok X G (c.t.d.fact 38 (f := .glo "NoLeaf") rfl),
    He.glo_ok X G (c.t.d.fact 39 (f := .glo "NoStem") rfl),
    He.glo_ok X G (c.t.d.fact 40 (f := .glo "NoTwig") rfl),
    He.glo_ok X G (c.t.d.fact 41 (f := .glo "NotHeld") rfl),
    He.glo_ok X G (c.t.d.fact 42 (f := .glo "Shared") rfl),
    He.free_ok X G (c.t.d.fact 43 (f := .free "isinstance") rfl),
    He.free_ok X G (c.t.d.fact 49 (f := .free "len") rfl),
    He.free_ok X G (c.t.d.fact 50 (f := .free "all") rfl),
    He.free_ok X G (c.t.d.fact 52 (f := .free "sum") rfl),
    He.free_ok X G (c.t.d.fact 53 (f := .free "sorted") rfl),
    He.free_ok X G (c.t.d.fact 54 (f := .free "max") rfl),
    He.free_ok X G (c.t.d.fact 55 (f := .free "min") rfl),
    He.free_ok X G (c.t.d.fact 56 (f := .free "abs") rfl),
    He.free_ok X G (c.t.d.fact 44 (f := .free "int") rfl),
    He.free_ok X G (c.t.d.fact 45 (f := .free "bool") rfl),
    He.free_ok X G (c.t.d.fact 46 (f := .free "str") rfl),
    He.free_ok X G (c.t.d.fact 47 (f := .free "tuple") rfl),
    He.free_ok X G (c.t.d.fact 48 (f := .free "list") rfl),
    He.free_ok X G (c.t.d.fact 51 (f := .free "range") rfl),
    He.free_ok X G (c.t.d.fact 57 (f := .free "reversed") rfl),
    He.free_ok X G (c.t.d.fact 58 (f := .free "ValueError") rfl),
    He.int_ok X G (c.t.d.fact 59 (f := .int "SIGNS" 40) rfl),
    He.int_ok X G (c.t.d.fact 60 (f := .int "WIDE" 4) rfl),
    He.int_ok X G (c.t.d.fact 61 (f := .int "DEEP" 3) rfl),
    He.int_ok X G (c.t.d.fact 62 (f := .int "MOST" 4) rfl),
    He.int_ok X G (c.t.d.fact 63 (f := .int "BOUND" (10 ^ 60)) rfl),
    He.str_ok X G (c.t.d.fact 64 (f := .str "LEAF" "leaf") rfl),
    He.str_ok X G (c.t.d.fact 65 (f := .str "STEM" "stem") rfl),
    He.cls_ok (c.t.d.fact 66 (f := .cls "Shelf") rfl),
    He.noat_ok (c.t.d.fact 68 (f := .noat "Shelf" "kept") rfl),
    He.noat_ok (c.t.d.fact 69 (f := .noat "Shelf" "tags") rfl),
    He.noat_ok (c.t.d.fact 70 (f := .noat "Shelf" "above") rfl),
    He.noat_ok (c.t.d.fact 71 (f := .noat "Shelf" "freely") rfl),
    He.noat_ok (c.t.d.fact 72 (f := .noat "Shelf" "seen") rfl),
    He.noat_ok (c.t.d.fact 73 (f := .noat "Shelf" "given") rfl)⟩
theorem law_ok {P : Program} {w w0 : World} {h : Heap} {K : PySem.W.Frag} {mg : Str → Option Value} {base : Heap} {tb : Addr} {fd : FuncData} (F : FunD K "law" "law" (defArgs (top 57)) (defBody (top 57)) (defScope (top 57)) [] [] (ga K "law") fd) (T : TX K mg) (W : TwX K) (c : He.SaysX fa fn [] tf exB w0 h K) (TB : TabB base mg (He.codeOf K ("_law_put_stem", none)) tb) : FnOk P w K mg base CX0 12 (ga K "law") fd ["_law_script"] (spLaw K tb) := by
  have MS : Mk K (ga K "Shelf") (ma K (ga K "Shelf") "__init__") := He.mkr_ok (c.t.d.fact 67 (f := .mkr "Shelf") rfl)
  have G_is_number := ok_is_number (P := P) (w := w) (base := base) T (show Fd K "is_number" "is_number" (top 13) (ga K "is_number") from c.t.d.def_ 0 rfl)
  have G_is_text := ok_is_text (P := P) (w := w) (base := base) T (show Fd K "is_text" "is_text" (top 14) (ga K "is_text") from c.t.d.def_ 1 rfl)
  have G_is_within : OkF P w K mg base CX0 5 (ga K "is_within") ["thing", "room"] (spIsWithin 4) := ok_is_within (P := P) (w := w) (base := base) T (show Fd K "is_within" "is_within" (top 15) (ga K "is_within") from c.t.d.def_ 2 rfl) G_is_number G_is_text 4
  have G_is_key := ok_is_key (P := P) (w := w) (base := base) T (show Fd K "is_key" "is_key" (top 16) (ga K "is_key") from c.t.d.def_ 3 rfl) G_is_within
  have G_checked := ok_checked (P := P) (w := w) (base := base) T (show Fd K "checked" "checked" (top 17) (ga K "checked") from c.t.d.def_ 4 rfl) G_is_key
  have G_rank := ok_rank (P := P) (w := w) (base := base) T (show Fd K "rank" "rank" (top 18) (ga K "rank") from c.t.d.def_ 5 rfl) 4
  have G__law_rank := ok__law_rank (P := P) (w := w) (base := base) T (show Fd K "_law_rank" "_law_rank" (top 32) (ga K "_law_rank") from c.t.d.def_ 12 rfl) 4
  have G_ahead := ok_ahead (P := P) (w := w) (base := base) T (show Fd K "ahead" "ahead" (top 19) (ga K "ahead") from c.t.d.def_ 6 rfl) G_rank
  have G__law_less := ok__law_less (P := P) (w := w) (base := base) T (show Fd K "_law_less" "_law_less" (top 33) (ga K "_law_less") from c.t.d.def_ 13 rfl) G__law_rank
  have G__law_alike := ok__law_alike (P := P) (w := w) (base := base) T (show Fd K "_law_alike" "_law_alike" (top 34) (ga K "_law_alike") from c.t.d.def_ 14 rfl) 5
  have G_init := ok_init (P := P) (w := w) (base := base) T (show Fd K "__init__" "Shelf.__init__" (shm 0) (ma K (ga K "Shelf") "__init__") from c.t.d.def_ 35 rfl)
  have G_need := ok_need (P := P) (w := w) (base := base) T (show Fd K "need" "Shelf.need" (shm 1) (ma K (ga K "Shelf") "need") from c.t.d.def_ 36 rfl)
  have G_outside := ok_outside (P := P) (w := w) (base := base) T (show Fd K "outside" "Shelf.outside" (shm 10) (ma K (ga K "Shelf") "outside") from c.t.d.def_ 45 rfl) ⟨G_need, He.meth_ok (c.t.d.fact 74 (f := .meth "Shelf" "need") rfl)⟩
  have G_holders := ok_holders (P := P) (w := w) (base := base) T (show Fd K "holders" "Shelf.holders" (shm 11) (ma K (ga K "Shelf") "holders") from c.t.d.def_ 46 rfl) ⟨G_need, He.meth_ok (c.t.d.fact 74 (f := .meth "Shelf" "need") rfl)⟩
  have G_label := ok_label (P := P) (w := w) (base := base) T (show Fd K "label" "Shelf.label" (shm 19) (ma K (ga K "Shelf") "label") from c.t.d.def_ 54 rfl) ⟨G_need, He.meth_ok (c.t.d.fact 74 (f := .meth "Shelf" "need") rfl)⟩
  have G_many := ok_many (P := P) (w := w) (base := base) T (show Fd K "many" "Shelf.many" (shm 23) (ma K (ga K "Shelf") "many") from c.t.d.def_ 58 rfl)
  have G_looked := ok_looked (P := P) (w := w) (base := base) T (show Fd K "looked" "Shelf.looked" (shm 20) (ma K (ga K "Shelf") "looked") from c.t.d.def_ 55 rfl)
  have G_numbers := ok_numbers (P := P) (w := w) (base := base) T (show Fd K "numbers" "Shelf.numbers" (shm 22) (ma K (ga K "Shelf") "numbers") from c.t.d.def_ 57 rfl)
  have G_hold := ok_hold (P := P) (w := w) (base := base) T (show Fd K "hold" "Shelf.hold" (shm 7) (ma K (ga K "Shelf") "hold") from c.t.d.def_ 42 rfl) ⟨G_need, He.meth_ok (c.t.d.fact 74 (f := .meth "Shelf" "need") rfl)⟩
  have G_hand_over := ok_hand_over (P := P) (w := w) (base := base) T (show Fd K "hand_over" "Shelf.hand_over" (shm 6) (ma K (ga K "Shelf") "hand_over") from c.t.d.def_ 41 rfl)
  have G_need_held := ok_need_held0 (P := P) (w := w) (base := base) T (show Fd K "need_held" "Shelf.need_held" (shm 5) (ma K (ga K "Shelf") "need_held") from c.t.d.def_ 40 rfl)
  have G_look := ok_look (P := P) (w := w) (base := base) T (show Fd K "look" "Shelf.look" (shm 18) (ma K (ga K "Shelf") "look") from c.t.d.def_ 53 rfl) ⟨G_need, He.meth_ok (c.t.d.fact 74 (f := .meth "Shelf" "need") rfl)⟩
  have G_forget := ok_forget (P := P) (w := w) (base := base) T (show Fd K "forget" "Shelf.forget" (shm 21) (ma K (ga K "Shelf") "forget") from c.t.d.def_ 56 rfl)
  have G_set_down := ok_set_down (P := P) (w := w) (base := base) T (show Fd K "set_down" "Shelf.set_down" (shm 2) (ma K (ga K "Shelf") "set_down") from c.t.d.def_ 37 rfl)
  have G_label_of_rows := ok_label_of_rows (P := P) (w := w) (base := base) T (show Fd K "label_of_rows" "label_of_rows" (top 23) (ga K "label_of_rows") from c.t.d.def_ 8 rfl)
  have G_checked_rows := ok_checked_rows (P := P) (w := w) (base := base) T (show Fd K "checked_rows" "checked_rows" (top 22) (ga K "checked_rows") from c.t.d.def_ 7 rfl) G_checked G_ahead
  have G_put_leaf := ok_put_leaf (P := P) (w := w) (base := base) T (show Fd K "put_leaf" "Shelf.put_leaf" (shm 3) (ma K (ga K "Shelf") "put_leaf") from c.t.d.def_ 38 rfl) G_checked_rows G_label_of_rows ⟨G_set_down, He.meth_ok (c.t.d.fact 75 (f := .meth "Shelf" "set_down") rfl)⟩
  have G_shared_above := ok_shared_above (P := P) (w := w) (base := base) T (show Fd K "shared_above" "Shelf.shared_above" (shm 12) (ma K (ga K "Shelf") "shared_above") from c.t.d.def_ 47 rfl) ⟨G_holders, He.meth_ok (c.t.d.fact 84 (f := .meth "Shelf" "holders") rfl)⟩
  have G_alone := ok_alone (P := P) (w := w) (base := base) T (show Fd K "alone" "Shelf.alone" (shm 13) (ma K (ga K "Shelf") "alone") from c.t.d.def_ 48 rfl) ⟨G_need, He.meth_ok (c.t.d.fact 74 (f := .meth "Shelf" "need") rfl)⟩ ⟨G_shared_above, He.meth_ok (c.t.d.fact 85 (f := .meth "Shelf" "shared_above") rfl)⟩
  have G_need_alone := ok_need_alone (P := P) (w := w) (base := base) T (show Fd K "need_alone" "Shelf.need_alone" (shm 14) (ma K (ga K "Shelf") "need_alone") from c.t.d.def_ 49 rfl) ⟨G_shared_above, He.meth_ok (c.t.d.fact 85 (f := .meth "Shelf" "shared_above") rfl)⟩
  have G_label_over := ok_label_over (P := P) (w := w) (base := base) T W (show Fd K "label_over" "label_over" (top 24) (ga K "label_over") from c.t.d.def_ 9 rfl) G_ahead
  have G_tags_behind := ok_tags_behind (P := P) (w := w) (base := base) T (show Fd K "tags_behind" "Shelf.tags_behind" (shm 15) (ma K (ga K "Shelf") "tags_behind") from c.t.d.def_ 50 rfl) G_label_over
  have G_change_leaf := ok_change_leaf (P := P) (w := w) (base := base) T (show Fd K "change_leaf" "Shelf.change_leaf" (shm 16) (ma K (ga K "Shelf") "change_leaf") from c.t.d.def_ 51 rfl) ⟨G_need, He.meth_ok (c.t.d.fact 74 (f := .meth "Shelf" "need") rfl)⟩ ⟨G_need_alone, He.meth_ok (c.t.d.fact 87 (f := .meth "Shelf" "need_alone") rfl)⟩ G_checked_rows G_label_of_rows ⟨G_tags_behind, He.meth_ok (c.t.d.fact 88 (f := .meth "Shelf" "tags_behind") rfl)⟩
  have G_change_stem := ok_change_stem (P := P) (w := w) (base := base) T (show Fd K "change_stem" "Shelf.change_stem" (shm 17) (ma K (ga K "Shelf") "change_stem") from c.t.d.def_ 52 rfl) ⟨G_need, He.meth_ok (c.t.d.fact 74 (f := .meth "Shelf" "need") rfl)⟩ ⟨G_need_alone, He.meth_ok (c.t.d.fact 87 (f := .meth "Shelf" "need_alone") rfl)⟩ G_label_over ⟨G_need_held, He.meth_ok (c.t.d.fact 78 (f := .meth "Shelf" "need_held") rfl)⟩ ⟨G_hand_over, He.meth_ok (c.t.d.fact 79 (f := .meth "Shelf" "hand_over") rfl)⟩ ⟨G_tags_behind, He.meth_ok (c.t.d.fact 88 (f := .meth "Shelf" "tags_behind") rfl)⟩
  have G_sweep := ok_sweep (P := P) (w := w) (base := base) T (show Fd K "sweep" "Shelf.sweep" (shm 9) (ma K (ga K "Shelf") "sweep") from c.t.d.def_ 44 rfl)
  have G_let_go := ok_let_go (P := P) (w := w) (base := base) T (show Fd K "let_go" "Shelf.let_go" (shm 8) (ma K (ga K "Shelf") "let_go") from c.t.d.def_ 43 rfl) ⟨G_need, He.meth_ok (c.t.d.fact 74 (f := .meth "Shelf" "need") rfl)⟩ ⟨G_sweep, He.meth_ok (c.t.d.fact 82 (f := .meth "Shelf" "sweep") rfl)⟩
  have G_NoTwig := ok_NoTwig (P := P) (w := w) (base := base) T W (show Fd K "__init__" "NoTwig.__init__" (inClass (top 5) 0) (ma K (ga K "NoTwig") "__init__") from c.t.d.def_ 59 rfl)
  have G_NotHeld := ok_NotHeld (P := P) (w := w) (base := base) T W (show Fd K "__init__" "NotHeld.__init__" (inClass (top 6) 0) (ma K (ga K "NotHeld") "__init__") from c.t.d.def_ 60 rfl)
  have G_needX := ok_needX (P := P) (w := w) (base := base) T W (show Fd K "need" "Shelf.need" (shm 1) (ma K (ga K "Shelf") "need") from c.t.d.def_ 36 rfl) G_NoTwig
  have G_need_heldX := ok_need_heldX (P := P) (w := w) (base := base) T W (show Fd K "need_held" "Shelf.need_held" (shm 5) (ma K (ga K "Shelf") "need_held") from c.t.d.def_ 40 rfl) G_NotHeld
  have G_put_stem := ok_put_stem (P := P) (w := w) (base := base) T (show Fd K "put_stem" "Shelf.put_stem" (shm 4) (ma K (ga K "Shelf") "put_stem") from c.t.d.def_ 39 rfl) ⟨G_needX, He.meth_ok (c.t.d.fact 74 (f := .meth "Shelf" "need") rfl)⟩ G_label_over ⟨G_need_heldX, He.meth_ok (c.t.d.fact 78 (f := .meth "Shelf" "need_held") rfl)⟩ ⟨G_hand_over, He.meth_ok (c.t.d.fact 79 (f := .meth "Shelf" "hand_over") rfl)⟩ ⟨G_set_down, He.meth_ok (c.t.d.fact 75 (f := .meth "Shelf" "set_down") rfl)⟩
  have G__law_pull := ok__law_pull (P := P) (w := w) (base := base) T (show Fd K "_law_pull" "_law_pull" (top 31) (ga K "_law_pull") from c.t.d.def_ 11 rfl)
  have G__law_well := ok__law_well (P := P) (w := w) (base := base) T (show Fd K "_law_well" "_law_well" (top 30) (ga K "_law_well") from c.t.d.def_ 10 rfl)
  have G__law_rows_of := ok__law_rows_of (P := P) (w := w) (base := base) T (show Fd K "_law_rows_of" "_law_rows_of" (top 37) (ga K "_law_rows_of") from c.t.d.def_ 17 rfl)
  have G__law_label := ok__law_label (P := P) (w := w) (base := base) T (show Fd K "_law_label" "_law_label" (top 38) (ga K "_law_label") from c.t.d.def_ 18 rfl) G__law_rows_of
  have G__law_above := ok__law_above (P := P) (w := w) (base := base) T (show Fd K "_law_above" "_law_above" (top 39) (ga K "_law_above") from c.t.d.def_ 19 rfl)
  have G__law_shared := ok__law_shared (P := P) (w := w) (base := base) T (show Fd K "_law_shared" "_law_shared" (top 40) (ga K "_law_shared") from c.t.d.def_ 20 rfl) G__law_above
  have G__law_unheld := ok__law_unheld (P := P) (w := w) (base := base) T (show Fd K "_law_unheld" "_law_unheld" (top 46) (ga K "_law_unheld") from c.t.d.def_ 24 rfl)
  have G__law_wrong := ok__law_wrong (P := P) (w := w) (base := base) T (show Fd K "_law_wrong" "_law_wrong" (top 45) (ga K "_law_wrong") from c.t.d.def_ 23 rfl) G__law_label G__law_less
  have G__law_picked := ok__law_picked (P := P) (w := w) (base := base) T (show Fd K "_law_picked" "_law_picked" (top 48) (ga K "_law_picked") from c.t.d.def_ 25 rfl) G__law_pull
  have G__law_run := ok__law_run (P := P) (w := w) (base := base) T (show Fd K "_law_run" "_law_run" (top 49) (ga K "_law_run") from c.t.d.def_ 26 rfl) G__law_pull G__law_picked G__law_label
  have G__law_swept := ok__law_swept (P := P) (w := w) (base := base) T (show Fd K "_law_swept" "_law_swept" (top 41) (ga K "_law_swept") from c.t.d.def_ 21 rfl)
  have G__law_seen := ok__law_seen (P := P) (w := w) (base := base) (tb := tb) T (show Fd K "_law_seen" "_law_seen" (top 53) (ga K "_law_seen") from c.t.d.def_ 30 rfl) ⟨G_look, He.meth_ok (c.t.d.fact 91 (f := .meth "Shelf" "look") rfl)⟩ G__law_alike
  have G__law_looked := ok__law_looked (P := P) (w := w) (base := base) (tb := tb) T (show Fd K "_law_looked" "_law_looked" (top 54) (ga K "_law_looked") from c.t.d.def_ 31 rfl) ⟨G_looked, He.meth_ok (c.t.d.fact 93 (f := .meth "Shelf" "looked") rfl)⟩ G__law_alike
  have G__law_no_look := ok__law_no_look (P := P) (w := w) (base := base) (tb := tb) T (show Fd K "_law_no_look" "_law_no_look" (top 55) (ga K "_law_no_look") from c.t.d.def_ 32 rfl) ⟨G_hold, He.meth_ok (c.t.d.fact 80 (f := .meth "Shelf" "hold") rfl)⟩ ⟨G_let_go, He.meth_ok (c.t.d.fact 81 (f := .meth "Shelf" "let_go") rfl)⟩ G__law_swept G__law_shared ⟨G_change_leaf, He.meth_ok (c.t.d.fact 89 (f := .meth "Shelf" "change_leaf") rfl)⟩ ⟨G_change_stem, He.meth_ok (c.t.d.fact 90 (f := .meth "Shelf" "change_stem") rfl)⟩
  have G__law_leaf_rows := ok__law_leaf_rows (P := P) (w := w) (base := base) T (show Fd K "_law_leaf_rows" "_law_leaf_rows" (top 36) (ga K "_law_leaf_rows") from c.t.d.def_ 16 rfl) G__law_pull
  have G__law_grid := ok__law_grid (P := P) (w := w) (base := base) T (show Fd K "_law_grid" "_law_grid" (top 35) (ga K "_law_grid") from c.t.d.def_ 15 rfl) G__law_pull
  have G__law_put_leaf := ok__law_put_leaf (P := P) (w := w) (base := base) (tb := tb) (qn := lamQ) T (show Fd K "_law_put_leaf" "_law_put_leaf" (top 50) (ga K "_law_put_leaf") from c.t.d.def_ 27 rfl) G__law_leaf_rows ⟨G_put_leaf, He.meth_ok (c.t.d.fact 76 (f := .meth "Shelf" "put_leaf") rfl)⟩
  have G__law_put_stem := ok__law_put_stem (P := P) (w := w) (base := base) (tb := tb) T W TB (show Fd K "_law_put_stem" "_law_put_stem" (top 51) (ga K "_law_put_stem") from c.t.d.def_ 28 rfl) (show Fd K "_law_asked" "_law_asked" (top 44) (ga K "_law_asked") from c.t.d.def_ 22 rfl) G__law_pull G__law_picked G__law_run G__law_wrong G__law_unheld G__law_alike ⟨G_put_stem, He.meth_ok (c.t.d.fact 77 (f := .meth "Shelf" "put_stem") rfl)⟩
  have G__law_begun := ok__law_begun (P := P) (w := w) (base := base) (tb := tb) T MS (show Fd K "_law_begun" "_law_begun" (top 52) (ga K "_law_begun") from c.t.d.def_ 29 rfl) G_init G__law_grid G__law_put_leaf G__law_put_stem
  have G__law_deed := ok__law_deed (P := P) (w := w) (base := base) (tb := tb) T (show Fd K "_law_deed" "_law_deed" (top 56) (ga K "_law_deed") from c.t.d.def_ 33 rfl) G__law_pull G__law_picked G__law_put_leaf G__law_put_stem G__law_no_look G__law_seen G__law_alike G__law_label G__law_shared ⟨G_label, He.meth_ok (c.t.d.fact 92 (f := .meth "Shelf" "label") rfl)⟩ ⟨G_holders, He.meth_ok (c.t.d.fact 84 (f := .meth "Shelf" "holders") rfl)⟩ ⟨G_alone, He.meth_ok (c.t.d.fact 86 (f := .meth "Shelf" "alone") rfl)⟩ ⟨G_many, He.meth_ok (c.t.d.fact 96 (f := .meth "Shelf" "many") rfl)⟩ ⟨G_numbers, He.meth_ok (c.t.d.fact 95 (f := .meth "Shelf" "numbers") rfl)⟩ ⟨G_outside, He.meth_ok (c.t.d.fact 83 (f := .meth "Shelf" "outside") rfl)⟩ ⟨G_forget, He.meth_ok (c.t.d.fact 94 (f := .meth "Shelf" "forget") rfl)⟩ ⟨G_looked, He.meth_ok (c.t.d.fact 93 (f := .meth "Shelf" "looked") rfl)⟩
  have G_law := ok_law (P := P) (w := w) (base := base) (tb := tb) T MS F G_init ⟨G_forget, He.meth_ok (c.t.d.fact 94 (f := .meth "Shelf" "forget") rfl)⟩ ⟨G_looked, He.meth_ok (c.t.d.fact 93 (f := .meth "Shelf" "looked") rfl)⟩ G__law_well G__law_begun G__law_picked G__law_deed G__law_seen G__law_looked
  exact G_law
theorem law_at {P : PySem.W.OpenLaw} {w w0 : World} {h : Heap} {K : PySem.W.Frag} {mg : Str → Option Value} {f : Addr} (X : K.In h) (G : h.Ns mainGlobals mg) (c : He.SaysX Tw.fa fn [] tf exB w0 h K) (hmg : mg ("law" : Str) = some (.ref f)) : LawAtS P w K L2.CX0 12 63 "_law_script" mg f h := by
  have T := tx_of X G c
  have W : TwX K := exB_ok c.more
  have e := hmg.symm.trans T.g_law
  cases e
  obtain ⟨fd, F⟩ := (show Fd K "law" "law" (top 57) (ga K "law") from c.t.d.def_ 34 rfl)
  have hp : (("_law_put_stem", none) : He.Defn) ∈ tf := List.mem_cons_self
  have b := FunD.bindsA (ps := ["_law_script"]) F fun _ _ _ _ _ _ us hl => match us, hl with | [_], _ => rfl
  refine ⟨fd, [He.cT K ("_law_put_stem", none)], spLaw K (He.cT K ("_law_put_stem", none)).2, fun p h => ?_, fun p h => ?_, fun p h => ?_, fun s v => b s [v] rfl, fun H a ns hl _ hT hS => ⟨a, ns, rfl, hl, hS, ?_, fun _ => rfl⟩, fun base _ _ TB => ?_⟩
  · rw [List.mem_singleton.mp h]
    exact c.empty _ hp
  · rw [List.mem_singleton.mp h]
    exact c.out _ hp
  · rw [List.mem_singleton.mp h]
    exact PySem.W.codeHd_of_K X (c.hd _ hp)
  · exact TabS.nil (hT _ List.mem_cons_self)
  · exact law_ok (P := P.prog) (w := w) (base := base) F T W c (TB _ List.mem_cons_self)
end Tw
open PySem PySem.W PySem.Calls PyProof.Rows
theorem PySem.Challenge.cw_twigmap_k27_labels_and_looks_holds : PySem.Challenge.rw_twigmap_k27_labels_and_looks.Holds := by
  w_on; o_law
  refine HandSHeadRun.head_any (r := Tw.R) (q := view Tw.R.prog [57]) (H := Tw.hkZ) (ob := Tw.ob) (M := 20000) (loose := Tw.loose) (d := HandSHeadRun.topDef Tw.R.prog 57) (kwd := []) Tw.ob_eq
    (by kernel_rfl) (fun s => by kernel_rfl) Tw.run (by kernel_rfl) (by kernel_rfl) (by kernel_rfl) (by rfl) (by first | assumption | decide +kernel) (by decide +kernel) ⟨rfl, rfl, rfl, rfl, rfl, by decide +kernel⟩ ?hw ?hc
  case hw => w_witness2
  case hc =>
    refine LamX.walk_ofTsE (l := PySem.Challenge.rw_twigmap_k27_labels_and_looks) (n := 63) (k := 12) (x := "_law_script") (CX := fun _ => L2.CX0) rfl (by decide) (by kernel_rfl) ⟨rfl, by decide, by decide⟩ ?F (fun _ _ _ _ _ z => z)
    intro w mg fa h Y G hmg0
    obtain ⟨K, KX, c⟩ := Y
    have hmg : mg ("law" : PySem.Str) = some (.ref fa) := by
      have e : (HandSHeadRun.topDef Tw.R.prog 57).name = ("law" : PySem.Str) := by kernel_rfl
      rw [← e]
      exact hmg0
    exact ⟨K, KX, Tw.law_at KX G c hmg⟩
