import PyProof.Rows.All
import Wide.All
import OpenK.AllK
import Wide.FinOn
import HandS.ForMost
import HandS.ForExc
import HandS.More
import HandS.TupAny
import HandS.IsInst
import HandS.ExcInit
import HandS.ExcField
import HandS.ExcIs
import KE.KExcIs
import HandS.ClsMeth
import HandS.Defaults
import HandS.Steps
import PySem.Challenge.RW_manyleaf_k24_contents_edited
import HandS.Head2
import HandS.HeadEnd
import HandS.HeadHook2
import KE.KStateDown
set_option Elab.async false
set_option linter.all false
set_option maxRecDepth 100000
set_option maxHeartbeats 0
/-! Rules of our own: a method of whatever class the receiver has, a class's own function, an exception's isinstance. -/
namespace MK
open PySem PySem.Spec PyProof.Rows L2

/-- o.m(e, ..): the class is read off the receiver; E: the wish for an error, at the caller's slots -/
def tDyn (X : Cx) (CX : CXT) (k : Nat) (m : Str) (E : L2.St → XK) (ta : TE) (t : TA) : TE := fun σ H Q => ta σ H fun x H1 =>
  ∃ (a C dx f : Addr) (fs : List (Str × V)) (sp : Sp), x = .ref a ∧ H1 a = some (.ins C dx fs) ∧ Cls X.K C ∧ Meth X.K C m f ∧ fs.lookup m = none ∧
    FnR X.prog X.w X.K X.mg X.base CX k f sp ∧ t σ H1 fun vs H2 => sp (x :: vs) H2 Q (E σ)
section
variable {X : Cx} {CX : CXT} {k : Nat} {f C : Addr} {sp : Sp} {m x : Str} {p p1 p2 pos apos : Pos} {e o : Expr} {es : List Expr} {ta : TE} {t : TA} {pl : Sem Bool}
theorem run_at {pins : List (Addr × Obj)} {σ : L2.St} {H : Hp} {s : Shared} {E : XK} {Q : VK} {us : List Value} {vs : List V} (F : FnR X.prog X.w X.K X.mg X.base CX k f sp) (hr : Room k X.A) (hx : PassesAt CX X σ E)
    (I : Inv X pins σ H s) (r : Vals vs us) (h : sp vs H Q E) : wpAny (model X.prog X.w) X.A (call (.ref f) us) (EP X pins σ Q) X.xe s := by
  refine wpAny_call (codeAny_mono (F X.A X.stack s H us vs Q E hr I.env0 r h) fun res s' hq => ?_)
  cases res with
  | error er => exact hx pins H s er s' I hq
  | ok fl =>
    cases fl with
    | ret u => exact I.after hq
    | next => exact hq.elim
    | brk => exact hq.elim
    | cont => exact hq.elim
theorem pe_dyn {E : L2.St → XK} (he : PE X o ta) (hr : Room k X.A) (hx : ∀ σ, PassesAt CX X σ (E σ)) (ha : PA X (e :: es) t)
    (hst : starEach (e :: es) X.env = (false, eval e X.env) :: starEach es X.env := by rfl) (hpl : (backTo pos (starEach es X.env)).any (·.1) = false := by rfl)
    (ht : eval (.Call (.Attribute o m apos) (e :: es) [] pos) X.env = (do
      let ov ← eval o X.env
      standAt apos.atName
      let (f, first) ← holding [ov] (getMethod ov m pl)
      callWith pos f first (backTo pos (starEach (e :: es) X.env)) (backToKw pos (keywordEach [] X.env))) := by rfl) :
    PE X (.Call (.Attribute o m apos) (e :: es) [] pos) (tDyn X CX k m E ta t) := by
  refine ⟨fun pins s σ H Q I h => ?_⟩
  refine PySem.W.methodCall_KW (pl := pl) (thn (he.run pins s σ H _ I h) fun u s1 hh => ?_) ht
  obtain ⟨x, H1, I1, rx, a, C, dx, f, fs, sp, ex, ea, c, hm, l, F, q⟩ := hh
  subst ex
  obtain rfl : u = Value.ref a := rx
  refine getmeth_ok I1 ea c hm l ?_
  refine PySem.W.callWith_K (first := [.ref a]) (h₀ := X.base) I.ok.mod.kin hm.kp (thn (ha.run pos pins s1 σ H1 _ I1 q) fun us s2 h2 => ?_) hst hpl
  obtain ⟨vs, H2, I2, r, q2⟩ := h2
  exact ⟨I2.kIn, run_at (us := .ref a :: us) (vs := .ref a :: vs) F hr (hx σ) I2 (.cons rfl r) q2⟩
/-- o.m() -/
theorem pe_dyn0 {E : L2.St → XK} (he : PE X o ta) (hr : Room k X.A) (hx : ∀ σ, PassesAt CX X σ (E σ))
    (ht : eval (.Call (.Attribute o m apos) [] [] pos) X.env = (do
      let ov ← eval o X.env
      standAt apos.atName
      let (f, first) ← holding [ov] (getMethod ov m pl)
      callWith pos f first (backTo pos (starEach [] X.env)) (backToKw pos (keywordEach [] X.env))) := by rfl) :
    PE X (.Call (.Attribute o m apos) [] [] pos) (tDyn X CX k m E ta tNil) := by
  refine ⟨fun pins s σ H Q I h => ?_⟩
  refine PySem.W.methodCall_KW (pl := pl) (thn (he.run pins s σ H _ I h) fun u s1 hh => ?_) ht
  obtain ⟨x, H1, I1, rx, a, C, dx, f, fs, sp, ex, ea, c, hm, l, F, q⟩ := hh
  subst ex
  obtain rfl : u = Value.ref a := rx
  refine getmeth_ok I1 ea c hm l ?_
  exact PySem.W.callWith_K0 (first := [.ref a]) I1.kIn hm.kp (run_at (us := [.ref a]) (vs := [.ref a]) F hr (hx σ) I1 (.cons rfl .nil) q)
/-- o.m(), the class known, by a promise by positional values -/
theorem pe_methR0 {E : XK} (he : PE X o ta) (c : Cls X.K C) (hm : Meth X.K C m f) (F : FnR X.prog X.w X.K X.mg X.base CX k f sp) (hr : Room k X.A) (hx : Passes CX X E)
    (ht : eval (.Call (.Attribute o m apos) [] [] pos) X.env = (do
      let ov ← eval o X.env
      standAt apos.atName
      let (f, first) ← holding [ov] (getMethod ov m pl)
      callWith pos f first (backTo pos (starEach [] X.env)) (backToKw pos (keywordEach [] X.env))) := by rfl) :
    PE X (.Call (.Attribute o m apos) [] [] pos) (tMethR C m sp E ta tNil) := by
  refine ⟨fun pins s σ H Q I h => ?_⟩
  refine PySem.W.methodCall_KW (pl := pl) (thn (he.run pins s σ H _ I h) fun u s1 hh => ?_) ht
  obtain ⟨x, H1, I1, rx, a, dx, fs, ex, ea, l, q⟩ := hh
  subst ex
  obtain rfl : u = Value.ref a := rx
  refine getmeth_ok I1 ea c hm l ?_
  exact PySem.W.callWith_K0 (first := [.ref a]) I1.kIn hm.kp (run_at (us := [.ref a]) (vs := [.ref a]) F hr (fun pins H s e s' I c => hx pins σ H s e s' I c) I1 (.cons rfl .nil) q)
theorem at0 {σ : L2.St} : PassesAt CX0 X σ E0 := fun _ _ _ _ _ _ h => h.elim

/-- f(e, ..) by a promise by positional values -/
def tCallP (sp : Sp) (E : L2.St → XK) (t : TA) : TE := fun σ H Q => t σ H fun vs H1 => sp vs H1 Q (E σ)
theorem pe_callP {E : L2.St → XK} (F : FnR X.prog X.w X.K X.mg X.base CX k f sp) (hr : Room k X.A) (hg : Gl X x) (hm : X.mg x = some (.ref f)) (hk : PySem.W.keepIn X.K (.ref f) = true) (hx : ∀ σ, PassesAt CX X σ (E σ))
    (ha : PA X (e :: es) t) (hdb : (x == ("__debug__" : Str)) = false := by decide) (he : starEach (e :: es) X.env = (false, eval e X.env) :: starEach es X.env := by rfl) (hpl : (backTo pos (starEach es X.env)).any (·.1) = false := by rfl) :
    PE X (.Call (.Name x p) (e :: es) [] pos) (tCallP sp E t) := by
  refine ⟨fun pins s σ H Q I h => ?_⟩
  refine wpAny_Call_Name_kw (ld_glob I hg hm ?_ hdb)
  refine PySem.W.callWith_K (h₀ := X.base) I.ok.mod.kin hk (thn (ha.run pos pins s σ H _ I h) fun us s1 h1 => ?_) he hpl
  obtain ⟨vs, H1, I1, r, q⟩ := h1
  exact ⟨I1.kIn, run_at F hr (hx σ) I1 r q⟩
/-- C.m(e, ..), m a def of the class C (or above it) -/
theorem pe_ofcls {mc : Value} {E : L2.St → XK} (F : FnR X.prog X.w X.K X.mg X.base CX k f sp) (hr : Room k X.A) (hg : Gl X x) (hm : X.mg x = some (.ref C)) (rd : ClX.CRead X.K C mc)
    (hf : PySem.W.findCls X.K (.ref C) mc m = some (.val (.ref f))) (hk : PySem.W.keepIn X.K (.ref f) = true) (hx : ∀ σ, PassesAt CX X σ (E σ)) (ha : PA X (e :: es) t)
    (hst : starEach (e :: es) X.env = (false, eval e X.env) :: starEach es X.env := by rfl) (hpl : (backTo pos (starEach es X.env)).any (·.1) = false := by rfl) (hdb : (x == ("__debug__" : Str)) = false := by decide)
    (ht : eval (.Call (.Attribute (.Name x p1) m apos) (e :: es) [] pos) X.env = (do
      let ov ← eval (.Name x p1) X.env
      standAt apos.atName
      let (f, first) ← holding [ov] (getMethod ov m pl)
      callWith pos f first (backTo pos (starEach (e :: es) X.env)) (backToKw pos (keywordEach [] X.env))) := by rfl) :
    PE X (.Call (.Attribute (.Name x p1) m apos) (e :: es) [] pos) (tCallP sp E t) := by
  refine ⟨fun pins s σ H Q I h => ?_⟩
  refine PySem.W.methodCall_KW (pl := pl) (ld_glob I hg hm ?_ hdb) ht
  refine PySem.W.method_cls I.kIn rd.ga ?_
  refine PySem.W.cls_value I.kIn rd.rd hf rfl ?_
  have I' := I.tok (s.toks + 1)
  refine PySem.W.callWith_K (first := []) (h₀ := X.base) I.ok.mod.kin hk (thn (ha.run pos pins _ σ H _ I' h) fun us s1 h1 => ?_) hst hpl
  obtain ⟨vs, H1, I1, r, q⟩ := h1
  exact ⟨I1.kIn, run_at F hr (hx σ) I1 r q⟩
/-- L.__init__(self, ..), L an own class that has ValueError's __init__ -/
theorem pe_veown {L : Addr} {mc : Value} (hg : Gl X x) (hm : X.mg x = some (.ref L)) (rd : ClX.CRead X.K L mc)
    (hf : PySem.W.findCls X.K (.ref L) mc "__init__" = some (.val (.builtin "ValueError.__init__"))) (ha : PA X (e :: es) t)
    (hst : starEach (e :: es) X.env = (false, eval e X.env) :: starEach es X.env := by rfl) (hpl : (backTo pos (starEach es X.env)).any (·.1) = false := by rfl) (hdb : (x == ("__debug__" : Str)) = false := by decide)
    (ht : eval (.Call (.Attribute (.Name x p1) "__init__" apos) (e :: es) [] pos) X.env = (do
      let ov ← eval (.Name x p1) X.env
      standAt apos.atName
      let (f, first) ← holding [ov] (getMethod ov "__init__" pl)
      callWith pos f first (backTo pos (starEach (e :: es) X.env)) (backToKw pos (keywordEach [] X.env))) := by rfl) :
    PE X (.Call (.Attribute (.Name x p1) "__init__" apos) (e :: es) [] pos) (tVeI X.K t) := by
  refine ⟨fun pins s σ H Q I h => ?_⟩
  refine PySem.W.methodCall_KW (pl := pl) (ld_glob I hg hm ?_ hdb) ht
  refine PySem.W.method_cls I.kIn rd.ga ?_
  refine PySem.W.cls_value I.kIn rd.rd hf (by decide +kernel) ?_
  have I' := I.tok (s.toks + 1)
  refine PyProof.Rows.callWith_method1 (thn (ha.run pos pins _ σ H _ I' h) fun us s1 h1 => ?_) hst hpl
  obtain ⟨vs, H1, I1, r1, a, C, ws, ev, hl, T, ea, q⟩ := h1
  subst ev
  cases r1 with
  | @cons _ u0 _ ur ra rw' =>
    obtain rfl : u0 = Value.ref a := ra
    have hlen : ur.length ≤ sizeLine := by
      rw [← Paired.length rw', sizeLine_eq]
      omega
    exact oinit_ok T I1 ea hlen fun s' J => ⟨.non, H1, J, rfl, q⟩
end
/-! ### list.count over flat items -/
def rCntF (K : PySem.W.Frag) : V → List V → Hp → VK → Prop := fun x xs H Q => ∃ (p : Addr) (ys : List V) (y : V), x = .ref p ∧ xs = [y] ∧ SqL K H p ys ∧ flatV y = true ∧ ys.all flatV = true ∧ Q (.int (ys.countP fun z => eqV z y : Nat)) H
theorem cnt_eqU {y : V} : ∀ {ys : List V} {us : List Value}, Vals ys us → ys.all flatV = true → us.countP (eqU y) = ys.countP fun z => eqV z y
  | _, _, .nil, _ => rfl
  | _, _, .cons (a := z) (l₁ := zs) r t, h => by
    rw [List.all_cons, Bool.and_eq_true] at h
    rw [List.countP_cons, List.countP_cons, cnt_eqU t h.2, eqU_of r h.1]
theorem mt_countF {X : Cx} : MtR X "list.count" (rCntF X.K) := by
  intro pins s σ H x xs v us Q I rx rxs h
  obtain ⟨p, ys, y, rfl, rfl, hs, fy, fys, q⟩ := h
  cases rx
  obtain ⟨u, rfl, ru⟩ := rxs.one
  obtain ⟨its, rv, ⟨⟨cls, dd, data, sl⟩, n, ho, hc, hdn, hd⟩, hlen⟩ := I.list hs
  simp only at hc hd
  subst hc hd
  refine call_meets PySem.F.slot_list_count ⟨_, ho, rfl⟩ PySem.F.entry_list_count (PySem.F.args_list_count_2 _ _)
    (SeqAt.list_countAt p its.toArray n dd sl u (eqU y)) ⟨ho, fun u' hu' => mem_eqAt ru fy rv fys u' (by simpa using hu'), ?_⟩
  have ec : its.toArray.toList.countP (eqU y) = ys.countP fun z => eqV z y := by
    have e := cnt_eqU (y := y) rv fys
    simpa using e
  refine ⟨.int (ys.countP fun z => eqV z y : Nat), H, I.tok _, ⟨s.toks, ?_⟩, q⟩
  show Value.int ((its.toArray.toList.countP (eqU y) : Nat) : Int) s.toks = Value.int ((ys.countP fun z => eqV z y : Nat) : Int) s.toks
  rw [ec]
/-! ### the caught error e, whatever its class: e.f, isinstance(e, c) -/
/-- e.f -/
def tErr (K : PySem.W.Frag) (a : Addr) (cls : Value) (d : Option Addr) (n : Str) (te : TE) : TE := fun σ H Q => te σ H fun x H1 =>
  ∃ (D dd : Addr) (fs : List (Str × V)) (v : V), x = .ref a ∧ cls = .ref D ∧ XfC K D ∧ PySem.W.findIn K (.ref D) n = some none ∧ d = some dd ∧ H1 dd = some (.xd fs) ∧ fs.lookup n = some v ∧ Q v H1
/-- isinstance(e, c) -/
def rErrIs (K : PySem.W.Frag) (a : Addr) (cls : Value) (d : Option Addr) : List V → Hp → VK → Prop := fun xs H Q =>
  ∃ (D dd C : Addr) (fs : List (Str × V)) (b : Bool), xs = [.ref a, .ref C] ∧ cls = .ref D ∧ ExcC K D ∧ d = some dd ∧ H dd = some (.xd fs) ∧ PySem.W.kitOne K (.ref D) (.ref C) = some b ∧ Q (.bl b) H
section
variable {X : Cx} {a : Addr} {oe : Obj} {cls : Value} {d : Option Addr} {pn : List (Addr × Obj)}
/-- the error stands there, with its dict -/
theorem err_at {pins : List (Addr × Obj)} {σ : L2.St} {H : Hp} {s : Shared} {D dd : Addr} {fs : List (Str × V)} (hz : Zc cls d oe) (hf : ∃ vs, oe.data = .fields vs) (I : Inv (X.suite a ((a, oe) :: pn)) pins σ H s)
    (ec : cls = .ref D) (ed : d = some dd) (ea : H dd = some (.xd fs)) :
    ∃ (od : Obj) (mA : Str → Option Value), PySem.W.InstAt s.heap a oe D (some od) ∧ (∀ n, PySem.W.lookIn n od = some (mA n)) ∧ ∀ g, RelO (fs.lookup g) (mA g) := by
  subst ec ed
  obtain ⟨hget, _⟩ := I.pin (a, oe) (List.mem_append_left _ List.mem_cons_self)
  obtain ⟨mA, hns, hr⟩ := show ObjOk X.prog X.w H s.heap dd (.xd fs) from I.hok dd _ ea
  obtain ⟨od, ho, hl⟩ := lookIn_ns hns
  obtain ⟨vs, hv⟩ := hf
  refine ⟨od, mA, ⟨hget, hz.1, ?_, ?_⟩, hl, hr⟩
  · unfold PySem.W.notCls
    rw [hv] <;> rfl
  · rw [hz.2]
    exact ho
theorem pe_err {e : Expr} {te : TE} {pos : Pos} {n : Str} (hz : Zc cls d oe) (hf : ∃ vs, oe.data = .fields vs) (he : PE (X.suite a ((a, oe) :: pn)) e te) (hb : attributeBase e n X.env (eval e X.env) = eval e X.env := by rfl) :
    PE (X.suite a ((a, oe) :: pn)) (.Attribute e n pos) (tErr X.K a cls d n te) := by
  refine ⟨fun pins s σ H Q I h => ?_⟩
  refine attr_of hb (thn (he.run pins s σ H _ I h) fun u s1 hh => ?_)
  obtain ⟨x, H1, I1, rx, D, dd, fs, v, ex, ec, T, hno, ed, ea, l, q⟩ := hh
  subst ex
  obtain rfl : u = Value.ref a := rx
  obtain ⟨od, mA, J, hl, hr⟩ := err_at hz hf I1 ec ed ea
  obtain ⟨w', hw, rw'⟩ := RelO.some_of (v := v) (o := mA n) (by rw [← l]; exact hr n)
  exact HandSPX.exc_get I1.kIn J T.ga T.gg T.exC (PySem.W.findObj_own T.hdC hno rfl (by rw [hl, hw])) (handed_of rw') ⟨v, H1, I1.tok _, rw', q⟩
theorem call_errIs (hz : Zc cls d oe) (hf : ∃ vs, oe.data = .fields vs) : CallR (X.suite a ((a, oe) :: pn)) (.builtin "isinstance") (rErrIs X.K a cls d) := by
  intro pins s σ H xs us Q I r h
  obtain ⟨D, dd, C, fs, b, rfl, ec, T, ed, ea, e, q⟩ := h
  obtain ⟨u1, u2, rfl, r1, r2⟩ := vals2 r
  obtain rfl : u1 = Value.ref a := r1
  obtain rfl : u2 = Value.ref C := r2
  obtain ⟨od, mA, J, hl, hr⟩ := err_at hz hf I ec ed ea
  have hcl : (PySem.W.clsIn X.K D).isSome = true := by
    obtain ⟨cd, hc, _⟩ := PySem.W.any_some T.hd
    rw [hc] <;> rfl
  exact PySem.W.kia_one (PySem.W.kitx_exc hcl T.hg T.hk T.hs T.ha T.hn T.ht T.hm) I.kIn J e (fun z => nomatch z) fun tk => ⟨.bl b, H, I.tok tk, rfl, q⟩
end
end MK
/-! What the top leaves, by names. -/
namespace MK
open PySem PySem.Spec PyProof.Rows L2
open He (ga ma)
/-! ### the text by places -/
def top (i : Nat) : Stmt := PySem.Challenge.pw_manyleaf_k24_contents_edited.main.body.getD i (.Pass ⟨0, 0, 0, 0⟩)
abbrev meth (i j : Nat) : Stmt := inClass (top i) j
/-- (the class or def, the method), qualified name, place -/
abbrev dfn (x : Str) (i : Nat) : He.DefD := ⟨(x, none), x, x, defArgs (top i), defBody (top i), defScope (top i), [], []⟩
abbrev dme (c m q : Str) (i j : Nat) (ds : List He.Dv) : He.DefD := ⟨(c, some m), m, q, defArgs (meth i j), defBody (meth i j), defScope (meth i j), ds, []⟩
def defs : List He.DefD := [
  dfn "is_whole" 13, dfn "is_of" 14, dfn "is_name" 15, dfn "is_text" 16, dfn "is_rank" 17, dfn "is_row" 21, dfn "is_cells" 22,
  dfn "_law_cell" 36, dfn "_law_stream" 37, dfn "_law_text" 38, dfn "_law_table" 39, dfn "_law_place" 41, dfn "_law_deed" 42, dfn "_law_made" 43, dfn "_law_rows_due" 44, dfn "_law_due" 45,
  dfn "_law_told" 46, dfn "_law_so" 47, dfn "law" 48,
  dme "EditError" "__init__" "EditError.__init__" 4 0 [.non],
  dme "Edit" "made" "Edit.made" 25 1 [], dme "Edit" "need" "Edit.need" 25 5 [.non], dme "Edit" "on" "Edit.on" 25 6 [.non],
  dme "PartEdit" "__init__" "PartEdit.__init__" 26 0 [], dme "PartEdit" "about" "PartEdit.about" 26 1 [], dme "PartEdit" "content_laid" "PartEdit.content_laid" 26 2 [],
  dme "Write" "__init__" "Write.__init__" 27 0 [], dme "Write" "told" "Write.told" 27 1 [], dme "Write" "refuse" "Write.refuse" 27 2 [], dme "Write" "deed" "Write.deed" 27 3 [],
  dme "Splice" "__init__" "Splice.__init__" 28 0 [], dme "Splice" "told" "Splice.told" 28 1 [], dme "Splice" "outcome" "Splice.outcome" 28 2 [], dme "Splice" "refuse" "Splice.refuse" 28 3 [], dme "Splice" "deed" "Splice.deed" 28 4 [],
  dme "TableEdit" "refuse" "TableEdit.refuse" 29 0 [], dme "TableEdit" "deed" "TableEdit.deed" 29 3 [],
  dme "Cell" "__init__" "Cell.__init__" 30 0 [], dme "Cell" "told" "Cell.told" 30 1 [], dme "Cell" "is_far" "Cell.is_far" 30 2 [], dme "Cell" "outcome" "Cell.outcome" 30 3 [],
  dme "AddRow" "__init__" "AddRow.__init__" 31 0 [], dme "AddRow" "told" "AddRow.told" 31 1 [], dme "AddRow" "is_far" "AddRow.is_far" 31 2 [], dme "AddRow" "outcome" "AddRow.outcome" 31 3 [],
  dme "CutRow" "__init__" "CutRow.__init__" 32 0 [], dme "CutRow" "told" "CutRow.told" 32 1 [], dme "CutRow" "is_far" "CutRow.is_far" 32 2 [], dme "CutRow" "outcome" "CutRow.outcome" 32 3 [],
  dme "Plain" "__init__" "Plain.__init__" 34 0 [], dme "Plain" "has" "Plain.has" 34 1 [], dme "Plain" "state" "Plain.state" 34 2 [], dme "Plain" "kind_of" "Plain.kind_of" 34 3 [],
  dme "Plain" "content_of" "Plain.content_of" 34 6 [], dme "Plain" "names" "Plain.names" 34 7 [], dme "Plain" "lay" "Plain.lay" 34 12 []]
/-! ### names -/
def gloA : List Str := ["LeafError", "EditError", "NoPart", "WrongKind", "Far", "TooLong", "is_whole", "is_of", "is_name", "is_text", "is_rank", "is_row", "is_cells"]
def gloB : List Str := ["Edit", "PartEdit", "Write", "Splice", "TableEdit", "Cell", "AddRow", "CutRow", "Plain"]
def gloC : List Str := ["_law_cell", "_law_stream", "_law_text", "_law_table", "_law_place", "_law_deed", "_law_made", "_law_rows_due", "_law_due", "_law_told", "_law_so", "law"]
def gloN : List Str := gloA ++ gloB ++ gloC
def freeN : List Str := ["isinstance", "int", "bool", "str", "len", "ord", "tuple", "all", "sorted", "range", "max", "list"]
def insN : List Str := ["Write", "Splice", "Cell", "AddRow", "CutRow", "Plain"]
def fldN : List Str := ["part", "text", "at", "size", "row", "column", "cells", "records"]
def errN : List Str := ["NoPart", "WrongKind", "Far", "TooLong"]
/-- class, method, the class that has it -/
def metE (c : Str) : List (Str × Str × Str) := [(c, "about", "PartEdit"), (c, "made", "Edit"), (c, "need", "Edit"), (c, "on", "Edit"), (c, "content_laid", "PartEdit"), (c, "told", c)]
def metT (c : Str) : List (Str × Str × Str) := [(c, "refuse", "TableEdit"), (c, "deed", "TableEdit"), (c, "is_far", c), (c, "outcome", c)]
def metW : List (Str × Str × Str) := [("Write", "refuse", "Write"), ("Write", "deed", "Write"), ("Splice", "refuse", "Splice"), ("Splice", "deed", "Splice"), ("Splice", "outcome", "Splice")]
def metP : List (Str × Str × Str) := [("Plain", "has", "Plain"), ("Plain", "state", "Plain"), ("Plain", "kind_of", "Plain"), ("Plain", "content_of", "Plain"), ("Plain", "names", "Plain"), ("Plain", "lay", "Plain")]
def metN : List (Str × Str × Str) := metE "Write" ++ metE "Splice" ++ metE "Cell" ++ metE "AddRow" ++ metE "CutRow" ++ metW ++ metT "Cell" ++ metT "AddRow" ++ metT "CutRow" ++ metP
/-- C.m read off the class C -/
def offN : List (Str × Str) := [("PartEdit", "PartEdit"), ("Write", "Write"), ("TableEdit", "PartEdit")]
/-! ### the facts -/
structure InsC (K : PySem.W.Frag) (c : Str) : Prop where
  cl : Cls K (ga K c)
  mkr : Mk K (ga K c) (ma K (ga K c) "__init__")
  nf : ∀ f, fldN.contains f = true → NoAttr K (ga K c) f
  ca : PySem.W.findIn K (.ref (ga K c)) "__class__" = some (some (.builtin "object.__class__"))
  cm : PySem.W.mroIn K (ga K c) (.type "object") = some true
structure ErrC (K : PySem.W.Frag) (c : Str) : Prop where
  ox : OexC K (ga K c)
  xf : XfC K (ga K c)
  ec : ExcC K (ga K c)
  iC : PySem.W.findIn K (.ref (ga K c)) "__init__" = some (some (.ref (ma K (ga K "EditError") "__init__")))
  nP : PySem.W.findIn K (.ref (ga K c)) "part" = some none
  nC : PySem.W.findIn K (.ref (ga K c)) "choice" = some none
  em : PySem.W.exmOne K (.ref (ga K c)) (.ref (ga K "EditError")) = some true
structure Txt (K : PySem.W.Frag) (mg : Str → Option Value) : Prop where
  glo : ∀ x, gloN.contains x = true → mg x = some (.ref (ga K x)) ∧ PySem.W.keepIn K (.ref (ga K x)) = true
  free : ∀ x, freeN.contains x = true → mg x = none
  letters : ∃ t, mg "LETTERS" = some (.str "abcdefghijklmnopqrstuvwxyz" t)
  figures : ∃ t, mg "FIGURES" = some (.str "0123456789" t)
  greatest : ∃ t, mg "GREATEST" = some (.int 1000000000 t)
  rows : ∃ t, mg "MOST_ROWS" = some (.int 6 t)
  columns : ∃ t, mg "MOST_COLUMNS" = some (.int 6 t)
  longest : ∃ t, mg "LONGEST" = some (.int 60 t)
  ins : ∀ c, insN.contains c = true → InsC K c
  met : ∀ p, metN.contains p = true → Meth K (ga K p.1) p.2.1 (ma K (ga K p.2.2) p.2.1)
  err : ∀ c, errN.contains c = true → ErrC K c
  tI : PySem.W.typeIn K (.ref (ma K (ga K "EditError") "__init__")) = some (.type "function")
  isE : ∀ c, (insN.take 5).contains c = true → PySem.W.kitOne K (.ref (ga K c)) (.ref (ga K "Edit")) = some true
  isX : ∀ c d, errN.contains c = true → errN.contains d = true → PySem.W.kitOne K (.ref (ga K c)) (.ref (ga K d)) = some (c == d)
  cn : PySem.W.specialIn K (.builtin "object.__class__") "__get__" = some (some (.builtin "getset_descriptor.__get__"))
  ct : PySem.W.takesIn K (.builtin "object.__class__") = some true
  rdL : ClX.CRead K (ga K "LeafError") (.type "type")
  fcL : PySem.W.findCls K (.ref (ga K "LeafError")) (.type "type") "__init__" = some (.val (.builtin "ValueError.__init__"))
  off : ∀ p, offN.contains p = true → ClX.CRead K (ga K p.1) (.type "type") ∧ PySem.W.findCls K (.ref (ga K p.1)) (.type "type") "__init__" = some (.val (.ref (ma K (ga K p.2) "__init__"))) ∧ PySem.W.keepIn K (.ref (ma K (ga K p.2) "__init__")) = true
section
variable {K : PySem.W.Frag} {mg : Str → Option Value}
theorem Txt.g (T : Txt K mg) (x : Str) (h : gloN.contains x = true := by decide +kernel) : mg x = some (.ref (ga K x)) := (T.glo x h).1
theorem Txt.k (T : Txt K mg) (x : Str) (h : gloN.contains x = true := by decide +kernel) : PySem.W.keepIn K (.ref (ga K x)) = true := (T.glo x h).2
theorem Txt.f (T : Txt K mg) (x : Str) (h : freeN.contains x = true := by decide +kernel) : mg x = none := T.free x h
theorem Txt.m (T : Txt K mg) (c m b : Str) (h : metN.contains (c, (m, b)) = true := by decide +kernel) : Meth K (ga K c) m (ma K (ga K b) m) := T.met (c, (m, b)) h
theorem Txt.i (T : Txt K mg) (c : Str) (h : insN.contains c = true := by decide +kernel) : InsC K c := T.ins c h
theorem Txt.x (T : Txt K mg) (c : Str) (h : errN.contains c = true := by decide +kernel) : ErrC K c := T.err c h
theorem InsC.n {c : Str} (I : InsC K c) (f : Str) (h : fldN.contains f = true := by decide +kernel) : NoAttr K (ga K c) f := I.nf f h
end
/-! ### the facts, looked at -/
def eqF (a b : Option (Option Value)) : Bool := decide (a = b)
theorem eqF_ok {a b : Option (Option Value)} (h : eqF a b = true) : a = b := of_decide_eq_true h
def nfF (K : PySem.W.Frag) (c : Str) (f : Str) : Bool := (He.Fa.noat c f).ok K
def insB (K : PySem.W.Frag) (c : Str) : Bool := (He.Fa.cls c).ok K && ((He.Fa.mkr c).ok K && (fldN.all (nfF K c) &&
  (eqF (PySem.W.findIn K (.ref (ga K c)) "__class__") (some (some (.builtin "object.__class__"))) && decide (PySem.W.mroIn K (ga K c) (.type "object") = some true))))
def oexB (K : PySem.W.Frag) (C : Addr) : Bool := (match K.lookup C with
  | some ⟨.type "type", _, .cls cd, sl⟩ => (match cd.mro, sl.toList with
    | .ref C' :: bm, [_, _, _, _, some (.builtin n), _] => C' == C && (n == "ValueError.__new__" && (!cd.hasDel && (cd.hasDict && PySem.HandSPX.refsVE bm)))
    | _, _ => false)
  | _ => false) && (eqF (PySem.W.findIn K (.ref C) "__setattr__") (some (some (.builtin "object.__setattr__"))) && (decide (PySem.W.subIn K (.ref C) (.type "BaseException") = some true) && (decide (PySem.W.typeIn K (.ref C) = some (.type "type")) && PySem.W.keepIn K (.ref C))))
def excB (K : PySem.W.Frag) (C : Addr) : Bool := eqF (PySem.W.findIn K (.ref C) "__getattribute__") (some (some (.builtin "BaseException.__getattribute__"))) && (eqF (PySem.W.findIn K (.ref C) "__getattr__") (some none) &&
  (eqF (PySem.W.findIn K (.ref C) "__class__") (some (some (.builtin "object.__class__"))) && decide (PySem.W.mroIn K C (.type "object") = some true)))
def errB (K : PySem.W.Frag) (c : Str) : Bool := oexB K (ga K c) && (xfB K (ga K c) && (excB K (ga K c) && (eqF (PySem.W.findIn K (.ref (ga K c)) "__init__") (some (some (.ref (ma K (ga K "EditError") "__init__")))) &&
  (eqF (PySem.W.findIn K (.ref (ga K c)) "part") (some none) && (eqF (PySem.W.findIn K (.ref (ga K c)) "choice") (some none) && decide (PySem.W.exmOne K (.ref (ga K c)) (.ref (ga K "EditError")) = some true))))))
def metB (K : PySem.W.Frag) (p : Str × Str × Str) : Bool := eqF (PySem.W.findIn K (.ref (ga K p.1)) p.2.1) (some (some (.ref (ma K (ga K p.2.2) p.2.1)))) && (PySem.W.isFn K (.ref (ma K (ga K p.2.2) p.2.1)) && PySem.W.keepIn K (.ref (ma K (ga K p.2.2) p.2.1)))
def rdB (K : PySem.W.Frag) (C : Addr) : Bool := PySem.W.readsIn K C (.type "type") && eqF (PySem.W.specialIn K (.ref C) "__getattribute__") (some (some (.builtin "type.__getattribute__")))
def fcB (r : Option PySem.W.CFound) (v : Value) : Bool := match r with
  | some (.val u) => decide (u = v)
  | _ => false
def offB (K : PySem.W.Frag) (p : Str × Str) : Bool := rdB K (ga K p.1) && (fcB (PySem.W.findCls K (.ref (ga K p.1)) (.type "type") "__init__") (.ref (ma K (ga K p.2) "__init__")) && PySem.W.keepIn K (.ref (ma K (ga K p.2) "__init__")))
def gloF (K : PySem.W.Frag) (x : Str) : Bool := (He.Fa.glo x).ok K && (He.Fa.keep x).ok K
def freeF (K : PySem.W.Frag) (x : Str) : Bool := (He.Fa.free x).ok K
def isEF (K : PySem.W.Frag) (c : Str) : Bool := decide (PySem.W.kitOne K (.ref (ga K c)) (.ref (ga K "Edit")) = some true)
def isXF (K : PySem.W.Frag) (c d : Str) : Bool := decide (PySem.W.kitOne K (.ref (ga K c)) (.ref (ga K d)) = some (c == d))
def facts : List (PySem.W.Frag → Bool) := [
  fun K => gloN.all (gloF K),
  fun K => freeN.all (freeF K),
  fun K => (He.Fa.str "LETTERS" "abcdefghijklmnopqrstuvwxyz").ok K,
  fun K => (He.Fa.str "FIGURES" "0123456789").ok K,
  fun K => (He.Fa.int "GREATEST" 1000000000).ok K,
  fun K => (He.Fa.int "MOST_ROWS" 6).ok K,
  fun K => (He.Fa.int "MOST_COLUMNS" 6).ok K,
  fun K => (He.Fa.int "LONGEST" 60).ok K,
  fun K => insN.all (insB K),
  fun K => metN.all (metB K),
  fun K => errN.all (errB K),
  fun K => decide (PySem.W.typeIn K (.ref (ma K (ga K "EditError") "__init__")) = some (.type "function")),
  fun K => (insN.take 5).all (isEF K),
  fun K => errN.all fun c => errN.all (isXF K c),
  fun K => eqF (PySem.W.specialIn K (.builtin "object.__class__") "__get__") (some (some (.builtin "getset_descriptor.__get__"))),
  fun K => decide (PySem.W.takesIn K (.builtin "object.__class__") = some true),
  fun K => rdB K (ga K "LeafError"),
  fun K => fcB (PySem.W.findCls K (.ref (ga K "LeafError")) (.type "type") "__init__") (.builtin "ValueError.__init__"),
  fun K => offN.all (offB K)]
def factsB (K : PySem.W.Frag) : Bool := facts.all fun f => f K
section
variable {K : PySem.W.Frag} {h : Heap} {mg : Str → Option Value}
theorem ab {a b : Bool} (h : (a && b) = true) : a = true ∧ b = true := Bool.and_eq_true_iff.mp h
theorem all_at {α : Type} [BEq α] [LawfulBEq α] {l : List α} {p : α → Bool} (h : l.all p = true) {x : α} (m : l.contains x = true) : p x = true := List.all_eq_true.mp h x (List.contains_iff_mem.mp m)
theorem ins_of {c : Str} (h : insB K c = true) : InsC K c := by
  obtain ⟨h1, h⟩ := ab h
  obtain ⟨h2, h⟩ := ab h
  obtain ⟨h3, h⟩ := ab h
  obtain ⟨h4, h5⟩ := ab h
  exact ⟨He.cls_ok h1, He.mkr_ok h2, fun f m => He.noat_ok (all_at (p := nfF K c) h3 m), eqF_ok h4, of_decide_eq_true h5⟩
theorem oex_of {C : Addr} (h : oexB K C = true) : OexC K C := by
  obtain ⟨h1, h⟩ := ab h
  obtain ⟨h2, h⟩ := ab h
  obtain ⟨h3, h⟩ := ab h
  obtain ⟨h4, h5⟩ := ab h
  refine ⟨?_, eqF_ok h2, of_decide_eq_true h3, of_decide_eq_true h4, h5⟩
  split at h1
  · rename_i dd cd sl ho
    split at h1
    · rename_i C' bm k0 k1 k2 k3 n k5 hm hs
      obtain ⟨e1, h1⟩ := ab h1
      obtain ⟨e2, h1⟩ := ab h1
      obtain ⟨e3, h1⟩ := ab h1
      obtain ⟨e4, e5⟩ := ab h1
      obtain rfl := beq_iff_eq.mp e1
      obtain rfl := beq_iff_eq.mp e2
      obtain ⟨nm, bs, mro, ns, qn, hd, sn, sub, abx, col, del⟩ := cd
      obtain ⟨l⟩ := sl
      dsimp only at hm hs e3 e4
      subst hm hs e4
      rw [Bool.not_eq_true'] at e3
      subst e3
      exact ⟨nm, qn, ns, bs, bm, sn, sub, abx, col, dd, k0, k1, k2, k3, k5, ho, e5⟩
    · cases h1
  · cases h1
theorem rd_of {C : Addr} (h : rdB K C = true) : ClX.CRead K C (.type "type") := by
  obtain ⟨h1, h2⟩ := ab h
  exact ⟨h1, eqF_ok h2⟩
theorem fc_of {r : Option PySem.W.CFound} {v : Value} (h : fcB r v = true) : r = some (.val v) := by
  unfold fcB at h
  split at h
  · rw [of_decide_eq_true h]
  · cases h
theorem fact_at (e : factsB K = true) (i : Nat) {f : PySem.W.Frag → Bool} (h : facts[i]? = some f := by rfl) : f K = true := List.all_eq_true.mp e f (List.mem_of_getElem? h)
theorem txt_of (X : K.In h) (G : h.Ns mainGlobals mg) (e : factsB K = true) : Txt K mg := by
  have cn := eqF_ok (fact_at e 14)
  have ct : PySem.W.takesIn K (.builtin "object.__class__") = some true := of_decide_eq_true (fact_at e 15)
  exact {
    glo := fun x m => by
      obtain ⟨h1, h2⟩ := ab (all_at (p := gloF K) (fact_at e 0) m)
      exact ⟨He.glo_ok X G h1, He.keep_ok h2⟩
    free := fun x m => He.free_ok X G (all_at (p := freeF K) (fact_at e 1) m)
    letters := He.str_ok X G (fact_at e 2)
    figures := He.str_ok X G (fact_at e 3)
    greatest := He.int_ok X G (fact_at e 4)
    rows := He.int_ok X G (fact_at e 5)
    columns := He.int_ok X G (fact_at e 6)
    longest := He.int_ok X G (fact_at e 7)
    ins := fun c m => ins_of (all_at (p := insB K) (fact_at e 8) m)
    met := fun p m => by
      obtain ⟨h1, h2⟩ := ab (all_at (p := metB K) (fact_at e 9) m)
      obtain ⟨h3, h4⟩ := ab h2
      exact ⟨eqF_ok h1, h3, h4⟩
    err := fun c m => by
      obtain ⟨h1, h⟩ := ab (all_at (p := errB K) (fact_at e 10) m)
      obtain ⟨h2, h⟩ := ab h
      obtain ⟨h3, h⟩ := ab h
      obtain ⟨h4, h⟩ := ab h
      obtain ⟨h5, h⟩ := ab h
      obtain ⟨h6, h7⟩ := ab h
      have xf := xfB_ok h2
      obtain ⟨g1, g⟩ := ab h3
      obtain ⟨g2, g⟩ := ab g
      obtain ⟨g3, g4⟩ := ab g
      exact ⟨oex_of h1, xf, ⟨eqF_ok g1, eqF_ok g2, xf.exC, xf.hdC, eqF_ok g3, cn, ct, of_decide_eq_true g4⟩, eqF_ok h4, eqF_ok h5, eqF_ok h6, of_decide_eq_true h7⟩
    tI := of_decide_eq_true (fact_at e 11)
    isE := fun c m => of_decide_eq_true (show isEF K c = true from all_at (p := isEF K) (fact_at e 12) m)
    isX := fun c d m n => of_decide_eq_true (show isXF K c d = true from all_at (p := isXF K c) (all_at (p := fun c => errN.all (isXF K c)) (fact_at e 13) m) n)
    cn := cn
    ct := ct
    rdL := rd_of (fact_at e 16)
    fcL := fc_of (fact_at e 17)
    off := fun p m => by
      obtain ⟨h1, h⟩ := ab (all_at (p := offB K) (fact_at e 18) m)
      obtain ⟨h2, h3⟩ := ab h
      exact ⟨rd_of h1, fc_of h2, h3⟩ }
end
/-! ### the Hook -/
def rootsX (g : Addr → Option Obj) : Nat → List Addr
  | 0 => [mainGlobals, cStatics]
  | n + 1 => He.growD g (rootsX g n)
abbrev AlX : Type := Bool × He.AlD
def obsX (K : PySem.W.Frag) : AlX := (factsB K, He.obsD [] defs K)
def obsXG (n : Nat) (g : Addr → Option Obj) : AlX := obsX (He.frG g (rootsX g n))
def hookX (n : Nat) : PySem.W.Hook where
  α := AlX
  obs := fun s => obsXG n s.heap.get?
  val := fun _ => (true, He.valD defs)
  says := fun _ h => ∃ K : PySem.W.Frag, K.In h ∧ factsB K = true ∧ He.SaysD [] defs K
  of := fun _ s e => ⟨He.frG s.heap.get? (rootsX s.heap.get? n), He.frG_in, congrArg (fun z : AlX => z.1) e, congrArg (fun z : AlX => z.2) e⟩
  keeps := fun _ _ _ z k => by
    obtain ⟨K, hK, c⟩ := z
    exact ⟨K, PySem.W.Frag.In.keeps hK k, c⟩
theorem obsXG_eq {n : Nat} {g : Addr → Option Obj} {s : Shared} (h : ∀ a, g a = s.heap.get? a) : obsXG n g = (hookX n).obs s := by
  have e : g = s.heap.get? := funext h
  rw [e] <;> rfl
end MK
namespace MK
open PySem PySem.Spec PyProof.Rows L2
abbrev R : PySem.W.OpenRow := PySem.W.OpenLaw.row PySem.Challenge.rw_manyleaf_k24_contents_edited
def looseA : List Str := ["_wall", "LeafError", "BadEdit", "EditError", "NoPart", "WrongKind", "Far", "TooLong", "LETTERS", "FIGURES", "GREATEST", "is_whole", "is_of", "is_name", "is_text", "is_rank", "MOST_ROWS", "MOST_COLUMNS", "is_row", "is_cells", "LONGEST"]
def looseB : List Str := ["Edit", "PartEdit", "Write", "Splice", "TableEdit", "Cell", "AddRow", "CutRow", "Plain", "_law_cell", "_law_stream", "_law_text", "_law_table", "_law_content", "_law_place", "_law_deed", "_law_made", "_law_rows_due", "_law_due", "_law_told", "_law_so"]
def loose : List Str := looseA ++ looseB
def ob (s : PySem.W.SharedT) : AlX := obsXG 5 (HandSHeadRun.getT s)
theorem ob_eq (s : PySem.W.SharedT) : ob s = (hookX 5).obs s.abs := obsXG_eq (HandSHeadRun.getT_eq s)
theorem run (w : World) : HandSHeadRun.RunEq R (PySem.W.view R.prog [48]) (hookX 5) ob 8000 loose w := by
  intro os
  kernel_rfl
end MK
/-! The data, how the heap bears them, and a def's rule in short. -/
namespace MK
open PySem PySem.Spec PyProof.Rows L2
open He (ga ma)
/-! ### a def of the text, in short -/
abbrev Fn (K : PySem.W.Frag) (d : He.DefD) : Prop := ∃ fd, FunD K d.name d.qual d.params d.body d.scope (d.dvs K) (d.kws K) (He.fAd K d.at_) fd
/-- how a def without defaults binds | with one default, all being given -/
abbrev BindN (d : He.DefD) (ps : List Str) : Prop := ∀ (kV doc pm : Value) (an : Option Addr) (cdv ct : Value) (us : List Value), us.length = ps.length → bindArgs (PySem.W.fnOf d.name d.qual d.params d.body d.scope .none kV doc pm an cdv ct) ⟨us, []⟩ = pure (ps.zip us)
abbrev BindD (d : He.DefD) (ps : List Str) : Prop := ∀ (T : Addr) (kV doc pm : Value) (an : Option Addr) (cdv ct : Value) (us its : List Value), us.length = ps.length → its.length = 1 →
  ∃ k, bindArgs (PySem.W.fnOf d.name d.qual d.params d.body d.scope (.ref T) kV doc pm an cdv ct) ⟨us, []⟩ = seqItems? (.ref T) >>= k ∧ k (some its.toArray) = pure (ps.zip (us ++ its.drop 1))
section
variable {P : Program} {w : World} {K : PySem.W.Frag} {mg : Str → Option Value} {base : Heap} {d : He.DefD} {N ps : List Str} {k : Nat} {sp : Sp}
theorem raw_nil {CX : CXT} {f : Addr} {fd : FuncData} (F : FnOk P w K mg base CX k f fd ps sp) (hb : Binds K fd ps []) : FnR P w K mg base CX k f sp :=
  (F.raw hb .nil).imp fun vs H Q E h => by
    rw [List.append_nil]
    exact h
theorem fnr (F : Fn K d) (S : FnScope N ps d.scope) (hb : BindN d ps) (len : ∀ vs H Q E, sp vs H Q E → vs.length = ps.length)
    (hbody : ∀ (cdv : Value) (A : Around) (outer : List Env) (s : Shared) (H : Hp) (vs : List V) (Q : VK) (E : XK), Room k (A.deeper (envOfC d.qual d.scope s.heap.objs.size (He.fAd K d.at_) cdv)) → sp vs H Q E →
      ∃ t, PSs (cxOf CX0 P w K mg base N d.qual d.scope (He.fAd K d.at_) cdv A outer s H E).nox d.body t ∧ t { nx := fun _ H' => Q .non H', rt := Q } (start N vs) H) (hd : d.dfl = [] := by rfl) :
    FnR P w K mg base CX0 (k + 1) (He.fAd K d.at_) sp := by
  obtain ⟨fd, F⟩ := F
  have e : d.dvs K = [] := by
    unfold He.DefD.dvs
    rw [hd] <;> rfl
  rw [e] at F
  refine raw_nil (F.ok S len fun cdv A outer s H vs Q E hr hsp => ?_) (F.bindsN hb)
  obtain ⟨t, h, q⟩ := hbody cdv A outer s H vs Q E hr hsp
  exact ⟨t, h.nox, q⟩
theorem fnrX (F : Fn K d) (S : FnScope N ps d.scope) (hb : BindN d ps) (len : ∀ vs H Q E, sp vs H Q E → vs.length = ps.length)
    (hbody : ∀ (cdv : Value) (A : Around) (outer : List Env) (s : Shared) (H : Hp) (vs : List V) (Q : VK) (E : XK), Room k (A.deeper (envOfC d.qual d.scope s.heap.objs.size (He.fAd K d.at_) cdv)) → sp vs H Q E →
      ∃ t, PSs (cxOf (L2.CX P w) P w K mg base N d.qual d.scope (He.fAd K d.at_) cdv A outer s H E) d.body t ∧ t { nx := fun _ H' => Q .non H', rt := Q } (start N vs) H) (hd : d.dfl = [] := by rfl) :
    FnR P w K mg base (L2.CX P w) (k + 1) (He.fAd K d.at_) sp := by
  obtain ⟨fd, F⟩ := F
  have e : d.dvs K = [] := by
    unfold He.DefD.dvs
    rw [hd] <;> rfl
  rw [e] at F
  exact raw_nil (F.ok S len hbody) (F.bindsN hb)
theorem binds_one (F : Fn K d) (hb : BindD d ps) (hd : d.dfl = [.non]) : ∃ fd, FunD K d.name d.qual d.params d.body d.scope (d.dvs K) (d.kws K) (He.fAd K d.at_) fd ∧ Binds K fd ps [] := by
  obtain ⟨fd, F⟩ := F
  have e : d.dvs K = [V.non] := by
    unfold He.DefD.dvs
    rw [hd] <;> rfl
  obtain ⟨ds, r, b⟩ := F.binds1 (ps := ps) ps.length 1 (by rw [e]; exact List.cons_ne_nil _ _) (by rw [e]; rfl) fun T kV doc pm an cdv ct us its h1 h2 => hb T kV doc pm an cdv ct us its h1 (by rw [h2, e]; rfl)
  rw [e] at r
  cases r
  exact ⟨fd, F, b⟩
theorem fnrD (F : Fn K d) (S : FnScope N ps d.scope) (hb : BindD d ps) (len : ∀ vs H Q E, sp vs H Q E → vs.length = ps.length)
    (hbody : ∀ (cdv : Value) (A : Around) (outer : List Env) (s : Shared) (H : Hp) (vs : List V) (Q : VK) (E : XK), Room k (A.deeper (envOfC d.qual d.scope s.heap.objs.size (He.fAd K d.at_) cdv)) → sp vs H Q E →
      ∃ t, PSs (cxOf (L2.CX P w) P w K mg base N d.qual d.scope (He.fAd K d.at_) cdv A outer s H E) d.body t ∧ t { nx := fun _ H' => Q .non H', rt := Q } (start N vs) H) (hd : d.dfl = [.non] := by rfl) :
    FnR P w K mg base (L2.CX P w) (k + 1) (He.fAd K d.at_) sp := by
  obtain ⟨fd, F, b⟩ := binds_one F hb hd
  exact raw_nil (F.ok S len hbody) b
end
/-- for c in a text -/
theorem for_str {x : Str} {g : TG} {tb : TS} {D : Ends} {σ : L2.St} {H : Hp} (Pv : Nat → L2.St → Hp → Prop) (h0 : Pv 0 σ H)
    (hs : ∀ i c σ H, x.cps[i]? = some c → Pv i σ H → g (.str ⟨#[c]⟩) σ H fun σ2 H2 => tb { D with nx := Pv (i + 1), ct := Pv (i + 1), bk := D.nx } σ2 H2) (hd : ∀ σ H, Pv x.cps.size σ H → D.nx σ H) :
    ∃ W : Nat → Nat → L2.St → Hp → Prop, (∃ m, W 0 m σ H) ∧ ∀ i m σ H, W i m σ H →
      ((Its x).stop i H ∧ D.nx σ H) ∨ ((Its x).go i H ∧ ∃ N : L2.St → Hp → Prop, (∀ σ' H', N σ' H' → ∃ m', m' < m ∧ W (i + 1) m' σ' H') ∧ ∀ v H', (Its x).yld i H v H' → g v σ H' fun σ2 H2 => tb { D with nx := N, ct := N, bk := D.nx } σ2 H2) := by
  refine ⟨fun i m σ H => m = x.cps.size - i ∧ i ≤ x.cps.size ∧ Pv i σ H, ⟨_, rfl, Nat.zero_le _, h0⟩, fun i m σ H hw => ?_⟩
  obtain ⟨rfl, hi, p⟩ := hw
  by_cases hlt : i < x.cps.size
  · refine .inr ⟨hlt, Pv (i + 1), fun σ' H' p' => ⟨x.cps.size - (i + 1), by omega, rfl, hlt, p'⟩, fun v H' y => ?_⟩
    obtain ⟨e, c, hc, ev⟩ := y
    subst e ev
    exact hs i c σ _ hc p
  · have e : i = x.cps.size := by omega
    subst e
    exact .inl ⟨Nat.le_refl _, hd σ H p⟩
/-! ### heaps -/
theorem same_upd {H H' : Hp} {p : Addr} {o : HO} (s : Same H H') (n : H p = none) : Same H (upd H' p o) := fun b u e => by
  rw [upd_ne (ne_of_none e n)]
  exact s b u e
theorem same_new {H : Hp} {p : Addr} {o : HO} (n : H p = none) : Same H (upd H p o) := same_upd (Same.refl H) n
theorem free_of {H H' : Hp} {p : Addr} (s : Same H H') (n : H' p = none) : H p = none := s.free n
/-- all but r stands as it stood -/
def But (r : Addr) (H H' : Hp) : Prop := ∀ b o, b ≠ r → H b = some o → H' b = some o
theorem But.of {r : Addr} {H H' : Hp} (s : Same H H') : But r H H' := fun b o _ e => s b o e
theorem But.trans {r : Addr} {H H1 H2 : Hp} (a : But r H H1) (b : But r H1 H2) : But r H H2 := fun c o n e => b c o n (a c o n e)
theorem But.upd {r : Addr} {H H' : Hp} {o : HO} (s : But r H H') : But r H (upd H' r o) := fun b u n e => by
  rw [upd_ne n]
  exact s b u n e
/-! ### lists of lists, paired -/
section
variable {α β : Type} {F G : α → β → Prop}
theorem pd_len : ∀ {xs : List α} {ys : List β}, Paired F xs ys → xs.length = ys.length := fun h => Paired.length h
theorem pd_mono (h : ∀ a b, F a b → G a b) : ∀ {xs : List α} {ys : List β}, Paired F xs ys → Paired G xs ys
  | _, _, .nil => .nil
  | _, _, .cons r t => .cons (h _ _ r) (pd_mono h t)
theorem pd_get : ∀ {xs : List α} {ys : List β} {i : Nat} {y : β}, Paired F xs ys → ys[i]? = some y → ∃ x, xs[i]? = some x ∧ F x y
  | _, _, _, _, .nil, e => by simp at e
  | _, _, 0, _, .cons r _, e => by
    simp at e
    subst e
    exact ⟨_, rfl, r⟩
  | _, _, i + 1, y, .cons _ t, e => by
    obtain ⟨x, h1, h2⟩ := pd_get (i := i) (y := y) t (by simpa using e)
    exact ⟨x, by simpa using h1, h2⟩
theorem pd_set {a : α} {b : β} (r : F a b) : ∀ {xs : List α} {ys : List β} (i : Nat), Paired F xs ys → Paired F (xs.set i a) (ys.set i b)
  | _, _, _, .nil => .nil
  | _, _, 0, .cons _ t => .cons r t
  | _, _, i + 1, .cons q t => .cons q (pd_set r i t)
theorem pd_app : ∀ {xs xs' : List α} {ys ys' : List β}, Paired F xs ys → Paired F xs' ys' → Paired F (xs ++ xs') (ys ++ ys')
  | _, _, _, _, .nil, s => s
  | _, _, _, _, .cons r t, s => .cons r (pd_app t s)
theorem pd_take : ∀ {xs : List α} {ys : List β} (n : Nat), Paired F xs ys → Paired F (xs.take n) (ys.take n)
  | _, _, 0, _ => .nil
  | _, _, _ + 1, .nil => .nil
  | _, _, n + 1, .cons r t => .cons r (pd_take n t)
theorem pd_drop : ∀ {xs : List α} {ys : List β} (n : Nat), Paired F xs ys → Paired F (xs.drop n) (ys.drop n)
  | _, _, 0, r => r
  | _, _, _ + 1, .nil => .nil
  | _, _, n + 1, .cons _ t => pd_drop n t
theorem pd_erase : ∀ {xs : List α} {ys : List β} (n : Nat), Paired F xs ys → Paired F (xs.eraseIdx n) (ys.eraseIdx n)
  | _, _, _, .nil => .nil
  | _, _, 0, .cons _ t => t
  | _, _, n + 1, .cons r t => .cons r (pd_erase n t)
theorem pd_cons {a : α} {xs : List α} {b : β} {ys : List β} (h : Paired F (a :: xs) (b :: ys)) : F a b ∧ Paired F xs ys := by
  cases h with
  | cons r t => exact ⟨r, t⟩
theorem pd_nil {xs : List α} (h : Paired F xs ([] : List β)) : xs = [] := by
  cases h
  rfl
end
/-! ### texts, rows, tables, contents -/
def TextOk (z : Str) : Prop := z.length ≤ 60 ∧ ∀ c ∈ z.cps.toList, 32 ≤ c ∧ c ≤ 126 ∧ c ≠ 37
abbrev Row := List Str
abbrev Tab := List Row
def RowOk (n : Nat) (r : Row) : Prop := r.length = n ∧ ∀ z ∈ r, TextOk z
structure TabOk (t : Tab) : Prop where
  n1 : 1 ≤ t.length
  n6 : t.length ≤ 6
  wide : ∃ n, 1 ≤ n ∧ n ≤ 6 ∧ ∀ r ∈ t, RowOk n r
inductive Cont where
  | txt (z : Str)
  | tab (t : Tab)
def Cont.Ok : Cont → Prop
  | .txt z => TextOk z
  | .tab t => TabOk t
def RowAt (H : Hp) (a : Addr) (r : Row) : Prop := H a = some (.tup (r.map V.str))
def TabAt (H : Hp) (a : Addr) (t : Tab) : Prop := ∃ ps : List Addr, H a = some (.tup (ps.map V.ref)) ∧ Paired (RowAt H) ps t
def ContAt (H : Hp) (v : V) : Cont → Prop
  | .txt z => v = .str z
  | .tab t => ∃ a, v = .ref a ∧ TabAt H a t
structure Rec where
  kind : Str
  parent : Str
  rank : Int
  cont : Cont
def RecAt (H : Hp) (a : Addr) (R : Rec) : Prop := ∃ c, H a = some (.tup [.str R.kind, .str R.parent, .int R.rank, c]) ∧ ContAt H c R.cont
def Rec.Ok (R : Rec) : Prop := match R.cont with
  | .txt z => R.kind ≠ "table" ∧ TextOk z
  | .tab t => R.kind = "table" ∧ TabOk t
abbrev Recs := List (Str × Rec)
def RecsAt (H : Hp) (kvs : List (Key × V)) (l : Recs) : Prop := Paired (fun (p : Key × V) (q : Str × Rec) => p.1 = .inr q.1 ∧ ∃ a, p.2 = .ref a ∧ RecAt H a q.2) kvs l
/-- tuples stay -/
def Tups (H H' : Hp) : Prop := ∀ a xs, H a = some (.tup xs) → H' a = some (.tup xs)
theorem Tups.of {H H' : Hp} (s : Same H H') : Tups H H' := fun a xs e => s a _ e
theorem Tups.but {H H' : Hp} {r : Addr} {kvs : List (Key × V)} (s : But r H H') (e : H r = some (.dK kvs)) : Tups H H' := fun a xs q => s a _ (ne_of q e (by intro z; cases z)) q
section
variable {H H' : Hp} (m : Tups H H')
include m
theorem RowAt.mono {a : Addr} {r : Row} (h : RowAt H a r) : RowAt H' a r := m _ _ h
theorem TabAt.mono {a : Addr} {t : Tab} (h : TabAt H a t) : TabAt H' a t := by
  obtain ⟨ps, h1, h2⟩ := h
  exact ⟨ps, m _ _ h1, pd_mono (fun a b z => RowAt.mono m z) h2⟩
theorem ContAt.mono {v : V} {c : Cont} (h : ContAt H v c) : ContAt H' v c := by
  cases c with
  | txt z => exact h
  | tab t =>
    obtain ⟨a, e, q⟩ := h
    exact ⟨a, e, q.mono m⟩
theorem RecAt.mono {a : Addr} {R : Rec} (h : RecAt H a R) : RecAt H' a R := by
  obtain ⟨c, h1, h2⟩ := h
  exact ⟨c, m _ _ h1, h2.mono m⟩
theorem RecsAt.mono {kvs : List (Key × V)} {l : Recs} (h : RecsAt H kvs l) : RecsAt H' kvs l := by
  refine pd_mono (fun p q z => ?_) h
  obtain ⟨e, a, ea, ra⟩ := z
  exact ⟨e, a, ea, ra.mono m⟩
end
/-! ### records by name -/
def putR (l : Recs) (x : Str) (R : Rec) : Recs := if (l.any fun p => decide (p.1 = x)) = true then l.map (fun p => if p.1 = x then (p.1, R) else p) else l ++ [(x, R)]
theorem recs_get {H : Hp} {x : Str} : ∀ {kvs : List (Key × V)} {l : Recs}, RecsAt H kvs l → (match l.lookup x with
    | some R => ∃ a, valV kvs (.inr x) = some (.ref a) ∧ RecAt H a R
    | none => valV kvs (.inr x) = none)
  | _, _, .nil => rfl
  | _, _, .cons (a := p) (b := q) (l₁ := kvs) (l₂ := l) r t => by
    obtain ⟨p1, p2⟩ := p
    obtain ⟨q1, q2⟩ := q
    obtain ⟨e, a, ea, ra⟩ := r
    dsimp only at e ea ra
    subst e ea
    by_cases h : q1 = x
    · subst h
      have e1 : ((q1, q2) :: l).lookup q1 = some q2 := by simp [List.lookup]
      rw [e1]
      exact ⟨a, valV_pos (p := (Sum.inr q1, V.ref a)) rfl, ra⟩
    · have hb : (x == q1) = false := by simpa using fun z => h z.symm
      have e1 : ((q1, q2) :: l).lookup x = l.lookup x := by simp [List.lookup, hb]
      rw [e1, valV_neg (p := (Sum.inr q1, V.ref a)) (fun z => h (Sum.inr.inj z))]
      exact recs_get t
theorem recs_some {H : Hp} {x : Str} {kvs : List (Key × V)} {l : Recs} {R : Rec} (h : RecsAt H kvs l) (e : l.lookup x = some R) : ∃ a, valV kvs (.inr x) = some (.ref a) ∧ RecAt H a R := by
  have q := recs_get (x := x) h
  rw [e] at q
  exact q
theorem recs_none {H : Hp} {x : Str} {kvs : List (Key × V)} {l : Recs} (h : RecsAt H kvs l) (e : l.lookup x = none) : valV kvs (.inr x) = none := by
  have q := recs_get (x := x) h
  rw [e] at q
  exact q
theorem recs_any {H : Hp} {x : Str} : ∀ {kvs : List (Key × V)} {l : Recs}, RecsAt H kvs l → (kvs.any fun kv => decide (kv.1 = Sum.inr x)) = l.any fun p => decide (p.1 = x)
  | _, _, .nil => rfl
  | _, _, .cons (a := p) (b := q) r t => by
    obtain ⟨e, _⟩ := r
    rw [List.any_cons, List.any_cons, recs_any t, e]
    have e2 : decide ((Sum.inr q.1 : Key) = Sum.inr x) = decide (q.1 = x) := key_rr _ _
    rw [e2]
theorem recs_put {H : Hp} {x : Str} {kvs : List (Key × V)} {l : Recs} {R : Rec} {a : Addr} (h : RecsAt H kvs l) (ra : RecAt H a R) : RecsAt H (putK kvs (.inr x) (.ref a)) (putR l x R) := by
  unfold putK putR
  rw [recs_any h]
  by_cases c : (l.any fun p => decide (p.1 = x)) = true
  · rw [if_pos c, if_pos c]
    clear c
    induction h with
    | nil => exact .nil
    | @cons p q kvs l r t ih =>
      refine .cons ?_ ih
      obtain ⟨e, b, eb, rb⟩ := r
      by_cases hx : q.1 = x
      · dsimp only
        rw [if_pos (show p.1 = Sum.inr x by rw [e, hx]), if_pos hx]
        exact ⟨e, a, rfl, ra⟩
      · dsimp only
        rw [if_neg (show ¬ p.1 = Sum.inr x by rw [e]; exact fun z => hx (Sum.inr.inj z)), if_neg hx]
        exact ⟨e, b, eb, rb⟩
  · rw [if_neg c, if_neg c]
    exact pd_app h (.cons ⟨rfl, a, rfl, ra⟩ .nil)
theorem recs_keys {H : Hp} : ∀ {kvs : List (Key × V)} {l : Recs}, RecsAt H kvs l → kvs.map (·.1) = (l.map (·.1)).map Sum.inr
  | _, _, .nil => rfl
  | _, _, .cons r t => by
    rw [List.map_cons, List.map_cons, List.map_cons, recs_keys t, r.1]
theorem names_put {l : Recs} {x : Str} {R R0 : Rec} (h : l.lookup x = some R0) : (putR l x R).map (·.1) = l.map (·.1) := by
  have c : (l.any fun p => decide (p.1 = x)) = true := by
    induction l with
    | nil => cases h
    | cons q l ih =>
      obtain ⟨q1, q2⟩ := q
      by_cases hx : q1 = x
      · simp [hx]
      · have hb : (x == q1) = false := by simpa using fun z => hx z.symm
        have e1 : ((q1, q2) :: l).lookup x = l.lookup x := by simp [List.lookup, hb]
        rw [e1] at h
        rw [List.any_cons, ih h, Bool.or_true]
  unfold putR
  rw [if_pos c, List.map_map]
  refine List.map_congr_left fun p _ => ?_
  show (if p.1 = x then (p.1, R) else p).1 = p.1
  split <;> rfl
theorem mem_put {l : Recs} {x : Str} {R : Rec} {p : Str × Rec} (h : p ∈ putR l x R) : p ∈ l ∨ p.2 = R := by
  unfold putR at h
  split at h
  · obtain ⟨q, hq, e⟩ := List.mem_map.mp h
    split at e
    · exact .inr (by rw [← e])
    · exact .inl (by rw [← e]; exact hq)
  · rcases List.mem_append.mp h with h | h
    · exact .inl h
    · exact .inr (by rw [List.mem_singleton.mp h])
def namesN : List Str := ["a", "a.b", "t"]
structure RecsOk (l : Recs) : Prop where
  names : l.map (·.1) = namesN
  ok : ∀ p ∈ l, p.2.Ok
theorem look_mem {x : Str} {R : Rec} : ∀ {l : Recs}, l.lookup x = some R → (x, R) ∈ l
  | [], h => by cases h
  | (q1, q2) :: l, h => by
    by_cases hx : q1 = x
    · subst hx
      have e1 : ((q1, q2) :: l).lookup q1 = some q2 := by simp [List.lookup]
      rw [e1] at h
      cases h
      exact List.mem_cons_self
    · have hb : (x == q1) = false := by simpa using fun z => hx z.symm
      have e1 : ((q1, q2) :: l).lookup x = l.lookup x := by simp [List.lookup, hb]
      rw [e1] at h
      exact List.mem_cons_of_mem _ (look_mem h)
theorem RecsOk.of {l : Recs} (o : RecsOk l) {x : Str} {R : Rec} (h : l.lookup x = some R) : R.Ok := o.ok _ (look_mem h)
theorem RecsOk.put {l : Recs} (o : RecsOk l) {x : Str} {R R0 : Rec} (h : l.lookup x = some R0) (r : R.Ok) : RecsOk (putR l x R) :=
  ⟨(names_put h).trans o.names, fun p hp => (mem_put hp).elim (fun z => o.ok p z) fun z => by rw [z]; exact r⟩
/-! ### what == compares -/
def rowD (r : Row) : PyData := .tuple (r.map PyData.str)
def tabD (t : Tab) : PyData := .tuple (t.map rowD)
def Cont.d : Cont → PyData
  | .txt z => .str z
  | .tab t => tabD t
def Rec.d (R : Rec) : PyData := .tuple [.str R.kind, .str R.parent, .int R.rank, R.cont.d]
section
variable {K : PySem.W.Frag} {H : Hp}
theorem dp_strs : ∀ r : Row, DpAll K H (r.map V.str) (r.map PyData.str)
  | [] => .nil
  | z :: r => .cons (.str z) (dp_strs r)
theorem RowAt.dp {a : Addr} {r : Row} (h : RowAt H a r) : Dp K H (.ref a) (rowD r) := .tup (SqT.of h) (dp_strs r)
theorem dp_rows : ∀ {ps : List Addr} {t : Tab}, Paired (RowAt H) ps t → DpAll K H (ps.map V.ref) (t.map rowD)
  | _, _, .nil => .nil
  | _, _, .cons r t => .cons r.dp (dp_rows t)
theorem TabAt.dp {a : Addr} {t : Tab} (h : TabAt H a t) : Dp K H (.ref a) (tabD t) := by
  obtain ⟨ps, h1, h2⟩ := h
  exact .tup (SqT.of h1) (dp_rows h2)
theorem ContAt.dp {v : V} {c : Cont} (h : ContAt H v c) : Dp K H v c.d := by
  cases c with
  | txt z =>
    have e : v = .str z := h
    subst e
    exact .str z
  | tab t =>
    obtain ⟨a, e, q⟩ := h
    subst e
    exact q.dp
theorem RecAt.dp {a : Addr} {R : Rec} (h : RecAt H a R) : Dp K H (.ref a) R.d := by
  obtain ⟨c, h1, h2⟩ := h
  exact .tup (SqT.of h1) (.cons (.str _) (.cons (.str _) (.cons (.int _) (.cons h2.dp .nil))))
end
end MK
/-! is_whole, is_rank, is_text, is_of, is_name, is_row, is_cells: True of what is right. -/
namespace MK
open PySem PySem.Spec PyProof.Rows L2
open He (ga ma)
/-- of such a thing: True, all stays -/
def spYes (Y : V → Hp → Prop) : Sp := fun vs H Q _ => ∃ v, vs = [v] ∧ Y v H ∧ Q (.bl true) H
/-- the same, new objects may have come -/
def spYesN (Y : V → Hp → Prop) : Sp := fun vs H Q _ => ∃ v, vs = [v] ∧ Y v H ∧ ∀ H', Same H H' → Q (.bl true) H'
def isInt (v : V) : Prop := ∃ i : Int, v = .int i
def isRank (v : V) : Prop := ∃ i : Int, v = .int i ∧ 0 ≤ i ∧ i ≤ 1000000000
def isText (v : V) : Prop := ∃ z, v = .str z ∧ TextOk z
def partN : List Str := ["a", "a.b", "t", "ab"]
def isPart (v : V) : Prop := ∃ z, v = .str z ∧ z ∈ partN
def spOf : Sp := fun vs H Q _ => ∃ (z s : Str) (n : Int), vs = [.str z, .str s, .int n] ∧ 1 ≤ z.length ∧ (z.length : Int) ≤ n ∧ z.length ≤ 60 ∧ (∀ c ∈ z.cps.toList, c ∈ s.cps.toList) ∧ Q (.bl true) H
def spRow : Sp := fun vs H Q _ => ∃ (a : Addr) (r : Row) (n : Nat), vs = [.ref a, .int n] ∧ RowAt H a r ∧ RowOk n r ∧ r.length ≤ 1000 ∧ ∀ H', Same H H' → Q (.bl true) H'
def isCells (v : V) (H : Hp) : Prop := ∃ (a : Addr) (r : Row) (n : Nat), v = .ref a ∧ RowAt H a r ∧ RowOk n r ∧ 1 ≤ n ∧ n ≤ 6
theorem if_yes {c : Bool} {A B : Prop} (hc : c = true) (h : A) : if c = true then A else B := by
  rw [if_pos hc]
  exact h
theorem if_not {c : Bool} {A B : Prop} (hc : c = false) (h : B) : if c = true then A else B := by
  rw [hc, if_neg Bool.false_ne_true]
  exact h
theorem size_ok {n : Nat} (h : n ≤ 1000) : n ≤ sizeLine := Nat.le_of_lt (small1000 h)
section
variable {P : Program} {w : World} {K : PySem.W.Frag} {mg : Str → Option Value} {base : Heap}
/-- isinstance(x, T), T a built-in class -/
theorem pe_isi {X : Cx} {e : Expr} {te : TE} {n : String} {x : Str} {p1 p2 p3 : Pos} (hi : Gl X "isinstance") (mi : X.mg "isinstance" = none) (hg : Gl X x) (hm : X.mg x = none) (hv : bootBuiltins x = some (.type n)) (he : PE X e te)
    (hn : x ≠ "__name__" := by decide) (hd : (x == ("__debug__" : Str)) = false := by decide) (h1 : starEach [e, .Name x p2] X.env = (false, eval e X.env) :: starEach [.Name x p2] X.env := by rfl) (h2 : (backTo p3 (starEach [.Name x p2] X.env)).any (·.1) = false := by rfl)
    (h3 : starEach [.Name x p2] X.env = (false, eval (.Name x p2) X.env) :: starEach [] X.env := by rfl) :
    PE X (.Call (.Name "isinstance" p1) [e, .Name x p2] [] p3) (tCB (rIsi X.K) (tCons te (tCons (tC (.ty n)) tNil))) :=
  pe_callB call_isi hi mi (by decide +kernel) (pa_cons he (pa_cons (pe_bltn (v := .ty n) hg hm hv rfl hn hd) pa_nil h3) h1) (by decide) (by decide) h1 h2
theorem scWhole : FnScope ["thing"] ["thing"] (dfn "is_whole" 13).scope := ⟨rfl, rfl, rfl, by decide +kernel, rfl, by decide +kernel, by decide +kernel⟩
theorem ok_whole (F : Fn K (dfn "is_whole" 13)) (T : Txt K mg) : FnR P w K mg base CX0 1 (ga K "is_whole") (spYes fun v _ => isInt v) := by
  refine fnr F scWhole (fun _ _ _ _ _ _ us hl => match us, hl with | [_], _ => rfl) (fun vs H Q E h => ?_) (fun cdv A outer s H vs Q E hr h => ?_)
  · obtain ⟨v, rfl, _⟩ := h
    rfl
  · obtain ⟨v, rfl, ⟨i, rfl⟩, k⟩ := h
    refine ⟨_, pss_one (ps_ret (pe_and (pe_isi (n := "int") rfl (T.f "isinstance") rfl (T.f "int") (by decide +kernel) (pv 0)) (pe_one (pe_not (pe_isi (n := "bool") rfl (T.f "isinstance") rfl (T.f "bool") (by decide +kernel) (pv 0)))))), ?_⟩
    refine ⟨_, rfl, _, _, _, _, true, rfl, .ty _, .base (.int i), kit_ty (by decide +kernel), true, rfl, iteT ?_⟩
    refine ⟨_, rfl, _, _, _, _, false, rfl, .ty _, .base (.int i), kit_ty (by decide +kernel), false, rfl, k⟩
theorem scRank : FnScope ["thing"] ["thing"] (dfn "is_rank" 17).scope := ⟨rfl, rfl, rfl, by decide +kernel, rfl, by decide +kernel, by decide +kernel⟩
theorem ok_rank (F : Fn K (dfn "is_rank" 17)) (T : Txt K mg) (G : FnR P w K mg base CX0 1 (ga K "is_whole") (spYes fun v _ => isInt v)) : FnR P w K mg base CX0 2 (ga K "is_rank") (spYes fun v _ => isRank v) := by
  refine fnr F scRank (fun _ _ _ _ _ _ us hl => match us, hl with | [_], _ => rfl) (fun vs H Q E h => ?_) (fun cdv A outer s H vs Q E hr h => ?_)
  · obtain ⟨v, rfl, _⟩ := h
    rfl
  · obtain ⟨v, rfl, ⟨i, rfl, h0, h1⟩, k⟩ := h
    obtain ⟨tk, gG⟩ := T.greatest
    refine ⟨_, pss_one (ps_ret (pe_and (pe_callP G hr rfl (T.g "is_whole") (T.k "is_whole") (fun _ => at0) (pa_cons (pv 0) pa_nil)) (pe_one (pe_chain op_le op_le pe_int (pv 0) (pe_glob (v := .int 1000000000) rfl gG ⟨_, rfl⟩))))), ?_⟩
    refine ⟨_, rfl, _, rfl, ⟨i, rfl⟩, true, rfl, iteT ?_⟩
    refine ⟨_, rfl, _, _, rfl, rfl, _, rfl, if_yes (decide_eq_true h0) ?_⟩
    refine ⟨_, _, rfl, rfl, ?_⟩
    show Q (.bl (decide (i ≤ 1000000000))) H
    rw [decide_eq_true h1]
    exact k
theorem scText : FnScope ["thing", "sign"] ["thing"] (dfn "is_text" 16).scope := ⟨rfl, rfl, rfl, by decide +kernel, rfl, by decide +kernel, by decide +kernel⟩
theorem one_lt {a b : Nat} : decide (([a] : List Nat) < [b]) = decide (a < b) := by
  have e : (([a] : List Nat) < [b]) ↔ a < b := by
    constructor
    · intro h
      cases h with
      | rel h => exact h
      | cons h => cases h
    · intro h
      exact List.Lex.rel h
  exact decide_eq_decide.mpr e
theorem ok_text (F : Fn K (dfn "is_text" 16)) (T : Txt K mg) : FnR P w K mg base CX0 1 (ga K "is_text") (spYes fun v _ => isText v) := by
  refine fnr F scText (fun _ _ _ _ _ _ us hl => match us, hl with | [_], _ => rfl) (fun vs H Q E h => ?_) (fun cdv A outer s H vs Q E hr h => ?_)
  · obtain ⟨v, rfl, _⟩ := h
    rfl
  · obtain ⟨v, rfl, ⟨z, rfl, hz, hc⟩, k⟩ := h
    refine ⟨_, pss_cons (ps_if (PW.pt (pw_or (pt_not (pt_val (pe_isi (n := "str") rfl (T.f "isinstance") rfl (T.f "str") (by decide +kernel) (pv 0)))) (pw_or1 (pt_cmpR op_gt (pe_callB call_len_str rfl (T.f "len") (by decide +kernel) (pa_cons (pv 0) pa_nil)) pe_int (nomark _)))))
        (pss_one (ps_ret pe_bl)) pss_nil)
      (pss_cons (ps_for PassesOwn.never rfl (pi_str (pv 0)) (pg_name (i := 1) scText.nd rfl (Or.inl rfl))
        (pss_one (ps_if (PW.pt (pw_or (pt_cmpR op_lt_str (pv 1) pe_str (nomark _)) (pw_or (pt_cmpR op_gt_str (pv 1) pe_str (nomark _)) (pw_or1 (pt_cmpR op_eq (pe_callB call_ord rfl (T.f "ord") (by decide +kernel) (pa_cons (pv 1) pa_nil)) pe_int (nomark _))))))
          (pss_one (ps_ret pe_bl)) pss_nil)))
      (pss_one (ps_ret pe_bl))), ?_⟩
    refine ⟨_, rfl, _, _, _, _, true, rfl, .ty _, .base (.str z), kit_ty (by decide +kernel), true, rfl, iteF ?_⟩
    refine ⟨_, rfl, _, rfl, size_ok (Nat.le_trans hz (by decide)), _, _, rfl, rfl, _, rfl, if_not (decide_eq_false (by omega)) ?_⟩
    refine ⟨_, rfl, _, rfl, for_str (fun i σ H' => H' = H ∧ ∃ v, σ = [some (.str z), v]) ⟨rfl, none, rfl⟩ ?_ ?_⟩
    · rintro i c σ H' hi ⟨rfl, v, rfl⟩
      have hm : c ∈ z.cps.toList := by
        rw [← Array.getElem?_toList] at hi
        exact List.mem_of_getElem? hi
      obtain ⟨h1, h2, h3⟩ := hc c hm
      refine ⟨_, rfl, _, _, rfl, rfl, _, rfl, if_not (by rw [show (⟨#[c]⟩ : Str).cps.toList = [c] from rfl, show ((" " : Str).cps.toList) = [32] by decide +kernel, one_lt]; exact decide_eq_false (by omega)) ?_⟩
      refine ⟨_, rfl, _, _, rfl, rfl, _, rfl, if_not (by rw [show (⟨#[c]⟩ : Str).cps.toList = [c] from rfl, show (("~" : Str).cps.toList) = [126] by decide +kernel, one_lt]; exact decide_eq_false (by omega)) ?_⟩
      refine ⟨_, rfl, _, rfl, rfl, rfl, _, rfl, if_not (decide_eq_false fun e => ?_) ?_⟩
      · have e2 : ((c : Nat) : Int) = 37 := V.int.inj e
        omega
      · exact ⟨rfl, _, rfl⟩
    · rintro σ H' ⟨rfl, v, rfl⟩
      exact k
theorem scOf : FnScope ["thing", "signs", "longest", "sign"] ["thing", "signs", "longest"] (dfn "is_of" 14).scope := ⟨rfl, rfl, rfl, by decide +kernel, rfl, by decide +kernel, by decide +kernel⟩
theorem ok_of (F : Fn K (dfn "is_of" 14)) (T : Txt K mg) : FnR P w K mg base CX0 1 (ga K "is_of") spOf := by
  refine fnr F scOf (fun _ _ _ _ _ _ us hl => match us, hl with | [_, _, _], _ => rfl) (fun vs H Q E h => ?_) (fun cdv A outer s H vs Q E hr h => ?_)
  · obtain ⟨z, y, n, rfl, _⟩ := h
    rfl
  · obtain ⟨z, y, n, rfl, h1, h2, h3, hc, k⟩ := h
    refine ⟨_, pss_cons (ps_if (PW.pt (pw_or (pt_not (pt_val (pe_isi (n := "str") rfl (T.f "isinstance") rfl (T.f "str") (by decide +kernel) (pv 0)))) (pw_or1 (pt_not (pt_chain op_le op_le pe_int (pe_callB call_len_str rfl (T.f "len") (by decide +kernel) (pa_cons (pv 0) pa_nil)) (pv 2))))))
        (pss_one (ps_ret pe_bl)) pss_nil)
      (pss_cons (ps_for PassesOwn.never rfl (pi_str (pv 0)) (pg_name (i := 3) scOf.nd rfl (Or.inl rfl))
        (pss_one (ps_if (pt_cmpR op_notIn_sign (pv 3) (pv 1) rfl) (pss_one (ps_ret pe_bl)) pss_nil)))
      (pss_one (ps_ret pe_bl))), ?_⟩
    refine ⟨_, rfl, _, _, _, _, true, rfl, .ty _, .base (.str z), kit_ty (by decide +kernel), true, rfl, iteF ?_⟩
    refine ⟨_, rfl, _, rfl, size_ok (Nat.le_trans h3 (by decide)), _, _, rfl, rfl, _, rfl, if_yes (decide_eq_true (by omega)) ?_⟩
    refine ⟨_, rfl, _, _, rfl, rfl, _, rfl, ?_⟩
    rw [decide_eq_true h2]
    refine iteF ?_
    refine ⟨_, rfl, _, rfl, for_str (fun i σ H' => H' = H ∧ ∃ v, σ = [some (.str z), some (.str y), some (.int n), v]) ⟨rfl, none, rfl⟩ ?_ ?_⟩
    · rintro i c σ H' hi ⟨rfl, v, rfl⟩
      have hm : c ∈ z.cps.toList := by
        rw [← Array.getElem?_toList] at hi
        exact List.mem_of_getElem? hi
      refine ⟨_, rfl, _, rfl, _, _, rfl, rfl, _, rfl, ?_⟩
      rw [decide_eq_true (hc c hm)]
      refine iteF ?_
      exact ⟨rfl, _, rfl⟩
    · rintro σ H' ⟨rfl, v, rfl⟩
      exact k
theorem scName : FnScope ["thing"] ["thing"] (dfn "is_name" 15).scope := ⟨rfl, rfl, rfl, by decide +kernel, rfl, by decide +kernel, by decide +kernel⟩
theorem part_ok {z : Str} (h : z ∈ partN) : 1 ≤ z.length ∧ z.length ≤ 3 ∧ ∀ c ∈ z.cps.toList, c ∈ (("abcdefghijklmnopqrstuvwxyz" : Str) ++ ("0123456789" : Str) ++ ("." : Str)).cps.toList := by
  have key : partN.all (fun z => decide (1 ≤ z.length) && (decide (z.length ≤ 3) && z.cps.toList.all fun c => decide (c ∈ (("abcdefghijklmnopqrstuvwxyz" : Str) ++ ("0123456789" : Str) ++ ("." : Str)).cps.toList))) = true := by decide +kernel
  have q := List.all_eq_true.mp key z h
  obtain ⟨q1, q⟩ := ab q
  obtain ⟨q2, q3⟩ := ab q
  exact ⟨of_decide_eq_true q1, of_decide_eq_true q2, fun c hc => of_decide_eq_true (List.all_eq_true.mp q3 c hc)⟩
theorem ok_name (F : Fn K (dfn "is_name" 15)) (T : Txt K mg) (G : FnR P w K mg base CX0 1 (ga K "is_of") spOf) : FnR P w K mg base CX0 2 (ga K "is_name") (spYes fun v _ => isPart v) := by
  refine fnr F scName (fun _ _ _ _ _ _ us hl => match us, hl with | [_], _ => rfl) (fun vs H Q E h => ?_) (fun cdv A outer s H vs Q E hr h => ?_)
  · obtain ⟨v, rfl, _⟩ := h
    rfl
  · obtain ⟨v, rfl, ⟨z, rfl, hz⟩, k⟩ := h
    obtain ⟨t1, g1⟩ := T.letters
    obtain ⟨t2, g2⟩ := T.figures
    obtain ⟨p1, p2, p3⟩ := part_ok hz
    refine ⟨_, pss_one (ps_ret (pe_callP G hr rfl (T.g "is_of") (T.k "is_of") (fun _ => at0) (pa_cons (pv 0) (pa_cons (pe_op op_add_str (pe_op op_add_str (pe_glob (v := .str "abcdefghijklmnopqrstuvwxyz") rfl g1 ⟨_, rfl⟩) (pe_glob (v := .str "0123456789") rfl g2 ⟨_, rfl⟩)) pe_str) (pa_cons pe_int pa_nil))))), ?_⟩
    refine ⟨_, rfl, _, _, rfl, rfl, by decide +kernel, _, _, rfl, rfl, by decide +kernel, z, _, 12, rfl, p1, by omega, by omega, p3, k⟩
end
end MK
/-! is_row, is_cells. -/
namespace MK
open PySem PySem.Spec PyProof.Rows L2
open He (ga ma)
theorem rep_snoc (i : Nat) : (List.replicate i true).map V.bl ++ [V.bl true] = (List.replicate (i + 1) true).map V.bl := by
  rw [List.replicate_succ', List.map_append]
  rfl
theorem rep_all (i : Nat) : (List.replicate i true).all id = true := by
  rw [List.all_eq_true]
  intro x hx
  rw [List.eq_of_mem_replicate hx] <;> rfl
section
variable {P : Program} {w : World} {K : PySem.W.Frag} {mg : Str → Option Value} {base : Heap}
theorem scRow : FnScope ["thing", "wide", "cell"] ["thing", "wide"] (dfn "is_row" 21).scope := ⟨rfl, rfl, rfl, by decide +kernel, rfl, by decide +kernel, by decide +kernel⟩
theorem ok_row (F : Fn K (dfn "is_row" 21)) (T : Txt K mg) (G : FnR P w K mg base CX0 1 (ga K "is_text") (spYes fun v _ => isText v)) : FnR P w K mg base CX0 2 (ga K "is_row") spRow := by
  refine fnr F scRow (fun _ _ _ _ _ _ us hl => match us, hl with | [_, _], _ => rfl) (fun vs H Q E h => ?_) (fun cdv A outer s H vs Q E hr h => ?_)
  · obtain ⟨a, r, n, rfl, _⟩ := h
    rfl
  · obtain ⟨a, r, n, rfl, ha, ⟨hl, hz⟩, hlen, k⟩ := h
    refine ⟨_, pss_cons (ps_if (PW.pt (pw_or (pt_not (pt_val (pe_isi (n := "tuple") rfl (T.f "isinstance") rfl (T.f "tuple") (by decide +kernel) (pv 0)))) (pw_or1 (pt_cmpR op_ne (pe_callB call_len_seq rfl (T.f "len") (by decide +kernel) (pa_cons (pv 0) pa_nil)) (pv 1) (nomark _)))))
        (pss_one (ps_ret pe_bl)) pss_nil)
      (pss_one (ps_ret (pe_callB (cr_all rfl) rfl (T.f "all") (by decide +kernel) (pa_cons
        (pe_lc (own := [("cell", 2)]) (g := gName 2) (tt := tYes) rfl scRow.nd (pi_tup (pv 0)) (blkOk_by (own := [("cell", 2)]) (N := ["thing", "wide", "cell"]) (sc := (dfn "is_row" 21).scope) (by decide +kernel)) (fun _ _ _ _ _ => pg_name (i := 2) scRow.nd rfl (Or.inl rfl)) (fun _ _ _ _ _ => pts_nil)
          (fun _ _ _ _ _ => pe_callP G hr rfl (T.g "is_text") (T.k "is_text") (fun _ => at0) (pa_cons (pv 2) pa_nil))) pa_nil)))), ?_⟩
    refine ⟨_, rfl, _, _, _, _, true, rfl, .ty _, .base (.tup ha), kit_ty (by decide +kernel), true, rfl, iteF ?_⟩
    refine ⟨_, rfl, a, _, rfl, .inr (SqT.of ha), _, rfl, rfl, _, rfl, if_not ?_ ?_⟩
    · rw [List.length_map, hl]
      simp
    refine ⟨_, rfl, a, rfl, ⟨_, SqT.of ha⟩, fun D nD => ?_⟩
    have hu : ∀ o, (upd H D o) a = some (.tup (r.map V.str)) := fun o => by
      rw [upd_ne (ne_of_none ha nD)]
      exact ha
    refine lc_tup (K := K) (a := a) (xs := r.map V.str) (fun i H' => H' = upd H D (.lst ((List.replicate i true).map V.bl))) rfl (fun i H' _ e => by rw [e]; exact SqT.of (hu _)) ?_ ?_
    · rintro i x H' hi rfl
      rw [List.getElem?_map] at hi
      cases e : r[i]? with
      | none =>
        rw [e] at hi
        cases hi
      | some z =>
        rw [e] at hi
        cases hi
        have hi2 : i < r.length := (List.getElem?_eq_some_iff.mp e).1
        refine ⟨rfl, ?_⟩
        dsimp only [tYes]
        refine iteT ?_
        refine ⟨_, rfl, _, rfl, ⟨z, rfl, hz z (List.mem_of_getElem? e)⟩, _, upd_same, ?_, ?_⟩
        · rw [List.length_map, List.length_replicate]
          exact small1000 (by omega)
        · rw [upd_upd, rep_snoc]
    · rintro H' rfl
      refine ⟨D, _, rfl, SqL.of upd_same, ?_⟩
      show Q (.bl ((List.replicate (r.map V.str).length true).all id)) _
      rw [rep_all]
      exact k _ (same_new nD)
theorem scCells : FnScope ["thing"] ["thing"] (dfn "is_cells" 22).scope := ⟨rfl, rfl, rfl, by decide +kernel, rfl, by decide +kernel, by decide +kernel⟩
theorem ok_cells (F : Fn K (dfn "is_cells" 22)) (T : Txt K mg) (G : FnR P w K mg base CX0 2 (ga K "is_row") spRow) : FnR P w K mg base CX0 3 (ga K "is_cells") (spYesN isCells) := by
  refine fnr F scCells (fun _ _ _ _ _ _ us hl => match us, hl with | [_], _ => rfl) (fun vs H Q E h => ?_) (fun cdv A outer s H vs Q E hr h => ?_)
  · obtain ⟨v, rfl, _⟩ := h
    rfl
  · obtain ⟨v, rfl, ⟨a, r, n, rfl, ha, ho, h1, h6⟩, k⟩ := h
    obtain ⟨tc, gc⟩ := T.columns
    refine ⟨_, pss_one (ps_ret (pe_and (pe_isi (n := "tuple") rfl (T.f "isinstance") rfl (T.f "tuple") (by decide +kernel) (pv 0)) (pe_and (pe_chain op_le op_le pe_int (pe_callB call_len_seq rfl (T.f "len") (by decide +kernel) (pa_cons (pv 0) pa_nil)) (pe_glob (v := .int 6) rfl gc ⟨_, rfl⟩))
      (pe_one (pe_callP G hr rfl (T.g "is_row") (T.k "is_row") (fun _ => at0) (pa_cons (pv 0) (pa_cons (pe_callB call_len_seq rfl (T.f "len") (by decide +kernel) (pa_cons (pv 0) pa_nil)) pa_nil))))))), ?_⟩
    have hl : ((r.map V.str).length : Int) = (n : Int) := by rw [List.length_map, ho.1]
    refine ⟨_, rfl, _, _, _, _, true, rfl, .ty _, .base (.tup ha), kit_ty (by decide +kernel), true, rfl, iteT ?_⟩
    refine ⟨_, rfl, a, _, rfl, .inr (SqT.of ha), _, _, rfl, rfl, _, rfl, if_yes (decide_eq_true (by omega)) ?_⟩
    refine ⟨_, _, rfl, rfl, _, rfl, if_yes (decide_eq_true (by omega)) ?_⟩
    refine ⟨_, rfl, _, rfl, a, _, rfl, .inr (SqT.of ha), ?_⟩
    rw [hl]
    exact ⟨a, r, n, rfl, ha, ho, by rw [ho.1]; omega, k⟩
end
end MK
/-! Plain: has, state, kind_of, content_of, names, lay, its making. -/
namespace MK
open PySem PySem.Spec PyProof.Rows L2
open He (ga ma)
def PlainAt (K : PySem.W.Frag) (H : Hp) (p r : Addr) : Prop := ∃ dx, H p = some (.ins (ga K "Plain") dx [("records", .ref r)])
theorem lk_here {k : Str} {v : V} {r : List (Str × V)} : List.lookup k ((k, v) :: r) = some v := by
  have e : (k == k) = true := beq_self_eq_true k
  simp only [List.lookup, e]
theorem lk_past {k g : Str} {v : V} {r : List (Str × V)} (h : (k == g) = false) : List.lookup k ((g, v) :: r) = List.lookup k r := by
  simp only [List.lookup, h]
theorem put_here {f : Str} {v x : V} {r : List (Str × V)} : putF f v ((f, x) :: r) = (f, v) :: r := if_pos rfl
theorem put_past {f g : Str} {v x : V} {r : List (Str × V)} (h : ¬ g = f) : putF f v ((g, x) :: r) = (g, x) :: putF f v r := if_neg h
/-- a part of the plain book at p, its dict at r -/
def spHas (K : PySem.W.Frag) : Sp := fun vs H Q _ => ∃ (p r : Addr) (x : Str) (kvs : List (Key × V)), vs = [.ref p, .str x] ∧ PlainAt K H p r ∧ H r = some (.dK kvs) ∧ Q (.bl (valV kvs (.inr x)).isSome) H
def spState (K : PySem.W.Frag) : Sp := fun vs H Q _ => ∃ (p r : Addr) (x : Str) (kvs : List (Key × V)) (v : V), vs = [.ref p, .str x] ∧ PlainAt K H p r ∧ H r = some (.dK kvs) ∧ valV kvs (.inr x) = some v ∧ Q v H
def spAt (K : PySem.W.Frag) (j : Nat) : Sp := fun vs H Q _ => ∃ (p r a : Addr) (x : Str) (kvs : List (Key × V)) (xs : List V) (v : V), vs = [.ref p, .str x] ∧ PlainAt K H p r ∧ H r = some (.dK kvs) ∧ valV kvs (.inr x) = some (.ref a) ∧ H a = some (.tup xs) ∧ xs[j]? = some v ∧ Q v H
def spNames (K : PySem.W.Frag) : Sp := fun vs H Q _ => ∃ (p r : Addr) (kvs : List (Key × V)), vs = [.ref p] ∧ PlainAt K H p r ∧ H r = some (.dK kvs) ∧ kvs.map (·.1) = namesN.map Sum.inr ∧ ∀ q H', Same H H' → H' q = some (.lst (namesN.map V.str)) → Q (.ref q) H'
def spLay (K : PySem.W.Frag) : Sp := fun vs H Q _ => ∃ (p r : Addr) (x : Str) (kvs : List (Key × V)) (k pa ra c : V), vs = [.ref p, .str x, k, pa, ra, c] ∧ PlainAt K H p r ∧ H r = some (.dK kvs) ∧ kvs.length ≤ 1000 ∧
  ∀ t, H t = none → Q .non (upd (upd H t (.tup [k, pa, ra, c])) r (.dK (putK kvs (.inr x) (.ref t))))
def spPInit (K : PySem.W.Frag) : Sp := fun vs H Q _ => ∃ (p dx : Addr), vs = [.ref p] ∧ H p = some (.ins (ga K "Plain") dx []) ∧ ∀ r, H r = none → Q .non (upd (upd H r (.dK [])) p (.ins (ga K "Plain") dx [("records", .ref r)]))
theorem names_sorted {ys : List Str} (h : ys.Perm namesN) (s : sortedS ys = true) : ys = namesN := by
  have key : ∀ x ∈ namesN, ∀ y ∈ namesN, ∀ z ∈ namesN, sortedS [x, y, z] = true → [x, y, z].Nodup → [x, y, z] = namesN := by decide +kernel
  have hl : ys.length = 3 := h.length_eq
  have hn : ys.Nodup := h.nodup_iff.mpr (by decide +kernel)
  match ys, hl with
  | [x, y, z], _ => exact key x (h.mem_iff.mp (by simp)) y (h.mem_iff.mp (by simp)) z (h.mem_iff.mp (by simp)) s hn
section
variable {P : Program} {w : World} {K : PySem.W.Frag} {mg : Str → Option Value} {base : Heap}
theorem scHas : FnScope ["self", "name"] ["self", "name"] (dme "Plain" "has" "Plain.has" 34 1 []).scope := ⟨rfl, rfl, rfl, by decide +kernel, rfl, by decide +kernel, by decide +kernel⟩
theorem ok_has (F : Fn K (dme "Plain" "has" "Plain.has" 34 1 [])) (T : Txt K mg) : FnR P w K mg base CX0 1 (ma K (ga K "Plain") "has") (spHas K) := by
  refine fnr F scHas (fun _ _ _ _ _ _ us hl => match us, hl with | [_, _], _ => rfl) (fun vs H Q E h => ?_) (fun cdv A outer s H vs Q E hr h => ?_)
  · obtain ⟨p, r, x, kvs, rfl, _⟩ := h
    rfl
  · obtain ⟨p, r, x, kvs, rfl, ⟨dx, hp⟩, hd, k⟩ := h
    have C := T.i "Plain"
    refine ⟨_, pss_one (ps_ret (pe_cmp (pc_din (hu_of hr) (pv 1) (pe_fld (pv 0) rfl)) rfl)), ?_⟩
    exact ⟨_, rfl, _, rfl, p, _, dx, _, _, rfl, hp, C.cl, C.n "records", lk_here, r, _, rfl, DGet.k (k := Sum.inr x) hd, k⟩
theorem scState : FnScope ["self", "name"] ["self", "name"] (dme "Plain" "state" "Plain.state" 34 2 []).scope := ⟨rfl, rfl, rfl, by decide +kernel, rfl, by decide +kernel, by decide +kernel⟩
theorem ok_state (F : Fn K (dme "Plain" "state" "Plain.state" 34 2 [])) (T : Txt K mg) : FnR P w K mg base CX0 1 (ma K (ga K "Plain") "state") (spState K) := by
  refine fnr F scState (fun _ _ _ _ _ _ us hl => match us, hl with | [_, _], _ => rfl) (fun vs H Q E h => ?_) (fun cdv A outer s H vs Q E hr h => ?_)
  · obtain ⟨p, r, x, kvs, v, rfl, _⟩ := h
    rfl
  · obtain ⟨p, r, x, kvs, v, rfl, ⟨dx, hp⟩, hd, hv, k⟩ := h
    have C := T.i "Plain"
    refine ⟨_, pss_cons (ps_if (pt_cmp (pc_dnotin (hu_of hr) (pv 1) (pe_fld (pv 0) rfl)) rfl) pss_never pss_nil) (pss_one (ps_ret (pe_dget (hu_of hr) (pe_fld (pv 0) rfl) (pv 1) (fun _ _ => rfl)))), ?_⟩
    refine ⟨_, rfl, _, rfl, p, _, dx, _, _, rfl, hp, C.cl, C.n "records", lk_here, r, _, rfl, DGet.k (k := Sum.inr x) hd, _, rfl, ?_⟩
    rw [hv]
    refine iteF ?_
    refine ⟨_, rfl, p, _, dx, _, _, rfl, hp, C.cl, C.n "records", lk_here, _, rfl, r, v, rfl, ?_, k⟩
    have q := DGet.k (k := Sum.inr x) hd
    rw [hv] at q
    exact q
theorem scKind : FnScope ["self", "name"] ["self", "name"] (dme "Plain" "kind_of" "Plain.kind_of" 34 3 []).scope := ⟨rfl, rfl, rfl, by decide +kernel, rfl, by decide +kernel, by decide +kernel⟩
theorem scCont : FnScope ["self", "name"] ["self", "name"] (dme "Plain" "content_of" "Plain.content_of" 34 6 []).scope := ⟨rfl, rfl, rfl, by decide +kernel, rfl, by decide +kernel, by decide +kernel⟩
theorem ok_kind (F : Fn K (dme "Plain" "kind_of" "Plain.kind_of" 34 3 [])) (T : Txt K mg) (G : FnR P w K mg base CX0 1 (ma K (ga K "Plain") "state") (spState K)) : FnR P w K mg base CX0 2 (ma K (ga K "Plain") "kind_of") (spAt K 0) := by
  refine fnr F scKind (fun _ _ _ _ _ _ us hl => match us, hl with | [_, _], _ => rfl) (fun vs H Q E h => ?_) (fun cdv A outer s H vs Q E hr h => ?_)
  · obtain ⟨p, r, a, x, kvs, xs, v, rfl, _⟩ := h
    rfl
  · obtain ⟨p, r, a, x, kvs, xs, v, rfl, ⟨dx, hp⟩, hd, hv, ha, hx, k⟩ := h
    have C := T.i "Plain"
    refine ⟨_, pss_one (ps_ret (pe_ix ix_tup (pe_methR (pv 0) C.cl (T.m "Plain" "state" "Plain") G hr pass0 (pa_cons (pv 1) pa_nil)) pe_int (fun _ _ => rfl))), ?_⟩
    exact ⟨_, rfl, p, dx, _, rfl, hp, lk_past (by decide +kernel), _, rfl, p, r, x, kvs, _, rfl, ⟨dx, hp⟩, hd, hv, a, xs, _, v, rfl, rfl, SqT.of ha, atI_nat hx, k⟩
theorem ok_cont (F : Fn K (dme "Plain" "content_of" "Plain.content_of" 34 6 [])) (T : Txt K mg) (G : FnR P w K mg base CX0 1 (ma K (ga K "Plain") "state") (spState K)) : FnR P w K mg base CX0 2 (ma K (ga K "Plain") "content_of") (spAt K 3) := by
  refine fnr F scCont (fun _ _ _ _ _ _ us hl => match us, hl with | [_, _], _ => rfl) (fun vs H Q E h => ?_) (fun cdv A outer s H vs Q E hr h => ?_)
  · obtain ⟨p, r, a, x, kvs, xs, v, rfl, _⟩ := h
    rfl
  · obtain ⟨p, r, a, x, kvs, xs, v, rfl, ⟨dx, hp⟩, hd, hv, ha, hx, k⟩ := h
    have C := T.i "Plain"
    refine ⟨_, pss_one (ps_ret (pe_ix ix_tup (pe_methR (pv 0) C.cl (T.m "Plain" "state" "Plain") G hr pass0 (pa_cons (pv 1) pa_nil)) pe_int (fun _ _ => rfl))), ?_⟩
    exact ⟨_, rfl, p, dx, _, rfl, hp, lk_past (by decide +kernel), _, rfl, p, r, x, kvs, _, rfl, ⟨dx, hp⟩, hd, hv, a, xs, _, v, rfl, rfl, SqT.of ha, atI_nat hx, k⟩
theorem scNames : FnScope ["self"] ["self"] (dme "Plain" "names" "Plain.names" 34 7 []).scope := ⟨rfl, rfl, rfl, by decide +kernel, rfl, by decide +kernel, by decide +kernel⟩
theorem ok_names (F : Fn K (dme "Plain" "names" "Plain.names" 34 7 [])) (T : Txt K mg) : FnR P w K mg base CX0 1 (ma K (ga K "Plain") "names") (spNames K) := by
  refine fnr F scNames (fun _ _ _ _ _ _ us hl => match us, hl with | [_], _ => rfl) (fun vs H Q E h => ?_) (fun cdv A outer s H vs Q E hr h => ?_)
  · obtain ⟨p, r, kvs, rfl, _⟩ := h
    rfl
  · obtain ⟨p, r, kvs, rfl, ⟨dx, hp⟩, hd, hk, k⟩ := h
    have C := T.i "Plain"
    refine ⟨_, pss_one (ps_ret (pe_callB (call_sortedD rfl) rfl (T.f "sorted") (by decide +kernel) (pa_cons (pe_fld (pv 0) rfl) pa_nil))), ?_⟩
    refine ⟨_, rfl, p, _, dx, _, _, rfl, hp, C.cl, C.n "records", lk_here, r, kvs, namesN, rfl, Rd.of hd, hk, by decide +kernel, fun ys q hy hs nq => ?_⟩
    have e := names_sorted hy hs
    subst e
    exact k q _ (same_new nq) upd_same
theorem scLay : FnScope ["self", "name", "kind", "parent", "rank", "content"] ["self", "name", "kind", "parent", "rank", "content"] (dme "Plain" "lay" "Plain.lay" 34 12 []).scope := ⟨rfl, rfl, rfl, by decide +kernel, rfl, by decide +kernel, by decide +kernel⟩
theorem ok_lay (F : Fn K (dme "Plain" "lay" "Plain.lay" 34 12 [])) (T : Txt K mg) : FnR P w K mg base CX0 1 (ma K (ga K "Plain") "lay") (spLay K) := by
  refine fnr F scLay (fun _ _ _ _ _ _ us hl => match us, hl with | [_, _, _, _, _, _], _ => rfl) (fun vs H Q E h => ?_) (fun cdv A outer s H vs Q E hr h => ?_)
  · obtain ⟨p, r, x, kvs, v1, v2, v3, v4, rfl, _⟩ := h
    rfl
  · obtain ⟨p, r, x, kvs, v1, v2, v3, v4, rfl, ⟨dx, hp⟩, hd, hl, k⟩ := h
    have C := T.i "Plain"
    refine ⟨_, pss_one (ps_dput (hu_of hr) (pe_fld (pv 0) rfl) (pv 1) (pe_tup (pa_cons (pv 2) (pa_cons (pv 3) (pa_cons (pv 4) (pa_cons (pv 5) pa_nil))))) rfl), ?_⟩
    refine ⟨_, rfl, _, rfl, _, rfl, _, rfl, by show 4 ≤ sizeLine; decide, fun t nt => ?_⟩
    refine ⟨_, rfl, p, _, dx, _, _, rfl, by rw [upd_ne (ne_of_none hp nt)]; exact hp, C.cl, C.n "records", lk_here, _, rfl, r, _, rfl, DPut.k (k := Sum.inr x) (by rw [upd_ne (ne_of_none hd nt)]; exact hd) (small1000 hl), k t nt⟩
theorem scPInit : FnScope ["self"] ["self"] (dme "Plain" "__init__" "Plain.__init__" 34 0 []).scope := ⟨rfl, rfl, rfl, by decide +kernel, rfl, by decide +kernel, by decide +kernel⟩
theorem ok_pinit (F : Fn K (dme "Plain" "__init__" "Plain.__init__" 34 0 [])) (T : Txt K mg) : FnR P w K mg base CX0 1 (ma K (ga K "Plain") "__init__") (spPInit K) := by
  refine fnr F scPInit (fun _ _ _ _ _ _ us hl => match us, hl with | [_], _ => rfl) (fun vs H Q E h => ?_) (fun cdv A outer s H vs Q E hr h => ?_)
  · obtain ⟨p, dx, rfl, _⟩ := h
    rfl
  · obtain ⟨p, dx, rfl, hp, k⟩ := h
    have C := T.i "Plain"
    refine ⟨_, pss_one (ps_fld (pv 0) pe_dnewK rfl), ?_⟩
    intro r nr
    exact ⟨_, rfl, p, _, dx, [], rfl, by rw [upd_ne (ne_of_none hp nr)]; exact hp, C.cl, C.n "records", by decide, k r nr⟩
end
end MK
/-! The deeds, what they make of a content, and how the heap bears them. -/
namespace MK
open PySem PySem.Spec PyProof.Rows L2
open He (ga ma)
inductive Deed where
  | write (p z : Str)
  | splice (p : Str) (i n : Nat) (z : Str)
  | cell (p : Str) (r c : Nat) (z : Str)
  | addrow (p : Str) (i : Nat) (r : Row)
  | cutrow (p : Str) (i : Nat)
def Deed.part : Deed → Str
  | .write p _ => p
  | .splice p _ _ _ => p
  | .cell p _ _ _ => p
  | .addrow p _ _ => p
  | .cutrow p _ => p
def Deed.cls : Deed → Str
  | .write _ _ => "Write"
  | .splice _ _ _ _ => "Splice"
  | .cell _ _ _ _ => "Cell"
  | .addrow _ _ _ => "AddRow"
  | .cutrow _ _ => "CutRow"
/-- a place: not beyond 10 ** 9 -/
abbrev Plc (n : Nat) : Prop := n ≤ 1000000000
def Deed.Ok (D : Deed) : Prop := D.part ∈ partN ∧ match D with
  | .write _ z => TextOk z
  | .splice _ i n z => Plc i ∧ Plc n ∧ TextOk z
  | .cell _ r c z => Plc r ∧ Plc c ∧ TextOk z
  | .addrow _ i r => Plc i ∧ ∃ n, 1 ≤ n ∧ n ≤ 6 ∧ RowOk n r
  | .cutrow _ i => Plc i
/-! ### what comes of a content -/
inductive Due where
  | good (c : Cont)
  | noPart
  | wrongKind
  | far
  | long
def newS (o : Str) (i n : Nat) (z : Str) : Str := cutS o none (some (i : Int)) ++ z ++ cutS o (some ((i : Int) + (n : Int))) none
def wideOf (t : Tab) : Nat := (t.headD []).length
def act : Cont → Deed → Due
  | .txt _, .write _ z => .good (.txt z)
  | .txt o, .splice _ i n z => if i + n > o.length then .far else if (newS o i n z).length > 60 then .long else .good (.txt (newS o i n z))
  | .tab t, .cell _ r c z => if r ≥ t.length ∨ c ≥ wideOf t then .far else .good (.tab (t.set r ((t.getD r []).set c z)))
  | .tab t, .addrow _ i r => if i > t.length ∨ r.length ≠ wideOf t then .far else if t.length ≥ 6 then .long else .good (.tab (t.take i ++ [r] ++ t.drop i))
  | .tab t, .cutrow _ i => if i ≥ t.length ∨ t.length = 1 then .far else .good (.tab (t.eraseIdx i))
  | _, _ => .wrongKind
def due (l : Recs) (D : Deed) : Due := match l.lookup D.part with
  | some R => act R.cont D
  | none => .noPart
/-! ### texts -/
theorem str_len (a b : Str) : (a ++ b).length = a.length + b.length := by
  show (a.cps ++ b.cps).size = a.cps.size + b.cps.size
  exact Array.size_append
theorem str_codes (a b : Str) : (a ++ b).cps.toList = a.cps.toList ++ b.cps.toList := by
  show (a.cps ++ b.cps).toList = _
  exact Array.toList_append
theorem cutS_mem {z : Str} {lo hi : Option Int} {c : Nat} (h : c ∈ (cutS z lo hi).cps.toList) : c ∈ z.cps.toList := by
  unfold cutS at h
  simp only at h
  exact List.mem_of_mem_drop (List.mem_of_mem_take h)
theorem cutS_len (z : Str) (lo hi : Option Int) : (cutS z lo hi).length ≤ z.length := by
  unfold cutS
  show (List.toArray _).size ≤ z.cps.size
  rw [List.size_toArray, List.length_take, List.length_drop, Array.length_toList]
  omega
theorem newS_ok {o z : Str} {i n : Nat} (ho : TextOk o) (hz : TextOk z) (hl : ¬ (newS o i n z).length > 60) : TextOk (newS o i n z) := by
  refine ⟨by omega, fun c hc => ?_⟩
  unfold newS at hc
  rw [str_codes, str_codes] at hc
  rcases List.mem_append.mp hc with hc | hc
  · rcases List.mem_append.mp hc with hc | hc
    · exact ho.2 c (cutS_mem hc)
    · exact hz.2 c hc
  · exact ho.2 c (cutS_mem hc)
/-! ### tables -/
theorem tab_wide {t : Tab} (h : TabOk t) : (∀ r ∈ t, RowOk (wideOf t) r) ∧ 1 ≤ wideOf t ∧ wideOf t ≤ 6 := by
  obtain ⟨h1, h6, n, n1, n6, hn⟩ := h
  cases t with
  | nil => simp at h1
  | cons r t =>
    have e : wideOf (r :: t) = n := (hn r List.mem_cons_self).1
    rw [e]
    exact ⟨hn, n1, n6⟩
theorem mem_set_or {α : Type} {l : List α} {i : Nat} {a x : α} (h : x ∈ l.set i a) : x ∈ l ∨ x = a := List.mem_or_eq_of_mem_set h
theorem get_mem {t : Tab} {r : Nat} (h : r < t.length) : t.getD r [] ∈ t := by
  rw [List.getD_eq_getElem?_getD, List.getElem?_eq_getElem h]
  exact List.getElem_mem h
theorem act_ok {c c' : Cont} {D : Deed} (hc : c.Ok) (hD : D.Ok) (e : act c D = .good c') : c'.Ok ∧ (match c, c' with
    | .txt _, .txt _ => True
    | .tab _, .tab _ => True
    | _, _ => False) := by
  obtain ⟨_, hD⟩ := hD
  cases c with
  | txt o =>
    cases D with
    | write p z =>
      cases e
      exact ⟨hD, trivial⟩
    | splice p i n z =>
      have e1 : (if i + n > o.length then Due.far else if (newS o i n z).length > 60 then Due.long else Due.good (.txt (newS o i n z))) = .good c' := e
      split at e1
      · cases e1
      · split at e1
        · cases e1
        · rename_i h2
          cases e1
          exact ⟨newS_ok hc hD.2.2 h2, trivial⟩
    | cell p r c z => cases e
    | addrow p i r => cases e
    | cutrow p i => cases e
  | tab t =>
    have T : TabOk t := hc
    obtain ⟨w1, w2, w3⟩ := tab_wide T
    cases D with
    | write p z => cases e
    | splice p i n z => cases e
    | cell p r c z =>
      have e1 : (if r ≥ t.length ∨ c ≥ wideOf t then Due.far else Due.good (.tab (t.set r ((t.getD r []).set c z)))) = .good c' := e
      split at e1
      · cases e1
      · rename_i h
        cases e1
        have hr : r < t.length := by omega
        refine ⟨⟨by rw [List.length_set]; exact T.n1, by rw [List.length_set]; exact T.n6, wideOf t, w2, w3, fun x hx => ?_⟩, trivial⟩
        rcases mem_set_or hx with hx | hx
        · exact w1 x hx
        · subst hx
          have q := w1 _ (get_mem hr)
          exact ⟨by rw [List.length_set]; exact q.1, fun y hy => (mem_set_or hy).elim (fun m => q.2 y m) fun m => by rw [m]; exact hD.2.2⟩
    | addrow p i r =>
      have e1 : (if i > t.length ∨ r.length ≠ wideOf t then Due.far else if t.length ≥ 6 then Due.long else Due.good (.tab (t.take i ++ [r] ++ t.drop i))) = .good c' := e
      split at e1
      · cases e1
      · rename_i h
        split at e1
        · cases e1
        · rename_i h2
          cases e1
          obtain ⟨n, n1, n6, ho⟩ := hD.2
          have hw : r.length = wideOf t := by omega
          have hlen : (t.take i ++ [r] ++ t.drop i).length = t.length + 1 := by
            rw [List.length_append, List.length_append, List.length_take, List.length_drop, List.length_singleton]
            omega
          refine ⟨⟨by omega, by omega, wideOf t, w2, w3, fun x hx => ?_⟩, trivial⟩
          rcases List.mem_append.mp hx with hx | hx
          · rcases List.mem_append.mp hx with hx | hx
            · exact w1 x (List.mem_of_mem_take hx)
            · rw [List.mem_singleton.mp hx]
              exact ⟨hw, ho.2⟩
          · exact w1 x (List.mem_of_mem_drop hx)
    | cutrow p i =>
      have e1 : (if i ≥ t.length ∨ t.length = 1 then Due.far else Due.good (.tab (t.eraseIdx i))) = .good c' := e
      split at e1
      · cases e1
      · rename_i h
        cases e1
        have n1 := T.n1
        have n6 := T.n6
        have hlen : (t.eraseIdx i).length = t.length - 1 := List.length_eraseIdx_of_lt (by omega)
        exact ⟨⟨by omega, by omega, wideOf t, w2, w3, fun x hx => w1 x (List.mem_of_mem_eraseIdx hx)⟩, trivial⟩
theorem act_rec {R : Rec} {c' : Cont} {D : Deed} (hR : R.Ok) (hD : D.Ok) (e : act R.cont D = .good c') : Rec.Ok { R with cont := c' } := by
  obtain ⟨k, pa, ra, c⟩ := R
  cases c with
  | txt o =>
    have hR' : k ≠ "table" ∧ TextOk o := hR
    have q := act_ok (c := .txt o) hR'.2 hD e
    cases c' with
    | txt z => exact ⟨hR'.1, q.1⟩
    | tab t => exact q.2.elim
  | tab t =>
    have hR' : k = "table" ∧ TabOk t := hR
    have q := act_ok (c := .tab t) hR'.2 hD e
    cases c' with
    | txt z => exact q.2.elim
    | tab t => exact ⟨hR'.1, q.1⟩
theorem rows_len {H : Hp} {ps : List Addr} {t : Tab} (h : Paired (RowAt H) ps t) : (ps.map V.ref).length = t.length := by
  rw [List.length_map]
  exact pd_len h
/-! ### how the heap bears a deed -/
def Deed.RowIn (H : Hp) (q : Addr) : Deed → Prop
  | .addrow _ _ r => RowAt H q r
  | _ => True
/-- what told() tells -/
def Deed.vals (q : Addr) : Deed → List V
  | .write p z => [.str "write", .str p, .str z]
  | .splice p i n z => [.str "splice", .str p, .int i, .int n, .str z]
  | .cell p r c z => [.str "cell", .str p, .int r, .int c, .str z]
  | .addrow p i _ => [.str "addrow", .str p, .int i, .ref q]
  | .cutrow p i => [.str "cutrow", .str p, .int i]
/-- what the edit keeps -/
def Deed.flds (q : Addr) : Deed → List (Str × V)
  | .write p z => [("part", .str p), ("text", .str z)]
  | .splice p i n z => [("part", .str p), ("text", .str z), ("at", .int i), ("size", .int n)]
  | .cell p r c z => [("part", .str p), ("row", .int r), ("column", .int c), ("text", .str z)]
  | .addrow p i _ => [("part", .str p), ("at", .int i), ("cells", .ref q)]
  | .cutrow p i => [("part", .str p), ("at", .int i)]
def Told (H : Hp) (a : Addr) (D : Deed) : Prop := ∃ q, H a = some (.tup (D.vals q)) ∧ D.RowIn H q
def EditAt (K : PySem.W.Frag) (H : Hp) (e : Addr) (D : Deed) : Prop := ∃ dx q, H e = some (.ins (ga K D.cls) dx (D.flds q)) ∧ D.RowIn H q
theorem RowIn.mono {H H' : Hp} (m : Tups H H') {q : Addr} {D : Deed} (h : D.RowIn H q) : D.RowIn H' q := by
  cases D with
  | addrow p i r => exact RowAt.mono m h
  | _ => trivial
theorem Told.mono {H H' : Hp} (m : Tups H H') {a : Addr} {D : Deed} (h : Told H a D) : Told H' a D := by
  obtain ⟨q, h1, h2⟩ := h
  exact ⟨q, m _ _ h1, RowIn.mono m h2⟩
theorem EditAt.keep {K : PySem.W.Frag} {H H' : Hp} {e : Addr} {D : Deed} (s : ∀ o, H e = some o → H' e = some o) (m : Tups H H') (h : EditAt K H e D) : EditAt K H' e D := by
  obtain ⟨dx, q, h1, h2⟩ := h
  exact ⟨dx, q, s _ h1, RowIn.mono m h2⟩
def Deed.d : Deed → PyData
  | .write p z => .tuple [.str "write", .str p, .str z]
  | .splice p i n z => .tuple [.str "splice", .str p, .int i, .int n, .str z]
  | .cell p r c z => .tuple [.str "cell", .str p, .int r, .int c, .str z]
  | .addrow p i r => .tuple [.str "addrow", .str p, .int i, rowD r]
  | .cutrow p i => .tuple [.str "cutrow", .str p, .int i]
theorem Told.dp {K : PySem.W.Frag} {H : Hp} {a : Addr} {D : Deed} (h : Told H a D) : Dp K H (.ref a) D.d := by
  obtain ⟨q, h1, h2⟩ := h
  cases D with
  | write p z => exact .tup (SqT.of h1) (.cons (.str _) (.cons (.str _) (.cons (.str _) .nil)))
  | splice p i n z => exact .tup (SqT.of h1) (.cons (.str _) (.cons (.str _) (.cons (.int _) (.cons (.int _) (.cons (.str _) .nil)))))
  | cell p r c z => exact .tup (SqT.of h1) (.cons (.str _) (.cons (.str _) (.cons (.int _) (.cons (.int _) (.cons (.str _) .nil)))))
  | addrow p i r => exact .tup (SqT.of h1) (.cons (.str _) (.cons (.str _) (.cons (.int _) (.cons (RowAt.dp h2) .nil))))
  | cutrow p i => exact .tup (SqT.of h1) (.cons (.str _) (.cons (.str _) (.cons (.int _) .nil)))
/-- a name that is no field -/
theorem flds_no {D : Deed} {q : Addr} {m : Str} (h : fldN.contains m = false) : (D.flds q).lookup m = none := by
  have hm : m ∉ fldN := fun z => by
    rw [List.contains_iff_mem.mpr z] at h
    cases h
  have ne : ∀ f, f ∈ fldN → (m == f) = false := fun f hf => beq_eq_false_iff_ne.mpr fun e => hm (e ▸ hf)
  have n1 := ne "part" (by decide +kernel)
  have n2 := ne "text" (by decide +kernel)
  have n3 := ne "at" (by decide +kernel)
  have n4 := ne "size" (by decide +kernel)
  have n5 := ne "row" (by decide +kernel)
  have n6 := ne "column" (by decide +kernel)
  have n7 := ne "cells" (by decide +kernel)
  cases D <;> simp only [Deed.flds, List.lookup, n1, n2, n3, n4, n5, n6, n7]
theorem flds_part {D : Deed} {q : Addr} : (D.flds q).lookup ("part" : Str) = some (.str D.part) := by
  have e : (("part" : Str) == ("part" : Str)) = true := beq_self_eq_true _
  cases D <;> simp only [Deed.flds, Deed.part, List.lookup, e]
theorem flds_len {D : Deed} {q : Addr} : (D.flds q).length ≤ 4 := by
  cases D <;> simp [Deed.flds]
/-! ### the class tells the deed -/
theorem cls_write {D : Deed} (h : D.cls = "Write") : ∃ p z, D = .write p z := by
  cases D with
  | write p z => exact ⟨_, _, rfl⟩
  | splice p i n z => exact absurd (show ("Splice" : Str) = "Write" from h) (by decide +kernel)
  | cell p r c z => exact absurd (show ("Cell" : Str) = "Write" from h) (by decide +kernel)
  | addrow p i r => exact absurd (show ("AddRow" : Str) = "Write" from h) (by decide +kernel)
  | cutrow p i => exact absurd (show ("CutRow" : Str) = "Write" from h) (by decide +kernel)
theorem cls_splice {D : Deed} (h : D.cls = "Splice") : ∃ p i n z, D = .splice p i n z := by
  cases D with
  | write p z => exact absurd (show ("Write" : Str) = "Splice" from h) (by decide +kernel)
  | splice p i n z => exact ⟨_, _, _, _, rfl⟩
  | cell p r c z => exact absurd (show ("Cell" : Str) = "Splice" from h) (by decide +kernel)
  | addrow p i r => exact absurd (show ("AddRow" : Str) = "Splice" from h) (by decide +kernel)
  | cutrow p i => exact absurd (show ("CutRow" : Str) = "Splice" from h) (by decide +kernel)
theorem cls_cell {D : Deed} (h : D.cls = "Cell") : ∃ p r c z, D = .cell p r c z := by
  cases D with
  | write p z => exact absurd (show ("Write" : Str) = "Cell" from h) (by decide +kernel)
  | splice p i n z => exact absurd (show ("Splice" : Str) = "Cell" from h) (by decide +kernel)
  | cell p r c z => exact ⟨_, _, _, _, rfl⟩
  | addrow p i r => exact absurd (show ("AddRow" : Str) = "Cell" from h) (by decide +kernel)
  | cutrow p i => exact absurd (show ("CutRow" : Str) = "Cell" from h) (by decide +kernel)
theorem cls_addrow {D : Deed} (h : D.cls = "AddRow") : ∃ p i r, D = .addrow p i r := by
  cases D with
  | write p z => exact absurd (show ("Write" : Str) = "AddRow" from h) (by decide +kernel)
  | splice p i n z => exact absurd (show ("Splice" : Str) = "AddRow" from h) (by decide +kernel)
  | cell p r c z => exact absurd (show ("Cell" : Str) = "AddRow" from h) (by decide +kernel)
  | addrow p i r => exact ⟨_, _, _, rfl⟩
  | cutrow p i => exact absurd (show ("CutRow" : Str) = "AddRow" from h) (by decide +kernel)
theorem cls_cutrow {D : Deed} (h : D.cls = "CutRow") : ∃ p i, D = .cutrow p i := by
  cases D with
  | write p z => exact absurd (show ("Write" : Str) = "CutRow" from h) (by decide +kernel)
  | splice p i n z => exact absurd (show ("Splice" : Str) = "CutRow" from h) (by decide +kernel)
  | cell p r c z => exact absurd (show ("Cell" : Str) = "CutRow" from h) (by decide +kernel)
  | addrow p i r => exact absurd (show ("AddRow" : Str) = "CutRow" from h) (by decide +kernel)
  | cutrow p i => exact ⟨_, _, rfl⟩
theorem cls_ins {D : Deed} : insN.contains D.cls = true := by
  cases D with
  | write p z => exact (by decide +kernel : insN.contains "Write" = true)
  | splice p i n z => exact (by decide +kernel : insN.contains "Splice" = true)
  | cell p r c z => exact (by decide +kernel : insN.contains "Cell" = true)
  | addrow p i r => exact (by decide +kernel : insN.contains "AddRow" = true)
  | cutrow p i => exact (by decide +kernel : insN.contains "CutRow" = true)
end MK
/-! The edits: made, about, told. -/
namespace MK
open PySem PySem.Spec PyProof.Rows L2
open He (ga ma)
def Deed.args (q : Addr) : Deed → List V
  | .write p z => [.str p, .str z]
  | .splice p i n z => [.str p, .int i, .int n, .str z]
  | .cell p r c z => [.str p, .int r, .int c, .str z]
  | .addrow p i _ => [.str p, .int i, .ref q]
  | .cutrow p i => [.str p, .int i]
/-- an edit's __init__ -/
def spInit (K : PySem.W.Frag) (c : Str) : Sp := fun vs H Q _ => ∃ (e dx q : Addr) (D : Deed), D.cls = c ∧ D.Ok ∧ vs = .ref e :: D.args q ∧ H e = some (.ins (ga K c) dx []) ∧ D.RowIn H q ∧
  ∀ H', But e H H' → H' e = some (.ins (ga K c) dx (D.flds q)) → Q .non H'
/-- PartEdit's, Write's for whatever class above -/
def spPart (K : PySem.W.Frag) : Sp := fun vs H Q _ => ∃ (e dx : Addr) (c p : Str), insN.contains c = true ∧ p ∈ partN ∧ vs = [.ref e, .str p] ∧ H e = some (.ins (ga K c) dx []) ∧ Q .non (upd H e (.ins (ga K c) dx [("part", .str p)]))
def spWrite (K : PySem.W.Frag) : Sp := fun vs H Q _ => ∃ (e dx : Addr) (c p z : Str), insN.contains c = true ∧ p ∈ partN ∧ TextOk z ∧ vs = [.ref e, .str p, .str z] ∧ H e = some (.ins (ga K c) dx []) ∧
  Q .non (upd H e (.ins (ga K c) dx [("part", .str p), ("text", .str z)]))
def spTold (K : PySem.W.Frag) (c : Str) : Sp := fun vs H Q _ => ∃ (e : Addr) (D : Deed), D.cls = c ∧ vs = [.ref e] ∧ EditAt K H e D ∧ ∀ a H', Same H H' → Told H' a D → Q (.ref a) H'
def spAbout (K : PySem.W.Frag) : Sp := fun vs H Q _ => ∃ (e : Addr) (D : Deed), vs = [.ref e] ∧ EditAt K H e D ∧ Q (.str D.part) H
def spMade : Sp := fun vs H Q _ => ∃ e : Addr, vs = [.ref e] ∧ Q .non H
theorem but_upd {H : Hp} {e : Addr} {o : HO} : But e H (upd H e o) := fun b u n h => by
  rw [upd_ne n]
  exact h
theorem but_upd2 {H : Hp} {e : Addr} {o u : HO} : But e H (upd (upd H e o) e u) := (but_upd).trans but_upd
section
variable {P : Program} {w : World} {K : PySem.W.Frag} {mg : Str → Option Value} {base : Heap}
abbrev dPart : He.DefD := dme "PartEdit" "__init__" "PartEdit.__init__" 26 0 []
theorem scPartI : FnScope ["self", "part"] ["self", "part"] dPart.scope := ⟨rfl, rfl, rfl, by decide +kernel, rfl, by decide +kernel, by decide +kernel⟩
theorem ok_parti (F : Fn K dPart) (T : Txt K mg) (G : FnR P w K mg base CX0 2 (ga K "is_name") (spYes fun v _ => isPart v)) : FnR P w K mg base CX0 3 (ma K (ga K "PartEdit") "__init__") (spPart K) := by
  refine fnr F scPartI (fun _ _ _ _ _ _ us hl => match us, hl with | [_, _], _ => rfl) (fun vs H Q E h => ?_) (fun cdv A outer s H vs Q E hr h => ?_)
  · obtain ⟨e, dx, c, p, _, _, rfl, _⟩ := h
    rfl
  · obtain ⟨e, dx, c, p, hc, hp, rfl, he, k⟩ := h
    have C := T.ins c hc
    refine ⟨_, pss_cons (ps_if (pt_not (pt_val (pe_callP G hr rfl (T.g "is_name") (T.k "is_name") (fun _ => at0) (pa_cons (pv 1) pa_nil)))) pss_never pss_nil) (pss_one (ps_fld (pv 0) (pv 1) rfl)), ?_⟩
    refine ⟨_, rfl, _, rfl, ⟨p, rfl, hp⟩, true, rfl, iteF ?_⟩
    exact ⟨_, rfl, _, rfl, e, _, dx, [], rfl, he, C.cl, C.n "part", by decide, k⟩
abbrev dWrite : He.DefD := dme "Write" "__init__" "Write.__init__" 27 0 []
theorem scWriteI : FnScope ["self", "part", "text"] ["self", "part", "text"] dWrite.scope := ⟨rfl, rfl, rfl, by decide +kernel, rfl, by decide +kernel, by decide +kernel⟩
theorem ok_writei (F : Fn K dWrite) (T : Txt K mg) (G : FnR P w K mg base CX0 3 (ma K (ga K "PartEdit") "__init__") (spPart K)) (GT : FnR P w K mg base CX0 1 (ga K "is_text") (spYes fun v _ => isText v)) :
    FnR P w K mg base CX0 4 (ma K (ga K "Write") "__init__") (spWrite K) := by
  refine fnr F scWriteI (fun _ _ _ _ _ _ us hl => match us, hl with | [_, _, _], _ => rfl) (fun vs H Q E h => ?_) (fun cdv A outer s H vs Q E hr h => ?_)
  · obtain ⟨e, dx, c, p, z, _, _, _, rfl, _⟩ := h
    rfl
  · obtain ⟨e, dx, c, p, z, hc, hp, hz, rfl, he, k⟩ := h
    have C := T.ins c hc
    obtain ⟨o1, o2, o3⟩ := T.off ("PartEdit", "PartEdit") (by decide +kernel)
    refine ⟨_, pss_cons (ps_expr (pe_ofcls G hr rfl (T.g "PartEdit") o1 o2 o3 (fun _ => at0) (pa_cons (pv 0) (pa_cons (pv 1) pa_nil))))
      (pss_cons (ps_if (pt_not (pt_val (pe_callP GT (hr.mono (by decide)) rfl (T.g "is_text") (T.k "is_text") (fun _ => at0) (pa_cons (pv 2) pa_nil)))) pss_never pss_nil) (pss_one (ps_fld (pv 0) (pv 2) rfl))), ?_⟩
    refine ⟨_, rfl, _, rfl, e, dx, c, p, hc, hp, rfl, he, ?_⟩
    refine ⟨_, rfl, _, rfl, ⟨z, rfl, hz⟩, true, rfl, iteF ?_⟩
    refine ⟨_, rfl, _, rfl, e, _, dx, _, rfl, upd_same, C.cl, C.n "text", by show 1 < 1000; decide, ?_⟩
    rw [upd_upd, put_past (by decide +kernel)]
    exact k
theorem ok_writeI (G : FnR P w K mg base CX0 4 (ma K (ga K "Write") "__init__") (spWrite K)) : FnR P w K mg base CX0 4 (ma K (ga K "Write") "__init__") (spInit K "Write") := by
  refine G.imp fun vs H Q E h => ?_
  obtain ⟨e, dx, q, D, hc, ho, rfl, he, hq, k⟩ := h
  obtain ⟨p, z, rfl⟩ := cls_write hc
  exact ⟨e, dx, "Write", p, z, by decide +kernel, ho.1, ho.2, rfl, he, k _ but_upd upd_same⟩
abbrev dSplice : He.DefD := dme "Splice" "__init__" "Splice.__init__" 28 0 []
theorem scSpliceI : FnScope ["self", "part", "at", "size", "text"] ["self", "part", "at", "size", "text"] dSplice.scope := ⟨rfl, rfl, rfl, by decide +kernel, rfl, by decide +kernel, by decide +kernel⟩
theorem rank_of {n : Nat} (h : Plc n) : isRank (.int (n : Int)) := ⟨n, rfl, by omega, by have h' : n ≤ 1000000000 := h; omega⟩
theorem ok_splicei (F : Fn K dSplice) (T : Txt K mg) (G : FnR P w K mg base CX0 4 (ma K (ga K "Write") "__init__") (spWrite K)) (GR : FnR P w K mg base CX0 2 (ga K "is_rank") (spYes fun v _ => isRank v)) :
    FnR P w K mg base CX0 5 (ma K (ga K "Splice") "__init__") (spInit K "Splice") := by
  refine fnr F scSpliceI (fun _ _ _ _ _ _ us hl => match us, hl with | [_, _, _, _, _], _ => rfl) (fun vs H Q E h => ?_) (fun cdv A outer s H vs Q E hr h => ?_)
  · obtain ⟨e, dx, q, D, hc, _, rfl, _⟩ := h
    obtain ⟨p, i, n, z, rfl⟩ := cls_splice hc
    rfl
  · obtain ⟨e, dx, q, D, hc, ho, rfl, he, hq, k⟩ := h
    obtain ⟨p, i, n, z, rfl⟩ := cls_splice hc
    obtain ⟨hp, hi, hn, hz⟩ := ho
    have C := T.i "Splice"
    obtain ⟨o1, o2, o3⟩ := T.off ("Write", "Write") (by decide +kernel)
    have hr2 : Room 2 _ := hr.mono (by decide)
    refine ⟨_, pss_cons (ps_expr (pe_ofcls G hr rfl (T.g "Write") o1 o2 o3 (fun _ => at0) (pa_cons (pv 0) (pa_cons (pv 1) (pa_cons (pv 4) pa_nil)))))
      (pss_cons (ps_if (PW.pt (pw_or (pt_not (pt_val (pe_callP GR hr2 rfl (T.g "is_rank") (T.k "is_rank") (fun _ => at0) (pa_cons (pv 2) pa_nil)))) (pw_or1 (pt_not (pt_val (pe_callP GR hr2 rfl (T.g "is_rank") (T.k "is_rank") (fun _ => at0) (pa_cons (pv 3) pa_nil))))))) pss_never pss_nil)
      (pss_cons (ps_fld (pv 0) (pv 2) rfl) (pss_one (ps_fld (pv 0) (pv 3) rfl)))), ?_⟩
    refine ⟨_, rfl, _, rfl, _, rfl, e, dx, "Splice", p, z, by decide +kernel, hp, hz, rfl, he, ?_⟩
    refine ⟨_, rfl, _, rfl, rank_of hi, true, rfl, iteF ?_⟩
    refine ⟨_, rfl, _, rfl, rank_of hn, true, rfl, iteF ?_⟩
    refine ⟨_, rfl, _, rfl, e, _, dx, _, rfl, upd_same, C.cl, C.n "at", by show 2 < 1000; decide, ?_⟩
    rw [upd_upd, put_past (by decide +kernel), put_past (by decide +kernel)]
    refine ⟨_, rfl, _, rfl, e, _, dx, _, rfl, upd_same, C.cl, C.n "size", by show 3 < 1000; decide, ?_⟩
    rw [upd_upd]
    refine k _ but_upd ?_
    rw [upd_same]
    show some (HO.ins (ga K "Splice") dx (putF "size" (.int n) [("part", .str p), ("text", .str z), ("at", .int i)])) = _
    rw [put_past (by decide +kernel), put_past (by decide +kernel), put_past (by decide +kernel)] <;> rfl
abbrev dCell : He.DefD := dme "Cell" "__init__" "Cell.__init__" 30 0 []
theorem scCellI : FnScope ["self", "part", "row", "column", "text"] ["self", "part", "row", "column", "text"] dCell.scope := ⟨rfl, rfl, rfl, by decide +kernel, rfl, by decide +kernel, by decide +kernel⟩
theorem ok_celli (F : Fn K dCell) (T : Txt K mg) (G : FnR P w K mg base CX0 3 (ma K (ga K "PartEdit") "__init__") (spPart K)) (GR : FnR P w K mg base CX0 2 (ga K "is_rank") (spYes fun v _ => isRank v)) (GT : FnR P w K mg base CX0 1 (ga K "is_text") (spYes fun v _ => isText v)) :
    FnR P w K mg base CX0 5 (ma K (ga K "Cell") "__init__") (spInit K "Cell") := by
  refine fnr F scCellI (fun _ _ _ _ _ _ us hl => match us, hl with | [_, _, _, _, _], _ => rfl) (fun vs H Q E h => ?_) (fun cdv A outer s H vs Q E hr h => ?_)
  · obtain ⟨e, dx, q, D, hc, _, rfl, _⟩ := h
    obtain ⟨p, r, c, z, rfl⟩ := cls_cell hc
    rfl
  · obtain ⟨e, dx, q, D, hc, ho, rfl, he, hq, k⟩ := h
    obtain ⟨p, i, n, z, rfl⟩ := cls_cell hc
    obtain ⟨hp, hi, hn, hz⟩ := ho
    have C := T.i "Cell"
    obtain ⟨o1, o2, o3⟩ := T.off ("TableEdit", "PartEdit") (by decide +kernel)
    have hr2 : Room 2 _ := hr.mono (by decide)
    refine ⟨_, pss_cons (ps_expr (pe_ofcls G (hr.mono (by decide)) rfl (T.g "TableEdit") o1 o2 o3 (fun _ => at0) (pa_cons (pv 0) (pa_cons (pv 1) pa_nil))))
      (pss_cons (ps_if (PW.pt (pw_or (pt_not (pt_val (pe_callP GR hr2 rfl (T.g "is_rank") (T.k "is_rank") (fun _ => at0) (pa_cons (pv 2) pa_nil)))) (pw_or (pt_not (pt_val (pe_callP GR hr2 rfl (T.g "is_rank") (T.k "is_rank") (fun _ => at0) (pa_cons (pv 3) pa_nil))))
        (pw_or1 (pt_not (pt_val (pe_callP GT (hr2.mono (by decide)) rfl (T.g "is_text") (T.k "is_text") (fun _ => at0) (pa_cons (pv 4) pa_nil)))))))) pss_never pss_nil)
      (pss_cons (ps_fld (pv 0) (pv 2) rfl) (pss_cons (ps_fld (pv 0) (pv 3) rfl) (pss_one (ps_fld (pv 0) (pv 4) rfl))))), ?_⟩
    refine ⟨_, rfl, _, rfl, e, dx, "Cell", p, by decide +kernel, hp, rfl, he, ?_⟩
    refine ⟨_, rfl, _, rfl, rank_of hi, true, rfl, iteF ?_⟩
    refine ⟨_, rfl, _, rfl, rank_of hn, true, rfl, iteF ?_⟩
    refine ⟨_, rfl, _, rfl, ⟨z, rfl, hz⟩, true, rfl, iteF ?_⟩
    refine ⟨_, rfl, _, rfl, e, _, dx, _, rfl, upd_same, C.cl, C.n "row", by show 1 < 1000; decide, ?_⟩
    rw [upd_upd, put_past (by decide +kernel)]
    refine ⟨_, rfl, _, rfl, e, _, dx, _, rfl, upd_same, C.cl, C.n "column", by show 2 < 1000; decide, ?_⟩
    rw [upd_upd, put_past (by decide +kernel), show putF "column" (V.int n) (putF "row" (V.int i) []) = [(("row" : Str), V.int i), ("column", V.int n)] from put_past (by decide +kernel)]
    refine ⟨_, rfl, _, rfl, e, _, dx, _, rfl, upd_same, C.cl, C.n "text", by show 3 < 1000; decide, ?_⟩
    rw [upd_upd]
    refine k _ but_upd ?_
    rw [upd_same, put_past (by decide +kernel), put_past (by decide +kernel), put_past (by decide +kernel)] <;> rfl
abbrev dAdd : He.DefD := dme "AddRow" "__init__" "AddRow.__init__" 31 0 []
theorem scAddI : FnScope ["self", "part", "at", "cells"] ["self", "part", "at", "cells"] dAdd.scope := ⟨rfl, rfl, rfl, by decide +kernel, rfl, by decide +kernel, by decide +kernel⟩
theorem ok_addi (F : Fn K dAdd) (T : Txt K mg) (G : FnR P w K mg base CX0 3 (ma K (ga K "PartEdit") "__init__") (spPart K)) (GR : FnR P w K mg base CX0 2 (ga K "is_rank") (spYes fun v _ => isRank v)) (GC : FnR P w K mg base CX0 3 (ga K "is_cells") (spYesN isCells)) :
    FnR P w K mg base CX0 5 (ma K (ga K "AddRow") "__init__") (spInit K "AddRow") := by
  refine fnr F scAddI (fun _ _ _ _ _ _ us hl => match us, hl with | [_, _, _, _], _ => rfl) (fun vs H Q E h => ?_) (fun cdv A outer s H vs Q E hr h => ?_)
  · obtain ⟨e, dx, q, D, hc, _, rfl, _⟩ := h
    obtain ⟨p, i, r, rfl⟩ := cls_addrow hc
    rfl
  · obtain ⟨e, dx, q, D, hc, ho, rfl, he, hq, k⟩ := h
    obtain ⟨p, i, r, rfl⟩ := cls_addrow hc
    obtain ⟨hp, hi, n, n1, n6, hrow⟩ := ho
    have hq' : RowAt H q r := hq
    have C := T.i "AddRow"
    obtain ⟨o1, o2, o3⟩ := T.off ("TableEdit", "PartEdit") (by decide +kernel)
    refine ⟨_, pss_cons (ps_expr (pe_ofcls G (hr.mono (by decide)) rfl (T.g "TableEdit") o1 o2 o3 (fun _ => at0) (pa_cons (pv 0) (pa_cons (pv 1) pa_nil))))
      (pss_cons (ps_if (PW.pt (pw_or (pt_not (pt_val (pe_callP GR (hr.mono (by decide)) rfl (T.g "is_rank") (T.k "is_rank") (fun _ => at0) (pa_cons (pv 2) pa_nil)))) (pw_or1 (pt_not (pt_val (pe_callP GC (hr.mono (by decide)) rfl (T.g "is_cells") (T.k "is_cells") (fun _ => at0) (pa_cons (pv 3) pa_nil))))))) pss_never pss_nil)
      (pss_cons (ps_fld (pv 0) (pv 2) rfl) (pss_one (ps_fld (pv 0) (pv 3) rfl)))), ?_⟩
    have nqe : q ≠ e := ne_of hq' he (by intro z; cases z)
    refine ⟨_, rfl, _, rfl, e, dx, "AddRow", p, by decide +kernel, hp, rfl, he, ?_⟩
    refine ⟨_, rfl, _, rfl, rank_of hi, true, rfl, iteF ?_⟩
    refine ⟨_, rfl, _, rfl, ⟨q, r, n, rfl, by rw [RowAt, upd_ne nqe]; exact hq', hrow, n1, n6⟩, fun H1 s1 => ⟨true, rfl, iteF ?_⟩⟩
    refine ⟨_, rfl, _, rfl, e, _, dx, _, rfl, s1 _ _ upd_same, C.cl, C.n "at", by show 1 < 1000; decide, ?_⟩
    rw [put_past (by decide +kernel)]
    refine ⟨_, rfl, _, rfl, e, _, dx, _, rfl, upd_same, C.cl, C.n "cells", by show 2 < 1000; decide, ?_⟩
    rw [upd_upd]
    refine k _ ((but_upd.trans (But.of s1)).upd) ?_
    rw [upd_same, put_past (by decide +kernel)]
    rw [show putF "cells" (V.ref q) (putF "at" (V.int i) []) = [(("at" : Str), V.int i), ("cells", V.ref q)] from put_past (by decide +kernel)] <;> rfl
abbrev dCut : He.DefD := dme "CutRow" "__init__" "CutRow.__init__" 32 0 []
theorem scCutI : FnScope ["self", "part", "at"] ["self", "part", "at"] dCut.scope := ⟨rfl, rfl, rfl, by decide +kernel, rfl, by decide +kernel, by decide +kernel⟩
theorem ok_cuti (F : Fn K dCut) (T : Txt K mg) (G : FnR P w K mg base CX0 3 (ma K (ga K "PartEdit") "__init__") (spPart K)) (GR : FnR P w K mg base CX0 2 (ga K "is_rank") (spYes fun v _ => isRank v)) :
    FnR P w K mg base CX0 5 (ma K (ga K "CutRow") "__init__") (spInit K "CutRow") := by
  refine fnr F scCutI (fun _ _ _ _ _ _ us hl => match us, hl with | [_, _, _], _ => rfl) (fun vs H Q E h => ?_) (fun cdv A outer s H vs Q E hr h => ?_)
  · obtain ⟨e, dx, q, D, hc, _, rfl, _⟩ := h
    obtain ⟨p, i, rfl⟩ := cls_cutrow hc
    rfl
  · obtain ⟨e, dx, q, D, hc, ho, rfl, he, hq, k⟩ := h
    obtain ⟨p, i, rfl⟩ := cls_cutrow hc
    obtain ⟨hp, hi⟩ := ho
    have C := T.i "CutRow"
    obtain ⟨o1, o2, o3⟩ := T.off ("TableEdit", "PartEdit") (by decide +kernel)
    refine ⟨_, pss_cons (ps_expr (pe_ofcls G (hr.mono (by decide)) rfl (T.g "TableEdit") o1 o2 o3 (fun _ => at0) (pa_cons (pv 0) (pa_cons (pv 1) pa_nil))))
      (pss_cons (ps_if (pt_not (pt_val (pe_callP GR (hr.mono (by decide)) rfl (T.g "is_rank") (T.k "is_rank") (fun _ => at0) (pa_cons (pv 2) pa_nil)))) pss_never pss_nil)
      (pss_one (ps_fld (pv 0) (pv 2) rfl))), ?_⟩
    refine ⟨_, rfl, _, rfl, e, dx, "CutRow", p, by decide +kernel, hp, rfl, he, ?_⟩
    refine ⟨_, rfl, _, rfl, rank_of hi, true, rfl, iteF ?_⟩
    refine ⟨_, rfl, _, rfl, e, _, dx, _, rfl, upd_same, C.cl, C.n "at", by show 1 < 1000; decide, ?_⟩
    rw [upd_upd]
    refine k _ but_upd ?_
    rw [upd_same, put_past (by decide +kernel)] <;> rfl
/-! ### about, made -/
abbrev dAbout : He.DefD := dme "PartEdit" "about" "PartEdit.about" 26 1 []
theorem scAbout : FnScope ["self"] ["self"] dAbout.scope := ⟨rfl, rfl, rfl, by decide +kernel, rfl, by decide +kernel, by decide +kernel⟩
theorem ok_about (F : Fn K dAbout) (T : Txt K mg) : FnR P w K mg base CX0 1 (ma K (ga K "PartEdit") "about") (spAbout K) := by
  refine fnr F scAbout (fun _ _ _ _ _ _ us hl => match us, hl with | [_], _ => rfl) (fun vs H Q E h => ?_) (fun cdv A outer s H vs Q E hr h => ?_)
  · obtain ⟨e, D, rfl, _⟩ := h
    rfl
  · obtain ⟨e, D, rfl, ⟨dx, q, he, _⟩, k⟩ := h
    have C := T.ins D.cls cls_ins
    exact ⟨_, pss_one (ps_ret (pe_fld (pv 0) rfl)), _, rfl, e, _, dx, _, _, rfl, he, C.cl, C.n "part", flds_part, k⟩
abbrev dMade : He.DefD := dme "Edit" "made" "Edit.made" 25 1 []
theorem scMade : FnScope ["self"] ["self"] dMade.scope := ⟨rfl, rfl, rfl, by decide +kernel, rfl, by decide +kernel, by decide +kernel⟩
theorem ok_made (F : Fn K dMade) (T : Txt K mg) : FnR P w K mg base CX0 1 (ma K (ga K "Edit") "made") spMade := by
  refine fnr F scMade (fun _ _ _ _ _ _ us hl => match us, hl with | [_], _ => rfl) (fun vs H Q E h => ?_) (fun cdv A outer s H vs Q E hr h => ?_)
  · obtain ⟨e, rfl, _⟩ := h
    rfl
  · obtain ⟨e, rfl, k⟩ := h
    exact ⟨_, pss_one (ps_ret pe_non), k⟩
end
end MK
/-! told; is_far, outcome of the edits of tables. -/
namespace MK
open PySem PySem.Spec PyProof.Rows L2
open He (ga ma)
section
variable {P : Program} {w : World} {K : PySem.W.Frag} {mg : Str → Option Value} {base : Heap}
/-! ### told -/
abbrev dTold (c q : Str) (i : Nat) : He.DefD := dme c "told" q i 1 []
theorem scTold1 : FnScope ["self"] ["self"] (dTold "Write" "Write.told" 27).scope := ⟨rfl, rfl, rfl, by decide +kernel, rfl, by decide +kernel, by decide +kernel⟩
theorem scTold2 : FnScope ["self"] ["self"] (dTold "Splice" "Splice.told" 28).scope := ⟨rfl, rfl, rfl, by decide +kernel, rfl, by decide +kernel, by decide +kernel⟩
theorem scTold3 : FnScope ["self"] ["self"] (dTold "Cell" "Cell.told" 30).scope := ⟨rfl, rfl, rfl, by decide +kernel, rfl, by decide +kernel, by decide +kernel⟩
theorem scTold4 : FnScope ["self"] ["self"] (dTold "AddRow" "AddRow.told" 31).scope := ⟨rfl, rfl, rfl, by decide +kernel, rfl, by decide +kernel, by decide +kernel⟩
theorem scTold5 : FnScope ["self"] ["self"] (dTold "CutRow" "CutRow.told" 32).scope := ⟨rfl, rfl, rfl, by decide +kernel, rfl, by decide +kernel, by decide +kernel⟩
theorem told_end {H : Hp} {Q : VK} {D : Deed} {q a : Addr} (k : ∀ a H', Same H H' → Told H' a D → Q (.ref a) H') (hq : D.RowIn H q) (na : H a = none) : Q (.ref a) (upd H a (.tup (D.vals q))) :=
  k a _ (same_new na) ⟨q, upd_same, RowIn.mono (Tups.of (same_new na)) hq⟩
theorem ok_told1 (F : Fn K (dTold "Write" "Write.told" 27)) (T : Txt K mg) : FnR P w K mg base CX0 1 (ma K (ga K "Write") "told") (spTold K "Write") := by
  refine fnr F scTold1 (fun _ _ _ _ _ _ us hl => match us, hl with | [_], _ => rfl) (fun vs H Q E h => ?_) (fun cdv A outer s H vs Q E hr h => ?_)
  · obtain ⟨e, D, _, rfl, _⟩ := h
    rfl
  · obtain ⟨e, D, hc, rfl, ⟨dx, q, he, hq⟩, k⟩ := h
    obtain ⟨p, z, rfl⟩ := cls_write hc
    have C := T.i "Write"
    refine ⟨_, pss_one (ps_ret (pe_tup (pa_cons pe_str (pa_cons (pe_fld (pv 0) rfl) (pa_cons (pe_fld (pv 0) rfl) pa_nil))))), ?_⟩
    exact ⟨_, rfl, e, _, dx, _, _, rfl, he, C.cl, C.n "part", lk_here, _, rfl, e, _, dx, _, _, rfl, he, C.cl, C.n "text", (lk_past (by decide +kernel)).trans lk_here, by show 3 ≤ sizeLine; decide, fun a na => told_end k hq na⟩
theorem ok_told2 (F : Fn K (dTold "Splice" "Splice.told" 28)) (T : Txt K mg) : FnR P w K mg base CX0 1 (ma K (ga K "Splice") "told") (spTold K "Splice") := by
  refine fnr F scTold2 (fun _ _ _ _ _ _ us hl => match us, hl with | [_], _ => rfl) (fun vs H Q E h => ?_) (fun cdv A outer s H vs Q E hr h => ?_)
  · obtain ⟨e, D, _, rfl, _⟩ := h
    rfl
  · obtain ⟨e, D, hc, rfl, ⟨dx, q, he, hq⟩, k⟩ := h
    obtain ⟨p, i, n, z, rfl⟩ := cls_splice hc
    have C := T.i "Splice"
    refine ⟨_, pss_one (ps_ret (pe_tup (pa_cons pe_str (pa_cons (pe_fld (pv 0) rfl) (pa_cons (pe_fld (pv 0) rfl) (pa_cons (pe_fld (pv 0) rfl) (pa_cons (pe_fld (pv 0) rfl) pa_nil))))))), ?_⟩
    refine ⟨_, rfl, e, _, dx, _, _, rfl, he, C.cl, C.n "part", lk_here, ?_⟩
    refine ⟨_, rfl, e, _, dx, _, _, rfl, he, C.cl, C.n "at", (lk_past (by decide +kernel)).trans ((lk_past (by decide +kernel)).trans lk_here), ?_⟩
    refine ⟨_, rfl, e, _, dx, _, _, rfl, he, C.cl, C.n "size", (lk_past (by decide +kernel)).trans ((lk_past (by decide +kernel)).trans ((lk_past (by decide +kernel)).trans lk_here)), ?_⟩
    exact ⟨_, rfl, e, _, dx, _, _, rfl, he, C.cl, C.n "text", (lk_past (by decide +kernel)).trans lk_here, by show 5 ≤ sizeLine; decide, fun a na => told_end k hq na⟩
theorem ok_told3 (F : Fn K (dTold "Cell" "Cell.told" 30)) (T : Txt K mg) : FnR P w K mg base CX0 1 (ma K (ga K "Cell") "told") (spTold K "Cell") := by
  refine fnr F scTold3 (fun _ _ _ _ _ _ us hl => match us, hl with | [_], _ => rfl) (fun vs H Q E h => ?_) (fun cdv A outer s H vs Q E hr h => ?_)
  · obtain ⟨e, D, _, rfl, _⟩ := h
    rfl
  · obtain ⟨e, D, hc, rfl, ⟨dx, q, he, hq⟩, k⟩ := h
    obtain ⟨p, r, c, z, rfl⟩ := cls_cell hc
    have C := T.i "Cell"
    refine ⟨_, pss_one (ps_ret (pe_tup (pa_cons pe_str (pa_cons (pe_fld (pv 0) rfl) (pa_cons (pe_fld (pv 0) rfl) (pa_cons (pe_fld (pv 0) rfl) (pa_cons (pe_fld (pv 0) rfl) pa_nil))))))), ?_⟩
    refine ⟨_, rfl, e, _, dx, _, _, rfl, he, C.cl, C.n "part", lk_here, ?_⟩
    refine ⟨_, rfl, e, _, dx, _, _, rfl, he, C.cl, C.n "row", (lk_past (by decide +kernel)).trans lk_here, ?_⟩
    refine ⟨_, rfl, e, _, dx, _, _, rfl, he, C.cl, C.n "column", (lk_past (by decide +kernel)).trans ((lk_past (by decide +kernel)).trans lk_here), ?_⟩
    exact ⟨_, rfl, e, _, dx, _, _, rfl, he, C.cl, C.n "text", (lk_past (by decide +kernel)).trans ((lk_past (by decide +kernel)).trans ((lk_past (by decide +kernel)).trans lk_here)), by show 5 ≤ sizeLine; decide, fun a na => told_end k hq na⟩
theorem ok_told4 (F : Fn K (dTold "AddRow" "AddRow.told" 31)) (T : Txt K mg) : FnR P w K mg base CX0 1 (ma K (ga K "AddRow") "told") (spTold K "AddRow") := by
  refine fnr F scTold4 (fun _ _ _ _ _ _ us hl => match us, hl with | [_], _ => rfl) (fun vs H Q E h => ?_) (fun cdv A outer s H vs Q E hr h => ?_)
  · obtain ⟨e, D, _, rfl, _⟩ := h
    rfl
  · obtain ⟨e, D, hc, rfl, ⟨dx, q, he, hq⟩, k⟩ := h
    obtain ⟨p, i, r, rfl⟩ := cls_addrow hc
    have C := T.i "AddRow"
    refine ⟨_, pss_one (ps_ret (pe_tup (pa_cons pe_str (pa_cons (pe_fld (pv 0) rfl) (pa_cons (pe_fld (pv 0) rfl) (pa_cons (pe_fld (pv 0) rfl) pa_nil)))))), ?_⟩
    refine ⟨_, rfl, e, _, dx, _, _, rfl, he, C.cl, C.n "part", lk_here, ?_⟩
    refine ⟨_, rfl, e, _, dx, _, _, rfl, he, C.cl, C.n "at", (lk_past (by decide +kernel)).trans lk_here, ?_⟩
    exact ⟨_, rfl, e, _, dx, _, _, rfl, he, C.cl, C.n "cells", (lk_past (by decide +kernel)).trans ((lk_past (by decide +kernel)).trans lk_here), by show 4 ≤ sizeLine; decide, fun a na => told_end k hq na⟩
theorem ok_told5 (F : Fn K (dTold "CutRow" "CutRow.told" 32)) (T : Txt K mg) : FnR P w K mg base CX0 1 (ma K (ga K "CutRow") "told") (spTold K "CutRow") := by
  refine fnr F scTold5 (fun _ _ _ _ _ _ us hl => match us, hl with | [_], _ => rfl) (fun vs H Q E h => ?_) (fun cdv A outer s H vs Q E hr h => ?_)
  · obtain ⟨e, D, _, rfl, _⟩ := h
    rfl
  · obtain ⟨e, D, hc, rfl, ⟨dx, q, he, hq⟩, k⟩ := h
    obtain ⟨p, i, rfl⟩ := cls_cutrow hc
    have C := T.i "CutRow"
    refine ⟨_, pss_one (ps_ret (pe_tup (pa_cons pe_str (pa_cons (pe_fld (pv 0) rfl) (pa_cons (pe_fld (pv 0) rfl) pa_nil))))), ?_⟩
    exact ⟨_, rfl, e, _, dx, _, _, rfl, he, C.cl, C.n "part", lk_here, _, rfl, e, _, dx, _, _, rfl, he, C.cl, C.n "at", (lk_past (by decide +kernel)).trans lk_here, by show 3 ≤ sizeLine; decide, fun a na => told_end k hq na⟩
end
/-! ### tuples cut and joined -/
theorem cut_take {xs : List V} {n : Nat} : cutV xs none (some (n : Int)) = xs.take n := by
  unfold cutV
  rw [HT.sIx_nat, HT.sIx_none, List.drop_zero, Nat.sub_zero]
  by_cases h : n ≤ xs.length
  · rw [Nat.min_eq_left h]
  · rw [Nat.min_eq_right (by omega), List.take_of_length_le (Nat.le_refl _), List.take_of_length_le (by omega)]
theorem cut_drop {xs : List V} {n : Nat} : cutV xs (some (n : Int)) none = xs.drop n := by
  unfold cutV
  rw [HT.sIx_nat, HT.sIx_none]
  by_cases h : n ≤ xs.length
  · rw [Nat.min_eq_left h, List.take_of_length_le (by rw [List.length_drop]; omega)]
  · rw [Nat.min_eq_right (by omega), Nat.sub_self, List.take_zero, List.drop_of_length_le (by omega)]
section
variable {K : PySem.W.Frag} {H : Hp} {Q : VK} {a b : Addr} {xs ys : List V} {lo hi : Option Int}
theorem slA (h : H a = some (.tup xs)) (k : ∀ p H', Same H H' → H' p = some (.tup (cutV xs lo hi)) → Q (.ref p) H') : rSlA K (.ref a) lo hi H Q := by
  refine ⟨a, xs, rfl, SqT.of h, fun hw => ?_, fun _ p np => k p _ (same_new np) upd_same⟩
  refine k a H (Same.refl H) ?_
  unfold cutV
  rw [hw.1, hw.2, List.drop_zero, Nat.sub_zero, List.take_of_length_le (Nat.le_refl _)]
  exact h
theorem catA (h : H a = some (.tup xs)) (h' : H b = some (.tup ys)) (hz : xs.length + ys.length ≤ 1000) (k : ∀ p H', Same H H' → H' p = some (.tup (xs ++ ys)) → Q (.ref p) H') : rCatA K (.ref a) (.ref b) H Q := by
  refine ⟨a, b, xs, ys, rfl, rfl, SqT.of h, SqT.of h', size_ok hz, fun e => ?_, fun _ e => ?_, fun _ _ p np => k p _ (same_new np) upd_same⟩
  · subst e
    exact k b H (Same.refl H) h'
  · subst e
    exact k a H (Same.refl H) (by rw [List.append_nil]; exact h)
end
/-! ### is_far -/
def farB (t : Tab) : Deed → Bool
  | .cell _ r c _ => decide (t.length ≤ r) || decide (wideOf t ≤ c)
  | .addrow _ i r => decide (t.length < i) || !decide (r.length = wideOf t)
  | .cutrow _ i => decide (t.length ≤ i) || decide (t.length = 1)
  | _ => true
def outF (t : Tab) : Deed → Tab
  | .cell _ r c z => t.set r ((t.getD r []).set c z)
  | .addrow _ i r => t.take i ++ [r] ++ t.drop i
  | .cutrow _ i => t.eraseIdx i
  | _ => t
def spFar (K : PySem.W.Frag) (c : Str) : Sp := fun vs H Q _ => ∃ (e a : Addr) (D : Deed) (t : Tab), D.cls = c ∧ vs = [.ref e, .ref a] ∧ EditAt K H e D ∧ TabAt H a t ∧ TabOk t ∧ Q (.bl (farB t D)) H
def spOut (K : PySem.W.Frag) (c : Str) : Sp := fun vs H Q _ => ∃ (e a : Addr) (D : Deed) (t : Tab), D.cls = c ∧ vs = [.ref e, .ref a] ∧ EditAt K H e D ∧ TabAt H a t ∧ TabOk t ∧ farB t D = false ∧ ∀ b H', Same H H' → TabAt H' b (outF t D) → Q (.ref b) H'
/-- the first row -/
theorem tab_head {H : Hp} {ps : List Addr} {t : Tab} (h : Paired (RowAt H) ps t) (o : TabOk t) : ∃ a r, ps[0]? = some a ∧ RowAt H a r ∧ r.length = wideOf t := by
  cases h with
  | nil => exact absurd o.n1 (by simp)
  | cons r t => exact ⟨_, _, rfl, r, rfl⟩
theorem ref_at {ps : List Addr} {i : Nat} {a : Addr} (h : ps[i]? = some a) : (ps.map V.ref)[i]? = some (.ref a) := by
  rw [List.getElem?_map, h] <;> rfl
section
variable {P : Program} {w : World} {K : PySem.W.Frag} {mg : Str → Option Value} {base : Heap}
abbrev dFar (c q : Str) (i : Nat) : He.DefD := dme c "is_far" q i 2 []
theorem scFar3 : FnScope ["self", "rows"] ["self", "rows"] (dFar "Cell" "Cell.is_far" 30).scope := ⟨rfl, rfl, rfl, by decide +kernel, rfl, by decide +kernel, by decide +kernel⟩
theorem scFar4 : FnScope ["self", "rows"] ["self", "rows"] (dFar "AddRow" "AddRow.is_far" 31).scope := ⟨rfl, rfl, rfl, by decide +kernel, rfl, by decide +kernel, by decide +kernel⟩
theorem scFar5 : FnScope ["self", "rows"] ["self", "rows"] (dFar "CutRow" "CutRow.is_far" 32).scope := ⟨rfl, rfl, rfl, by decide +kernel, rfl, by decide +kernel, by decide +kernel⟩
theorem or_val {c d : Bool} {Q : VK} {H : Hp} {tb : VK → Prop} (k : Q (.bl (c || d)) H) (h : c = false → Q (.bl d) H → tb Q) : if c = true then Q (.bl true) H else tb Q := by
  cases c with
  | true => exact iteT k
  | false => exact iteF (h rfl k)
theorem ok_far3 (F : Fn K (dFar "Cell" "Cell.is_far" 30)) (T : Txt K mg) : FnR P w K mg base CX0 1 (ma K (ga K "Cell") "is_far") (spFar K "Cell") := by
  refine fnr F scFar3 (fun _ _ _ _ _ _ us hl => match us, hl with | [_, _], _ => rfl) (fun vs H Q E h => ?_) (fun cdv A outer s H vs Q E hr h => ?_)
  · obtain ⟨e, a, D, t, _, rfl, _⟩ := h
    rfl
  · obtain ⟨e, a, D, t, hc, rfl, ⟨dx, q, he, hq⟩, ⟨ps, ha, hp⟩, o, k⟩ := h
    obtain ⟨p, r, c, z, rfl⟩ := cls_cell hc
    have C := T.i "Cell"
    obtain ⟨a0, r0, h0, h1, h2⟩ := tab_head hp o
    refine ⟨_, pss_one (ps_ret (pe_or (pe_cmpR op_ge (pe_fld (pv 0) rfl) (pe_callB call_len_seq rfl (T.f "len") (by decide +kernel) (pa_cons (pv 1) pa_nil)) (nomark _))
      (pe_one (pe_cmpR op_ge (pe_fld (pv 0) rfl) (pe_callB call_len_seq rfl (T.f "len") (by decide +kernel) (pa_cons (pe_ix ix_tup (pv 1) pe_int (fun _ _ => rfl)) pa_nil)) (nomark _))))), ?_⟩
    refine ⟨_, rfl, e, _, dx, _, _, rfl, he, C.cl, C.n "row", (lk_past (by decide +kernel)).trans lk_here, _, rfl, a, _, rfl, .inr (SqT.of ha), _, _, rfl, rfl, _, rfl, ?_⟩
    have e1 : decide (((ps.map V.ref).length : Int) ≤ (r : Int)) = decide (t.length ≤ r) := by rw [rows_len hp]; exact decide_eq_decide.mpr (by omega)
    rw [e1]
    refine or_val (d := decide (wideOf t ≤ c)) k fun _ k2 => ?_
    refine ⟨_, rfl, e, _, dx, _, _, rfl, he, C.cl, C.n "column", (lk_past (by decide +kernel)).trans ((lk_past (by decide +kernel)).trans lk_here), _, rfl, a, _, _, _, rfl, rfl, SqT.of ha, atI_nat (j := 0) (ref_at h0), a0, _, rfl, .inr (SqT.of h1), _, _, rfl, rfl, ?_⟩
    have e2 : decide (((r0.map V.str).length : Int) ≤ (c : Int)) = decide (wideOf t ≤ c) := by rw [List.length_map, h2]; exact decide_eq_decide.mpr (by omega)
    show Q (.bl (decide (((r0.map V.str).length : Int) ≤ (c : Int)))) H
    rw [e2]
    exact k2
theorem ok_far4 (F : Fn K (dFar "AddRow" "AddRow.is_far" 31)) (T : Txt K mg) : FnR P w K mg base CX0 1 (ma K (ga K "AddRow") "is_far") (spFar K "AddRow") := by
  refine fnr F scFar4 (fun _ _ _ _ _ _ us hl => match us, hl with | [_, _], _ => rfl) (fun vs H Q E h => ?_) (fun cdv A outer s H vs Q E hr h => ?_)
  · obtain ⟨e, a, D, t, _, rfl, _⟩ := h
    rfl
  · obtain ⟨e, a, D, t, hc, rfl, ⟨dx, q, he, hq⟩, ⟨ps, ha, hp⟩, o, k⟩ := h
    obtain ⟨p, i, r, rfl⟩ := cls_addrow hc
    have C := T.i "AddRow"
    have hq' : H q = some (.tup (r.map V.str)) := hq
    obtain ⟨a0, r0, h0, h1, h2⟩ := tab_head hp o
    refine ⟨_, pss_one (ps_ret (pe_or (pe_cmpR op_gt (pe_fld (pv 0) rfl) (pe_callB call_len_seq rfl (T.f "len") (by decide +kernel) (pa_cons (pv 1) pa_nil)) (nomark _))
      (pe_one (pe_cmpR op_ne (pe_callB call_len_seq rfl (T.f "len") (by decide +kernel) (pa_cons (pe_fld (pv 0) rfl) pa_nil)) (pe_callB call_len_seq rfl (T.f "len") (by decide +kernel) (pa_cons (pe_ix ix_tup (pv 1) pe_int (fun _ _ => rfl)) pa_nil)) (nomark _))))), ?_⟩
    refine ⟨_, rfl, e, _, dx, _, _, rfl, he, C.cl, C.n "at", (lk_past (by decide +kernel)).trans lk_here, _, rfl, a, _, rfl, .inr (SqT.of ha), _, _, rfl, rfl, _, rfl, ?_⟩
    have e1 : decide (((ps.map V.ref).length : Int) < (i : Int)) = decide (t.length < i) := by rw [rows_len hp]; exact decide_eq_decide.mpr (by omega)
    rw [e1]
    refine or_val (d := !decide (r.length = wideOf t)) k fun _ k2 => ?_
    refine ⟨_, rfl, e, _, dx, _, _, rfl, he, C.cl, C.n "cells", (lk_past (by decide +kernel)).trans ((lk_past (by decide +kernel)).trans lk_here), q, _, rfl, .inr (SqT.of hq'), _, rfl, a, _, _, _, rfl, rfl, SqT.of ha, atI_nat (j := 0) (ref_at h0), a0, _, rfl, .inr (SqT.of h1), rfl, ?_⟩
    have e2 : decide (V.int ((r.map V.str).length : Int) = V.int ((r0.map V.str).length : Int)) = decide (r.length = wideOf t) := by
      rw [List.length_map, List.length_map, h2]
      exact decide_eq_decide.mpr ⟨fun z => by have := V.int.inj z; omega, fun z => by rw [z]⟩
    rw [e2]
    exact k2
theorem ok_far5 (F : Fn K (dFar "CutRow" "CutRow.is_far" 32)) (T : Txt K mg) : FnR P w K mg base CX0 1 (ma K (ga K "CutRow") "is_far") (spFar K "CutRow") := by
  refine fnr F scFar5 (fun _ _ _ _ _ _ us hl => match us, hl with | [_, _], _ => rfl) (fun vs H Q E h => ?_) (fun cdv A outer s H vs Q E hr h => ?_)
  · obtain ⟨e, a, D, t, _, rfl, _⟩ := h
    rfl
  · obtain ⟨e, a, D, t, hc, rfl, ⟨dx, q, he, hq⟩, ⟨ps, ha, hp⟩, o, k⟩ := h
    obtain ⟨p, i, rfl⟩ := cls_cutrow hc
    have C := T.i "CutRow"
    refine ⟨_, pss_one (ps_ret (pe_or (pe_cmpR op_ge (pe_fld (pv 0) rfl) (pe_callB call_len_seq rfl (T.f "len") (by decide +kernel) (pa_cons (pv 1) pa_nil)) (nomark _))
      (pe_one (pe_cmpR op_eq (pe_callB call_len_seq rfl (T.f "len") (by decide +kernel) (pa_cons (pv 1) pa_nil)) pe_int (nomark _))))), ?_⟩
    refine ⟨_, rfl, e, _, dx, _, _, rfl, he, C.cl, C.n "at", (lk_past (by decide +kernel)).trans lk_here, _, rfl, a, _, rfl, .inr (SqT.of ha), _, _, rfl, rfl, _, rfl, ?_⟩
    have e1 : decide (((ps.map V.ref).length : Int) ≤ (i : Int)) = decide (t.length ≤ i) := by rw [rows_len hp]; exact decide_eq_decide.mpr (by omega)
    rw [e1]
    refine or_val (d := decide (t.length = 1)) k fun _ k2 => ?_
    refine ⟨_, rfl, a, _, rfl, .inr (SqT.of ha), rfl, ?_⟩
    have e2 : decide (V.int ((ps.map V.ref).length : Int) = V.int 1) = decide (t.length = 1) := by
      rw [rows_len hp]
      exact decide_eq_decide.mpr ⟨fun z => by have := V.int.inj z; omega, fun z => by rw [z]; rfl⟩
    rw [e2]
    exact k2
end
end MK
/-! outcome of the edits of tables and of Splice. -/
namespace MK
open PySem PySem.Spec PyProof.Rows L2
open He (ga ma)
theorem cut_set {α : Type} {xs : List α} {n : Nat} {v : α} (h : n < xs.length) : xs.take n ++ [v] ++ xs.drop (n + 1) = xs.set n v := by
  rw [List.set_eq_take_append_cons_drop, if_pos h, List.append_assoc] <;> rfl
theorem get_row {H : Hp} {ps : List Addr} {t : Tab} {r : Nat} (h : Paired (RowAt H) ps t) (hr : r < t.length) : ∃ a, ps[r]? = some a ∧ RowAt H a (t.getD r []) := by
  have e : t[r]? = some (t.getD r []) := by
    rw [List.getD_eq_getElem?_getD, List.getElem?_eq_getElem hr] <;> rfl
  exact pd_get h e
/-- the text that comes of a splice -/
def spOutS (K : PySem.W.Frag) : Sp := fun vs H Q _ => ∃ (e : Addr) (p : Str) (i n : Nat) (z o : Str), vs = [.ref e, .str o] ∧ EditAt K H e (.splice p i n z) ∧ o.length ≤ 60 ∧ z.length ≤ 60 ∧ Q (.str (newS o i n z)) H
section
variable {P : Program} {w : World} {K : PySem.W.Frag} {mg : Str → Option Value} {base : Heap}
abbrev dOut (c q : Str) (i j : Nat) : He.DefD := dme c "outcome" q i j []
theorem scOut2 : FnScope ["self", "old"] ["self", "old"] (dOut "Splice" "Splice.outcome" 28 2).scope := ⟨rfl, rfl, rfl, by decide +kernel, rfl, by decide +kernel, by decide +kernel⟩
theorem scOut3 : FnScope ["self", "rows", "row"] ["self", "rows"] (dOut "Cell" "Cell.outcome" 30 3).scope := ⟨rfl, rfl, rfl, by decide +kernel, rfl, by decide +kernel, by decide +kernel⟩
theorem scOut4 : FnScope ["self", "rows"] ["self", "rows"] (dOut "AddRow" "AddRow.outcome" 31 3).scope := ⟨rfl, rfl, rfl, by decide +kernel, rfl, by decide +kernel, by decide +kernel⟩
theorem scOut5 : FnScope ["self", "rows"] ["self", "rows"] (dOut "CutRow" "CutRow.outcome" 32 3).scope := ⟨rfl, rfl, rfl, by decide +kernel, rfl, by decide +kernel, by decide +kernel⟩
theorem ok_out2 (F : Fn K (dOut "Splice" "Splice.outcome" 28 2)) (T : Txt K mg) : FnR P w K mg base CX0 1 (ma K (ga K "Splice") "outcome") (spOutS K) := by
  refine fnr F scOut2 (fun _ _ _ _ _ _ us hl => match us, hl with | [_, _], _ => rfl) (fun vs H Q E h => ?_) (fun cdv A outer s H vs Q E hr h => ?_)
  · obtain ⟨e, p, i, n, z, o, rfl, _⟩ := h
    rfl
  · obtain ⟨e, p, i, n, z, o, rfl, ⟨dx, q, he, hq⟩, ho, hz, k⟩ := h
    have C := T.i "Splice"
    refine ⟨_, pss_one (ps_ret (pe_op op_add_str (pe_op op_add_str (pe_slice sl_str (pv 1) po_none (po_some (pe_fld (pv 0) rfl))) (pe_fld (pv 0) rfl)) (pe_slice sl_str (pv 1) (po_some (pe_op op_add (pe_fld (pv 0) rfl) (pe_fld (pv 0) rfl))) po_none))), ?_⟩
    have l1 := cutS_len o none (some (i : Int))
    have l2 := cutS_len o (some ((i : Int) + (n : Int))) none
    refine ⟨_, rfl, _, rfl, e, _, dx, _, _, rfl, he, C.cl, C.n "at", (lk_past (by decide +kernel)).trans ((lk_past (by decide +kernel)).trans lk_here), _, rfl, o, rfl, size_ok (by omega), ?_⟩
    refine ⟨_, rfl, e, _, dx, _, _, rfl, he, C.cl, C.n "text", (lk_past (by decide +kernel)).trans lk_here, _, _, rfl, rfl, size_ok (by omega), ?_⟩
    refine ⟨_, rfl, _, rfl, e, _, dx, _, _, rfl, he, C.cl, C.n "at", (lk_past (by decide +kernel)).trans ((lk_past (by decide +kernel)).trans lk_here), ?_⟩
    refine ⟨_, rfl, e, _, dx, _, _, rfl, he, C.cl, C.n "size", (lk_past (by decide +kernel)).trans ((lk_past (by decide +kernel)).trans ((lk_past (by decide +kernel)).trans lk_here)), _, _, rfl, rfl, _, rfl, o, rfl, size_ok (by omega), ?_⟩
    exact ⟨_, _, rfl, rfl, size_ok (by rw [str_len]; omega), k⟩
theorem ok_out3 (F : Fn K (dOut "Cell" "Cell.outcome" 30 3)) (T : Txt K mg) : FnR P w K mg base CX0 1 (ma K (ga K "Cell") "outcome") (spOut K "Cell") := by
  refine fnr F scOut3 (fun _ _ _ _ _ _ us hl => match us, hl with | [_, _], _ => rfl) (fun vs H Q E h => ?_) (fun cdv A outer s H vs Q E hr h => ?_)
  · obtain ⟨e, a, D, t, _, rfl, _⟩ := h
    rfl
  · obtain ⟨e, a, D, t, hc, rfl, ⟨dx, q, he, hq⟩, ⟨ps, ha, hp⟩, o, hf, k⟩ := h
    obtain ⟨p, r, c, z, rfl⟩ := cls_cell hc
    have C := T.i "Cell"
    obtain ⟨w1, w2, w3⟩ := tab_wide o
    have hf' : (decide (t.length ≤ r) || decide (wideOf t ≤ c)) = false := hf
    rw [Bool.or_eq_false_iff, decide_eq_false_iff_not, decide_eq_false_iff_not] at hf'
    obtain ⟨f1, f2⟩ := hf'
    have n6 := o.n6
    obtain ⟨b, hb, rb⟩ := get_row hp (r := r) (by omega)
    have wr : (t.getD r []).length = wideOf t := (w1 _ (get_mem (by omega))).1
    have lp := pd_len hp
    refine ⟨_, pss_cons (ps_set (i := 2) scOut3.nd rfl (Or.inl rfl) (pe_ix ix_tup (pv 1) (pe_fld (pv 0) rfl) (fun _ _ => rfl)))
      (pss_cons (ps_set (i := 2) scOut3.nd rfl (Or.inl rfl) (pe_op op_catA (pe_op op_catA (pe_slice sl_tupA (pv 2) po_none (po_some (pe_fld (pv 0) rfl))) (pe_tup (pa_cons (pe_fld (pv 0) rfl) pa_nil))) (pe_slice sl_tupA (pv 2) (po_some (pe_op op_add (pe_fld (pv 0) rfl) pe_int)) po_none)))
      (pss_one (ps_ret (pe_op op_catA (pe_op op_catA (pe_slice sl_tupA (pv 1) po_none (po_some (pe_fld (pv 0) rfl))) (pe_tup (pa_cons (pv 2) pa_nil))) (pe_slice sl_tupA (pv 1) (po_some (pe_op op_add (pe_fld (pv 0) rfl) pe_int)) po_none))))), ?_⟩
    refine ⟨_, rfl, _, rfl, e, _, dx, _, _, rfl, he, C.cl, C.n "row", (lk_past (by decide +kernel)).trans lk_here, a, _, _, _, rfl, rfl, SqT.of ha, atI_nat (ref_at hb), ?_⟩
    -- row[:column]
    refine ⟨_, rfl, _, rfl, e, _, dx, _, _, rfl, he, C.cl, C.n "column", (lk_past (by decide +kernel)).trans ((lk_past (by decide +kernel)).trans lk_here), _, rfl, slA rb fun p1 H1 s1 h1 => ?_⟩
    rw [cut_take] at h1
    refine ⟨_, rfl, e, _, dx, _, _, rfl, s1 _ _ he, C.cl, C.n "text", (lk_past (by decide +kernel)).trans ((lk_past (by decide +kernel)).trans ((lk_past (by decide +kernel)).trans lk_here)), by show 1 ≤ sizeLine; decide, fun p2 n2 => ?_⟩
    have s2 : Same H (upd H1 p2 (.tup [.str z])) := s1.trans (same_new n2)
    refine catA (same_new n2 _ _ h1) upd_same (by rw [List.length_take, List.length_map]; show _ + 1 ≤ 1000; omega) fun p3 H3 s3 h3 => ?_
    have s03 := s2.trans s3
    refine ⟨_, rfl, _, rfl, e, _, dx, _, _, rfl, s03 _ _ he, C.cl, C.n "column", (lk_past (by decide +kernel)).trans ((lk_past (by decide +kernel)).trans lk_here), _, _, rfl, rfl, _, rfl, ?_⟩
    dsimp only [tNoPart]
    refine slA (s03 _ _ rb) fun p4 H4 s4 h4 => ?_
    have e4 : cutV ((t.getD r []).map V.str) (some ((c : Int) + 1)) none = ((t.getD r []).map V.str).drop (c + 1) := cut_drop (n := c + 1)
    rw [e4] at h4
    have s04 := s03.trans s4
    refine catA (s4 _ _ h3) h4 (by rw [List.length_append, List.length_take, List.length_drop, List.length_map]; show _ + 1 + _ ≤ 1000; omega) fun p5 H5 s5 h5 => ?_
    have s05 := s04.trans s5
    rw [cut_set (by rw [List.length_map]; omega)] at h5
    have h5' : RowAt H5 p5 ((t.getD r []).set c z) := by
      rw [RowAt, h5, List.map_set]
    -- rows[:row]
    refine ⟨_, rfl, _, rfl, e, _, dx, _, _, rfl, s05 _ _ he, C.cl, C.n "row", (lk_past (by decide +kernel)).trans lk_here, _, rfl, slA (s05 _ _ ha) fun p6 H6 s6 h6 => ?_⟩
    rw [cut_take] at h6
    refine ⟨_, rfl, by show 1 ≤ sizeLine; decide, fun p7 n7 => ?_⟩
    have s07 : Same H (upd H6 p7 (.tup [.ref p5])) := (s05.trans s6).trans (same_new n7)
    refine catA (same_new n7 _ _ h6) upd_same (by rw [List.length_take, List.length_map]; show _ + 1 ≤ 1000; omega) fun p8 H8 s8 h8 => ?_
    have s08 := s07.trans s8
    refine ⟨_, rfl, _, rfl, e, _, dx, _, _, rfl, s08 _ _ he, C.cl, C.n "row", (lk_past (by decide +kernel)).trans lk_here, _, _, rfl, rfl, _, rfl, ?_⟩
    dsimp only [tNoPart]
    refine slA (s08 _ _ ha) fun p9 H9 s9 h9 => ?_
    have e9 : cutV (ps.map V.ref) (some ((r : Int) + 1)) none = (ps.map V.ref).drop (r + 1) := cut_drop (n := r + 1)
    rw [e9] at h9
    refine catA (s9 _ _ h8) h9 (by rw [List.length_append, List.length_take, List.length_drop, List.length_map]; show _ + 1 + _ ≤ 1000; omega) fun p10 H10 s10 h10 => ?_
    have s010 := (s08.trans s9).trans s10
    rw [cut_set (by rw [List.length_map]; omega)] at h10
    refine k _ _ s010 ⟨ps.set r p5, by rw [h10, List.map_set], ?_⟩
    have m1 : Tups H H10 := Tups.of s010
    have m2 : Tups H5 H10 := Tups.of (((s6.trans (same_new n7)).trans s8).trans (s9.trans s10))
    exact pd_set (RowAt.mono m2 h5') r (pd_mono (fun x y z => RowAt.mono m1 z) hp)
theorem ok_out4 (F : Fn K (dOut "AddRow" "AddRow.outcome" 31 3)) (T : Txt K mg) : FnR P w K mg base CX0 1 (ma K (ga K "AddRow") "outcome") (spOut K "AddRow") := by
  refine fnr F scOut4 (fun _ _ _ _ _ _ us hl => match us, hl with | [_, _], _ => rfl) (fun vs H Q E h => ?_) (fun cdv A outer s H vs Q E hr h => ?_)
  · obtain ⟨e, a, D, t, _, rfl, _⟩ := h
    rfl
  · obtain ⟨e, a, D, t, hc, rfl, ⟨dx, q, he, hq⟩, ⟨ps, ha, hp⟩, o, hf, k⟩ := h
    obtain ⟨p, i, r, rfl⟩ := cls_addrow hc
    have C := T.i "AddRow"
    have hq' : RowAt H q r := hq
    have n6 := o.n6
    have lp := pd_len hp
    refine ⟨_, pss_one (ps_ret (pe_op op_catA (pe_op op_catA (pe_slice sl_tupA (pv 1) po_none (po_some (pe_fld (pv 0) rfl))) (pe_tup (pa_cons (pe_fld (pv 0) rfl) pa_nil))) (pe_slice sl_tupA (pv 1) (po_some (pe_fld (pv 0) rfl)) po_none))), ?_⟩
    refine ⟨_, rfl, _, rfl, e, _, dx, _, _, rfl, he, C.cl, C.n "at", (lk_past (by decide +kernel)).trans lk_here, _, rfl, slA ha fun p6 H6 s6 h6 => ?_⟩
    rw [cut_take] at h6
    refine ⟨_, rfl, e, _, dx, _, _, rfl, s6 _ _ he, C.cl, C.n "cells", (lk_past (by decide +kernel)).trans ((lk_past (by decide +kernel)).trans lk_here), by show 1 ≤ sizeLine; decide, fun p7 n7 => ?_⟩
    have s07 : Same H (upd H6 p7 (.tup [.ref q])) := s6.trans (same_new n7)
    refine catA (same_new n7 _ _ h6) upd_same (by rw [List.length_take, List.length_map]; show _ + 1 ≤ 1000; omega) fun p8 H8 s8 h8 => ?_
    have s08 := s07.trans s8
    refine ⟨_, rfl, _, rfl, e, _, dx, _, _, rfl, s08 _ _ he, C.cl, C.n "at", (lk_past (by decide +kernel)).trans lk_here, _, rfl, ?_⟩
    dsimp only [tNoPart]
    refine slA (s08 _ _ ha) fun p9 H9 s9 h9 => ?_
    rw [cut_drop] at h9
    refine catA (s9 _ _ h8) h9 (by rw [List.length_append, List.length_take, List.length_drop, List.length_map]; show _ + 1 + _ ≤ 1000; omega) fun p10 H10 s10 h10 => ?_
    have s010 := (s08.trans s9).trans s10
    have m1 : Tups H H10 := Tups.of s010
    refine k _ _ s010 ⟨ps.take i ++ [q] ++ ps.drop i, by rw [h10, List.map_append, List.map_append, List.map_take, List.map_drop] <;> rfl, ?_⟩
    have hp' := pd_mono (fun x y z => RowAt.mono m1 z) hp
    exact pd_app (pd_app (pd_take i hp') (.cons (RowAt.mono m1 hq') .nil)) (pd_drop i hp')
theorem ok_out5 (F : Fn K (dOut "CutRow" "CutRow.outcome" 32 3)) (T : Txt K mg) : FnR P w K mg base CX0 1 (ma K (ga K "CutRow") "outcome") (spOut K "CutRow") := by
  refine fnr F scOut5 (fun _ _ _ _ _ _ us hl => match us, hl with | [_, _], _ => rfl) (fun vs H Q E h => ?_) (fun cdv A outer s H vs Q E hr h => ?_)
  · obtain ⟨e, a, D, t, _, rfl, _⟩ := h
    rfl
  · obtain ⟨e, a, D, t, hc, rfl, ⟨dx, q, he, hq⟩, ⟨ps, ha, hp⟩, o, hf, k⟩ := h
    obtain ⟨p, i, rfl⟩ := cls_cutrow hc
    have C := T.i "CutRow"
    have n6 := o.n6
    have lp := pd_len hp
    refine ⟨_, pss_one (ps_ret (pe_op op_catA (pe_slice sl_tupA (pv 1) po_none (po_some (pe_fld (pv 0) rfl))) (pe_slice sl_tupA (pv 1) (po_some (pe_op op_add (pe_fld (pv 0) rfl) pe_int)) po_none))), ?_⟩
    refine ⟨_, rfl, _, rfl, e, _, dx, _, _, rfl, he, C.cl, C.n "at", (lk_past (by decide +kernel)).trans lk_here, _, rfl, slA ha fun p6 H6 s6 h6 => ?_⟩
    rw [cut_take] at h6
    refine ⟨_, rfl, _, rfl, e, _, dx, _, _, rfl, s6 _ _ he, C.cl, C.n "at", (lk_past (by decide +kernel)).trans lk_here, _, _, rfl, rfl, _, rfl, ?_⟩
    dsimp only [tNoPart]
    refine slA (s6 _ _ ha) fun p9 H9 s9 h9 => ?_
    have e9 : cutV (ps.map V.ref) (some ((i : Int) + 1)) none = (ps.map V.ref).drop (i + 1) := cut_drop (n := i + 1)
    rw [e9] at h9
    refine catA (s9 _ _ h6) h9 (by rw [List.length_take, List.length_drop, List.length_map]; omega) fun p10 H10 s10 h10 => ?_
    have s010 := (s6.trans s9).trans s10
    have m1 : Tups H H10 := Tups.of s010
    refine k _ _ s010 ⟨ps.eraseIdx i, ?_, pd_erase i (pd_mono (fun x y z => RowAt.mono m1 z) hp)⟩
    rw [h10, ← List.map_take, ← List.map_drop, ← List.map_append, List.eraseIdx_eq_take_drop_succ]
end
end MK
/-! EditError.__init__, the refusals, need. -/
namespace MK
open PySem PySem.Spec PyProof.Rows L2
open He (ga ma)
/-- the fields of an error, the last one first -/
def xf (p ch : V) : List (Str × V) := [("choice", ch), ("part", p)]
def spErr (K : PySem.W.Frag) : Sp := fun vs H Q _ => ∃ (a : Addr) (c : Str) (p ch : V), vs = [.ref a, p, ch] ∧ errN.contains c = true ∧ H a = some (exo a (ga K c) none) ∧
  ∀ d, H d = none → d ≠ a → Q .non (upd (upd (upd H d (exd d [("part", p)])) a (exo a (ga K c) (some d))) d (exd d (xf p ch)))
abbrev dErr : He.DefD := dme "EditError" "__init__" "EditError.__init__" 4 0 [.non]
/-- EditError's __init__ as it is called with all its arguments -/
structure ErrFn (P : Program) (w : World) (K : PySem.W.Frag) (mg : Str → Option Value) (base : Heap) : Prop where
  ex : ∃ fd, FnOk P w K mg base CX0 1 (ma K (ga K "EditError") "__init__") fd ["self", "part", "choice"] (spErr K) ∧ Binds K fd ["self", "part", "choice"] []
def Due.err : Due → Str
  | .good _ => ""
  | .noPart => "NoPart"
  | .wrongKind => "WrongKind"
  | .far => "Far"
  | .long => "TooLong"
/-- the error of the class c, about the part p at the choice ch -/
def Fails (K : PySem.W.Frag) (H : Hp) (E : XK) (p : Str) (ch : V) (c : Str) : Prop := ∀ x H', Same H H' → H' x = some (.xd (xf (.str p) ch)) → E (.ref (ga K c)) (some x) H'
/-- how an asking ends -/
def Asks (K : PySem.W.Frag) (H : Hp) (Q : VK) (E : XK) (p : Str) (ch : V) : Due → Prop
  | .good _ => ∀ H', Same H H' → Q .non H'
  | d => Fails K H E p ch d.err
section
variable {P : Program} {w : World} {K : PySem.W.Frag} {mg : Str → Option Value} {base : Heap}
theorem scErr : FnScope ["self", "part", "choice"] ["self", "part", "choice"] dErr.scope := ⟨rfl, rfl, rfl, by decide +kernel, rfl, by decide +kernel, by decide +kernel⟩
theorem ok_err (F : Fn K dErr) (T : Txt K mg) : ErrFn P w K mg base := by
  obtain ⟨fd, F, b⟩ := binds_one (ps := ["self", "part", "choice"]) F (fun T' kV doc pm an cdv ct us its h1 h2 => match us, h1, its, h2 with | [_, _, _], _, [_], _ => ⟨_, rfl, rfl⟩) rfl
  refine ⟨fd, F.ok scErr (fun vs H Q E h => ?_) (fun cdv A outer s H vs Q E hr h => ?_), b⟩
  · obtain ⟨a, c, p, ch, rfl, _⟩ := h
    rfl
  · obtain ⟨a, c, p, ch, rfl, hc, ha, k⟩ := h
    have C := T.err c hc
    refine ⟨_, PSs.nox (pss_cons (ps_expr (pe_veown rfl (T.g "LeafError") T.rdL T.fcL (pa_cons (pv 0) (pa_cons pe_str pa_nil)))) (pss_cons (ps_ost (pv 0) (pv 1)) (pss_one (ps_ost (pv 0) (pv 2))))), ?_⟩
    refine ⟨_, rfl, a, ga K c, _, rfl, by show 1 ≤ 1000; decide, C.ox, ha, ?_⟩
    refine ⟨_, rfl, _, rfl, a, ga K c, rfl, C.ox, C.nP, .inl ⟨ha, fun dx nd ne => ?_⟩⟩
    refine ⟨_, rfl, _, rfl, a, ga K c, rfl, C.ox, C.nC, .inr ⟨dx, _, upd_same, Eq.trans (upd_ne ne) upd_same, by show 1 ≤ 900; decide, k dx nd ne⟩⟩
section
variable {X : Cx} {c : Str} {e : Expr} {es : List Expr} {ta : TA} {p pos : Pos}
theorem pmk_err (G : ErrFn X.prog X.w X.K X.mg X.base) (T : Txt X.K X.mg) (hr : Room 2 X.A) (hc : errN.contains c = true) (gc : gloN.contains c = true) (hg : Gl X c) (ha : PA X (e :: es) ta)
    (hdb : (c == ("__debug__" : Str)) = false := by decide) (he : starEach (e :: es) X.env = (false, eval e X.env) :: starEach es X.env := by rfl) (hpl : (backTo pos (starEach es X.env)).any (·.1) = false := by rfl) :
    PMk X (.Call (.Name c p) (e :: es) [] pos) (tMkO (ga X.K c) (spErr X.K) [] ta) := by
  obtain ⟨fd, F, b⟩ := G.ex
  have C := T.err c hc
  exact pmk_oex C.ox C.iC T.tI F hr b .nil pass0 hg (T.glo c gc).1 ha hdb he hpl
end
theorem mk_err {c : Str} {H : Hp} {Q : XK} {p ch : V} (hc : errN.contains c = true) (k : ∀ x H', Same H H' → H' x = some (.xd (xf p ch)) → Q (.ref (ga K c)) (some x) H') :
    [p, ch].length ≤ 1000 ∧ ∀ a, H a = none → spErr K (.ref a :: ([p, ch] ++ [])) (upd H a (exo a (ga K c) none))
      (fun v H2 => v = .non ∧ ∃ (d : Addr) (fs : List (Str × V)), H2 a = some (exo a (ga K c) (some d)) ∧ H2 d = some (exd d fs) ∧ H d = none ∧ Q (.ref (ga K c)) (some d) (upd (del H2 a) d (.xd fs))) (fun _ _ _ => False) := by
  refine ⟨by show 2 ≤ 1000; decide, fun a na => ⟨a, c, p, ch, rfl, hc, upd_same, fun d nd nda => ⟨rfl, d, xf p ch, ?_, upd_same, ?_, k d _ (fun b o q => ?_) upd_same⟩⟩⟩
  · rw [upd_ne nda.symm, upd_same]
  · rw [upd_ne nda] at nd
    exact nd
  · have nd' : H d = none := by
      rw [upd_ne nda] at nd
      exact nd
    have hb : b ≠ a := ne_of_none q na
    have hd : b ≠ d := ne_of_none q nd'
    rw [upd_ne hd, del_ne hb, upd_ne hd, upd_ne hb, upd_ne hd, upd_ne hb]
    exact q
/-! ### refuse -/
def Deed.up : Deed → Str
  | .write _ _ => "Write"
  | .splice _ _ _ _ => "Splice"
  | _ => "TableEdit"
def Deed.isTab : Deed → Prop
  | .cell _ _ _ _ => True
  | .addrow _ _ _ => True
  | .cutrow _ _ => True
  | _ => False
def spRefuse (K : PySem.W.Frag) (Z : Deed → Prop) : Sp := fun vs H Q E => ∃ (e p r : Addr) (D : Deed) (kvs : List (Key × V)) (l : Recs) (R : Rec) (ch : V), Z D ∧ vs = [.ref e, .ref p, ch] ∧ D.Ok ∧ EditAt K H e D ∧ PlainAt K H p r ∧ H r = some (.dK kvs) ∧
  RecsAt H kvs l ∧ l.lookup D.part = some R ∧ R.Ok ∧ Asks K H Q E D.part ch (act R.cont D)
abbrev dRef (c q : Str) (i j : Nat) : He.DefD := dme c "refuse" q i j []
theorem scRef1 : FnScope ["self", "plain", "choice"] ["self", "plain", "choice"] (dRef "Write" "Write.refuse" 27 2).scope := ⟨rfl, rfl, rfl, by decide +kernel, rfl, by decide +kernel, by decide +kernel⟩
theorem scRef2 : FnScope ["self", "plain", "choice", "old"] ["self", "plain", "choice"] (dRef "Splice" "Splice.refuse" 28 3).scope := ⟨rfl, rfl, rfl, by decide +kernel, rfl, by decide +kernel, by decide +kernel⟩
theorem scRef3 : FnScope ["self", "plain", "choice", "rows"] ["self", "plain", "choice"] (dRef "TableEdit" "TableEdit.refuse" 29 0).scope := ⟨rfl, rfl, rfl, by decide +kernel, rfl, by decide +kernel, by decide +kernel⟩
theorem tab_eq {k : Str} (h : k = "table") : decide (V.str k = V.str "table") = true := decide_eq_true (by rw [h])
theorem tab_ne {k : Str} (h : k ≠ "table") : decide (V.str k = V.str "table") = false := decide_eq_false fun z => h (V.str.inj z)
theorem ok_ref1 (F : Fn K (dRef "Write" "Write.refuse" 27 2)) (T : Txt K mg) (GK : FnR P w K mg base CX0 2 (ma K (ga K "Plain") "kind_of") (spAt K 0)) (GE : ErrFn P w K mg base) :
    FnR P w K mg base (L2.CX P w) 3 (ma K (ga K "Write") "refuse") (spRefuse K fun D => D.cls = "Write") := by
  refine fnrX F scRef1 (fun _ _ _ _ _ _ us hl => match us, hl with | [_, _, _], _ => rfl) (fun vs H Q E h => ?_) (fun cdv A outer s H vs Q E hr h => ?_)
  · obtain ⟨e, p, r, D, kvs, l, R, ch, _, rfl, _⟩ := h
    rfl
  · obtain ⟨e, p, r, D, kvs, l, R, ch, hc, rfl, ho, ⟨dx, q, he, hq⟩, hp, hd, hl, hR, oR, k⟩ := h
    obtain ⟨x, z, rfl⟩ := cls_write hc
    have C := T.i "Write"
    have CP := T.i "Plain"
    obtain ⟨dp, hp'⟩ := id hp
    obtain ⟨a, hv, c0, ha, hcont⟩ := recs_some hl hR
    refine ⟨_, pss_one (ps_if (pt_cmpR op_eq (pe_methR (pv 1) CP.cl (T.m "Plain" "kind_of" "Plain") GK hr pass0 (pa_cons (pe_fld (pv 0) rfl) pa_nil)) pe_str (nomark _))
      (pss_one (ps_raise rfl (takes_of rfl rfl rfl rfl) (pmk_err (c := "WrongKind") GE T hr (by decide +kernel) (by decide +kernel) rfl (pa_cons (pe_fld (pv 0) rfl) (pa_cons (pv 2) pa_nil))))) pss_nil), ?_⟩
    refine ⟨_, rfl, p, dp, _, rfl, hp', lk_past (by decide +kernel), _, rfl, e, _, dx, _, _, rfl, he, C.cl, C.n "part", lk_here, p, r, a, x, kvs, _, _, rfl, hp, hd, hv, ha, rfl, rfl, _, rfl, ?_⟩
    obtain ⟨kd, pa, ra, cont⟩ := R
    cases cont with
    | txt o =>
      have oR' : kd ≠ "table" ∧ TextOk o := oR
      refine if_not (tab_ne oR'.1) ?_
      exact k H (Same.refl H)
    | tab t =>
      have oR' : kd = "table" ∧ TabOk t := oR
      refine if_yes (tab_eq oR'.1) ?_
      exact ⟨_, rfl, e, _, dx, _, _, rfl, he, C.cl, C.n "part", lk_here, _, rfl, mk_err (by decide +kernel) k⟩
theorem ok_ref2 (F : Fn K (dRef "Splice" "Splice.refuse" 28 3)) (T : Txt K mg) (GK : FnR P w K mg base CX0 2 (ma K (ga K "Plain") "kind_of") (spAt K 0)) (GC : FnR P w K mg base CX0 2 (ma K (ga K "Plain") "content_of") (spAt K 3))
    (GO : FnR P w K mg base CX0 1 (ma K (ga K "Splice") "outcome") (spOutS K)) (GE : ErrFn P w K mg base) : FnR P w K mg base (L2.CX P w) 3 (ma K (ga K "Splice") "refuse") (spRefuse K fun D => D.cls = "Splice") := by
  refine fnrX F scRef2 (fun _ _ _ _ _ _ us hl => match us, hl with | [_, _, _], _ => rfl) (fun vs H Q E h => ?_) (fun cdv A outer s H vs Q E hr h => ?_)
  · obtain ⟨e, p, r, D, kvs, l, R, ch, _, rfl, _⟩ := h
    rfl
  · obtain ⟨e, p, r, D, kvs, l, R, ch, hc, rfl, ho, ⟨dx, q, he, hq⟩, hp, hd, hl, hR, oR, k⟩ := h
    obtain ⟨x, i, n, z, rfl⟩ := cls_splice hc
    have C := T.i "Splice"
    have CP := T.i "Plain"
    obtain ⟨dp, hp'⟩ := id hp
    obtain ⟨a, hv, c0, ha, hcont⟩ := recs_some hl hR
    obtain ⟨tl, gl⟩ := T.longest
    have no : ([("part", V.str x), ("text", V.str z), ("at", V.int i), ("size", V.int n)] : List (Str × V)).lookup ("outcome" : Str) = none := flds_no (D := .splice x i n z) (q := q) (by decide +kernel)
    refine ⟨_, pss_cons (ps_if (pt_cmpR op_eq (pe_methR (pv 1) CP.cl (T.m "Plain" "kind_of" "Plain") GK hr pass0 (pa_cons (pe_fld (pv 0) rfl) pa_nil)) pe_str (nomark _))
        (pss_one (ps_raise rfl (takes_of rfl rfl rfl rfl) (pmk_err (c := "WrongKind") GE T hr (by decide +kernel) (by decide +kernel) rfl (pa_cons (pe_fld (pv 0) rfl) (pa_cons (pv 2) pa_nil))))) pss_nil)
      (pss_cons (ps_set (i := 3) scRef2.nd rfl (Or.inl rfl) (pe_methR (pv 1) CP.cl (T.m "Plain" "content_of" "Plain") GC hr pass0 (pa_cons (pe_fld (pv 0) rfl) pa_nil)))
      (pss_cons (ps_if (pt_cmpR op_gt (pe_op op_add (pe_fld (pv 0) rfl) (pe_fld (pv 0) rfl)) (pe_callB call_len_str rfl (T.f "len") (by decide +kernel) (pa_cons (pv 3) pa_nil)) (nomark _))
        (pss_one (ps_raise rfl (takes_of rfl rfl rfl rfl) (pmk_err (c := "Far") GE T hr (by decide +kernel) (by decide +kernel) rfl (pa_cons (pe_fld (pv 0) rfl) (pa_cons (pv 2) pa_nil))))) pss_nil)
      (pss_one (ps_if (pt_cmpR op_gt (pe_callB call_len_str rfl (T.f "len") (by decide +kernel) (pa_cons (pe_methR (pv 0) C.cl (T.m "Splice" "outcome" "Splice") GO (hr.mono (by decide)) pass0 (pa_cons (pv 3) pa_nil)) pa_nil)) (pe_glob (v := .int 60) rfl gl ⟨_, rfl⟩) (nomark _))
        (pss_one (ps_raise rfl (takes_of rfl rfl rfl rfl) (pmk_err (c := "TooLong") GE T hr (by decide +kernel) (by decide +kernel) rfl (pa_cons (pe_fld (pv 0) rfl) (pa_cons (pv 2) pa_nil))))) pss_nil)))), ?_⟩
    refine ⟨_, rfl, p, dp, _, rfl, hp', lk_past (by decide +kernel), _, rfl, e, _, dx, _, _, rfl, he, C.cl, C.n "part", lk_here, p, r, a, x, kvs, _, _, rfl, hp, hd, hv, ha, rfl, rfl, _, rfl, ?_⟩
    obtain ⟨kd, pa, ra, cont⟩ := R
    cases cont with
    | tab t =>
      have oR' : kd = "table" ∧ TabOk t := oR
      refine if_yes (tab_eq oR'.1) ?_
      exact ⟨_, rfl, e, _, dx, _, _, rfl, he, C.cl, C.n "part", lk_here, _, rfl, mk_err (by decide +kernel) k⟩
    | txt o =>
      have oR' : kd ≠ "table" ∧ TextOk o := oR
      have ec : c0 = .str o := hcont
      subst ec
      have k' : Asks K H Q E x ch (if i + n > o.length then Due.far else if (newS o i n z).length > 60 then Due.long else Due.good (.txt (newS o i n z))) := k
      refine if_not (tab_ne oR'.1) ?_
      refine ⟨_, rfl, p, dp, _, rfl, hp', lk_past (by decide +kernel), _, rfl, e, _, dx, _, _, rfl, he, C.cl, C.n "part", lk_here, p, r, a, x, kvs, _, _, rfl, hp, hd, hv, ha, rfl, ?_⟩
      refine ⟨_, rfl, e, _, dx, _, _, rfl, he, C.cl, C.n "at", (lk_past (by decide +kernel)).trans ((lk_past (by decide +kernel)).trans lk_here), _, rfl, e, _, dx, _, _, rfl, he, C.cl, C.n "size", (lk_past (by decide +kernel)).trans ((lk_past (by decide +kernel)).trans ((lk_past (by decide +kernel)).trans lk_here)),
        _, _, rfl, rfl, _, rfl, o, rfl, size_ok (Nat.le_trans oR'.2.1 (by decide)), _, _, rfl, rfl, _, rfl, ?_⟩
      by_cases f : i + n > o.length
      · rw [if_pos f] at k'
        refine if_yes (decide_eq_true (by omega)) ?_
        exact ⟨_, rfl, e, _, dx, _, _, rfl, he, C.cl, C.n "part", lk_here, _, rfl, mk_err (by decide +kernel) k'⟩
      · rw [if_neg f] at k'
        refine if_not (decide_eq_false (by omega)) ?_
        have hz : z.length ≤ 60 := ho.2.2.2.1
        have l1 := cutS_len o none (some (i : Int))
        have l2 := cutS_len o (some ((i : Int) + (n : Int))) none
        have ln : (newS o i n z).length ≤ 1000 := by
          unfold newS
          rw [str_len, str_len]
          have := oR'.2.1
          omega
        refine ⟨_, rfl, e, dx, _, rfl, he, no, _, rfl, e, x, i, n, z, o, rfl, ⟨dx, q, he, hq⟩, oR'.2.1, hz, _, rfl, size_ok ln, _, _, rfl, rfl, _, rfl, ?_⟩
        by_cases g : (newS o i n z).length > 60
        · rw [if_pos g] at k'
          refine if_yes (decide_eq_true (by omega)) ?_
          exact ⟨_, rfl, e, _, dx, _, _, rfl, he, C.cl, C.n "part", lk_here, _, rfl, mk_err (by decide +kernel) k'⟩
        · rw [if_neg g] at k'
          refine if_not (decide_eq_false (by omega)) ?_
          exact k' H (Same.refl H)
end
end MK
/-! TableEdit.refuse, need. -/
namespace MK
open PySem PySem.Spec PyProof.Rows L2
open He (ga ma)
theorem act_tab {t : Tab} {D : Deed} (h : D.isTab) (o : TabOk t) : act (.tab t) D = if farB t D = true then .far else if (outF t D).length > 6 then .long else .good (.tab (outF t D)) := by
  have n6 := o.n6
  cases D with
  | write p z => exact h.elim
  | splice p i n z => exact h.elim
  | cell p r c z =>
    show (if r ≥ t.length ∨ c ≥ wideOf t then Due.far else Due.good (.tab (t.set r ((t.getD r []).set c z)))) = if (decide (t.length ≤ r) || decide (wideOf t ≤ c)) = true then _ else if (t.set r ((t.getD r []).set c z)).length > 6 then _ else _
    by_cases f : r ≥ t.length ∨ c ≥ wideOf t
    · rw [if_pos f, if_pos (by rw [Bool.or_eq_true, decide_eq_true_eq, decide_eq_true_eq]; exact f)]
    · rw [if_neg f, if_neg (by rw [Bool.or_eq_true, decide_eq_true_eq, decide_eq_true_eq]; exact f), if_neg (by rw [List.length_set]; omega)]
      rfl
  | addrow p i r =>
    show (if i > t.length ∨ r.length ≠ wideOf t then Due.far else if t.length ≥ 6 then Due.long else Due.good (.tab (t.take i ++ [r] ++ t.drop i))) = if (decide (t.length < i) || !decide (r.length = wideOf t)) = true then _ else if (t.take i ++ [r] ++ t.drop i).length > 6 then _ else _
    by_cases f : i > t.length ∨ r.length ≠ wideOf t
    · rw [if_pos f, if_pos (by simpa using f)]
    · have f2 : (decide (t.length < i) || !decide (r.length = wideOf t)) = false := by simpa using f
      rw [if_neg f, f2, if_neg Bool.false_ne_true]
      have hlen : (t.take i ++ [r] ++ t.drop i).length = t.length + 1 := by
        rw [List.length_append, List.length_append, List.length_take, List.length_drop, List.length_singleton]
        omega
      by_cases g : t.length ≥ 6
      · rw [if_pos g, if_pos (by omega)]
      · rw [if_neg g, if_neg (by omega)]
        rfl
  | cutrow p i =>
    show (if i ≥ t.length ∨ t.length = 1 then Due.far else Due.good (.tab (t.eraseIdx i))) = if (decide (t.length ≤ i) || decide (t.length = 1)) = true then _ else if (t.eraseIdx i).length > 6 then _ else _
    by_cases f : i ≥ t.length ∨ t.length = 1
    · rw [if_pos f, if_pos (by simpa using f)]
    · rw [if_neg f, if_neg (by simpa using f), if_neg (by have := len_erase t i; omega)]
      rfl
theorem act_txt {o : Str} {D : Deed} (h : D.isTab) : act (.txt o) D = .wrongKind := by
  cases D with
  | write p z => exact h.elim
  | splice p i n z => exact h.elim
  | cell p r c z => rfl
  | addrow p i r => rfl
  | cutrow p i => rfl
theorem tab_met {D : Deed} (h : D.isTab) : metN.contains (D.cls, ("is_far", D.cls)) = true ∧ metN.contains (D.cls, ("outcome", D.cls)) = true := by
  cases D with
  | write p z => exact h.elim
  | splice p i n z => exact h.elim
  | cell p r c z => exact (by decide +kernel : metN.contains ("Cell", ("is_far", "Cell")) = true ∧ metN.contains ("Cell", ("outcome", "Cell")) = true)
  | addrow p i r => exact (by decide +kernel : metN.contains ("AddRow", ("is_far", "AddRow")) = true ∧ metN.contains ("AddRow", ("outcome", "AddRow")) = true)
  | cutrow p i => exact (by decide +kernel : metN.contains ("CutRow", ("is_far", "CutRow")) = true ∧ metN.contains ("CutRow", ("outcome", "CutRow")) = true)
/-- about, need, on, .. of each edit; the class that has its refuse and deed -/
theorem edit_met {D : Deed} : metN.contains (D.cls, ("about", "PartEdit")) = true ∧ metN.contains (D.cls, ("made", "Edit")) = true ∧ metN.contains (D.cls, ("need", "Edit")) = true ∧ metN.contains (D.cls, ("on", "Edit")) = true ∧
    metN.contains (D.cls, ("content_laid", "PartEdit")) = true ∧ metN.contains (D.cls, ("told", D.cls)) = true ∧ metN.contains (D.cls, ("refuse", D.up)) = true ∧ metN.contains (D.cls, ("deed", D.up)) = true := by
  cases D with
  | write p z => exact (by decide +kernel : metN.contains ("Write", ("about", "PartEdit")) = true ∧ metN.contains ("Write", ("made", "Edit")) = true ∧ metN.contains ("Write", ("need", "Edit")) = true ∧ metN.contains ("Write", ("on", "Edit")) = true ∧
      metN.contains ("Write", ("content_laid", "PartEdit")) = true ∧ metN.contains ("Write", ("told", "Write")) = true ∧ metN.contains ("Write", ("refuse", "Write")) = true ∧ metN.contains ("Write", ("deed", "Write")) = true)
  | splice p i n z => exact (by decide +kernel : metN.contains ("Splice", ("about", "PartEdit")) = true ∧ metN.contains ("Splice", ("made", "Edit")) = true ∧ metN.contains ("Splice", ("need", "Edit")) = true ∧ metN.contains ("Splice", ("on", "Edit")) = true ∧
      metN.contains ("Splice", ("content_laid", "PartEdit")) = true ∧ metN.contains ("Splice", ("told", "Splice")) = true ∧ metN.contains ("Splice", ("refuse", "Splice")) = true ∧ metN.contains ("Splice", ("deed", "Splice")) = true)
  | cell p r c z => exact (by decide +kernel : metN.contains ("Cell", ("about", "PartEdit")) = true ∧ metN.contains ("Cell", ("made", "Edit")) = true ∧ metN.contains ("Cell", ("need", "Edit")) = true ∧ metN.contains ("Cell", ("on", "Edit")) = true ∧
      metN.contains ("Cell", ("content_laid", "PartEdit")) = true ∧ metN.contains ("Cell", ("told", "Cell")) = true ∧ metN.contains ("Cell", ("refuse", "TableEdit")) = true ∧ metN.contains ("Cell", ("deed", "TableEdit")) = true)
  | addrow p i r => exact (by decide +kernel : metN.contains ("AddRow", ("about", "PartEdit")) = true ∧ metN.contains ("AddRow", ("made", "Edit")) = true ∧ metN.contains ("AddRow", ("need", "Edit")) = true ∧ metN.contains ("AddRow", ("on", "Edit")) = true ∧
      metN.contains ("AddRow", ("content_laid", "PartEdit")) = true ∧ metN.contains ("AddRow", ("told", "AddRow")) = true ∧ metN.contains ("AddRow", ("refuse", "TableEdit")) = true ∧ metN.contains ("AddRow", ("deed", "TableEdit")) = true)
  | cutrow p i => exact (by decide +kernel : metN.contains ("CutRow", ("about", "PartEdit")) = true ∧ metN.contains ("CutRow", ("made", "Edit")) = true ∧ metN.contains ("CutRow", ("need", "Edit")) = true ∧ metN.contains ("CutRow", ("on", "Edit")) = true ∧
      metN.contains ("CutRow", ("content_laid", "PartEdit")) = true ∧ metN.contains ("CutRow", ("told", "CutRow")) = true ∧ metN.contains ("CutRow", ("refuse", "TableEdit")) = true ∧ metN.contains ("CutRow", ("deed", "TableEdit")) = true)
/-- asking about the part itself -/
def spNeed (K : PySem.W.Frag) : Sp := fun vs H Q E => ∃ (e p r : Addr) (D : Deed) (kvs : List (Key × V)) (l : Recs) (ch : V), vs = [.ref e, .ref p, ch] ∧ D.Ok ∧ EditAt K H e D ∧ PlainAt K H p r ∧ H r = some (.dK kvs) ∧
  RecsAt H kvs l ∧ RecsOk l ∧ Asks K H Q E D.part ch (due l D)
section
variable {P : Program} {w : World} {K : PySem.W.Frag} {mg : Str → Option Value} {base : Heap}
theorem ok_ref3 (F : Fn K (dRef "TableEdit" "TableEdit.refuse" 29 0)) (T : Txt K mg) (GK : FnR P w K mg base CX0 2 (ma K (ga K "Plain") "kind_of") (spAt K 0)) (GC : FnR P w K mg base CX0 2 (ma K (ga K "Plain") "content_of") (spAt K 3))
    (GF : ∀ D : Deed, D.isTab → FnR P w K mg base CX0 1 (ma K (ga K D.cls) "is_far") (spFar K D.cls)) (GO : ∀ D : Deed, D.isTab → FnR P w K mg base CX0 1 (ma K (ga K D.cls) "outcome") (spOut K D.cls)) (GE : ErrFn P w K mg base) :
    FnR P w K mg base (L2.CX P w) 3 (ma K (ga K "TableEdit") "refuse") (spRefuse K Deed.isTab) := by
  refine fnrX F scRef3 (fun _ _ _ _ _ _ us hl => match us, hl with | [_, _, _], _ => rfl) (fun vs H Q E h => ?_) (fun cdv A outer s H vs Q E hr h => ?_)
  · obtain ⟨e, p, r, D, kvs, l, R, ch, _, rfl, _⟩ := h
    rfl
  · obtain ⟨e, p, r, D, kvs, l, R, ch, ht, rfl, ho, hE, hp, hd, hl, hR, oR, k⟩ := h
    obtain ⟨dx, q, he, hq⟩ := id hE
    have C := T.ins D.cls cls_ins
    have CP := T.i "Plain"
    obtain ⟨m1, m2⟩ := tab_met ht
    obtain ⟨dp, hp'⟩ := id hp
    obtain ⟨a, hv, c0, ha, hcont⟩ := recs_some hl hR
    obtain ⟨tl, gl⟩ := T.rows
    refine ⟨_, pss_cons (ps_if (pt_cmpR op_ne (pe_methR (pv 1) CP.cl (T.m "Plain" "kind_of" "Plain") GK hr pass0 (pa_cons (pe_fld (pv 0) rfl) pa_nil)) pe_str (nomark _))
        (pss_one (ps_raise rfl (takes_of rfl rfl rfl rfl) (pmk_err (c := "WrongKind") GE T hr (by decide +kernel) (by decide +kernel) rfl (pa_cons (pe_fld (pv 0) rfl) (pa_cons (pv 2) pa_nil))))) pss_nil)
      (pss_cons (ps_set (i := 3) scRef3.nd rfl (Or.inl rfl) (pe_methR (pv 1) CP.cl (T.m "Plain" "content_of" "Plain") GC hr pass0 (pa_cons (pe_fld (pv 0) rfl) pa_nil)))
      (pss_cons (ps_if (pt_val (pe_methR (pv 0) C.cl (T.met _ m1) (GF D ht) (hr.mono (by decide)) pass0 (pa_cons (pv 3) pa_nil)))
        (pss_one (ps_raise rfl (takes_of rfl rfl rfl rfl) (pmk_err (c := "Far") GE T hr (by decide +kernel) (by decide +kernel) rfl (pa_cons (pe_fld (pv 0) rfl) (pa_cons (pv 2) pa_nil))))) pss_nil)
      (pss_one (ps_if (pt_cmpR op_gt (pe_callB call_len_seq rfl (T.f "len") (by decide +kernel) (pa_cons (pe_methR (pv 0) C.cl (T.met _ m2) (GO D ht) (hr.mono (by decide)) pass0 (pa_cons (pv 3) pa_nil)) pa_nil)) (pe_glob (v := .int 6) rfl gl ⟨_, rfl⟩) (nomark _))
        (pss_one (ps_raise rfl (takes_of rfl rfl rfl rfl) (pmk_err (c := "TooLong") GE T hr (by decide +kernel) (by decide +kernel) rfl (pa_cons (pe_fld (pv 0) rfl) (pa_cons (pv 2) pa_nil))))) pss_nil)))), ?_⟩
    refine ⟨_, rfl, p, dp, _, rfl, hp', lk_past (by decide +kernel), _, rfl, e, _, dx, _, _, rfl, he, C.cl, C.n "part", flds_part, p, r, a, D.part, kvs, _, _, rfl, hp, hd, hv, ha, rfl, rfl, _, rfl, ?_⟩
    obtain ⟨kd, pa, ra, cont⟩ := R
    cases cont with
    | txt o =>
      have oR' : kd ≠ "table" ∧ TextOk o := oR
      refine if_yes (by rw [tab_ne oR'.1]; rfl) ?_
      have k' : Asks K H Q E D.part ch (act (.txt o) D) := k
      rw [act_txt ht] at k'
      exact ⟨_, rfl, e, _, dx, _, _, rfl, he, C.cl, C.n "part", flds_part, _, rfl, mk_err (by decide +kernel) k'⟩
    | tab t =>
      have oR' : kd = "table" ∧ TabOk t := oR
      obtain ⟨b, ec, hb⟩ := (show ∃ b, c0 = .ref b ∧ TabAt H b t from hcont)
      subst ec
      have k' : Asks K H Q E D.part ch (act (.tab t) D) := k
      rw [act_tab ht oR'.2] at k'
      refine if_not (by rw [tab_eq oR'.1]; rfl) ?_
      refine ⟨_, rfl, p, dp, _, rfl, hp', lk_past (by decide +kernel), _, rfl, e, _, dx, _, _, rfl, he, C.cl, C.n "part", flds_part, p, r, a, D.part, kvs, _, _, rfl, hp, hd, hv, ha, rfl, ?_⟩
      refine ⟨_, rfl, e, dx, _, rfl, he, flds_no (by decide +kernel), _, rfl, e, b, D, t, rfl, rfl, hE, hb, oR'.2, _, rfl, ?_⟩
      by_cases f : farB t D = true
      · rw [if_pos f] at k'
        refine if_yes f ?_
        exact ⟨_, rfl, e, _, dx, _, _, rfl, he, C.cl, C.n "part", flds_part, _, rfl, mk_err (by decide +kernel) k'⟩
      · rw [if_neg f] at k'
        rw [Bool.not_eq_true] at f
        refine if_not f ?_
        refine ⟨_, rfl, e, dx, _, rfl, he, flds_no (by decide +kernel), _, rfl, e, b, D, t, rfl, rfl, hE, hb, oR'.2, f, fun b' H1 s1 hb1 => ?_⟩
        obtain ⟨ps, h1, h2⟩ := hb1
        have ln := rows_len h2
        refine ⟨b', _, rfl, .inr (SqT.of h1), _, _, rfl, rfl, _, rfl, ?_⟩
        by_cases g : (outF t D).length > 6
        · rw [if_pos g] at k'
          refine if_yes (decide_eq_true (by omega)) ?_
          exact ⟨_, rfl, e, _, dx, _, _, rfl, s1 _ _ he, C.cl, C.n "part", flds_part, _, rfl, mk_err (by decide +kernel) fun x H' s2 hx => k' x H' (s1.trans s2) hx⟩
        · rw [if_neg g] at k'
          refine if_not (decide_eq_false (by omega)) ?_
          exact k' H1 s1
abbrev dNeed : He.DefD := dme "Edit" "need" "Edit.need" 25 5 [.non]
theorem scNeed : FnScope ["self", "plain", "choice"] ["self", "plain", "choice"] dNeed.scope := ⟨rfl, rfl, rfl, by decide +kernel, rfl, by decide +kernel, by decide +kernel⟩
theorem part_ne {p : Str} (h : p ∈ partN) : decide (V.str p = V.str "") = false := by
  refine decide_eq_false fun e => ?_
  have e2 := V.str.inj e
  rw [e2] at h
  exact absurd h (by decide +kernel)
theorem Asks.imp {H : Hp} {Q Q' : VK} {E : XK} {p : Str} {ch : V} {d : Due} (h : ∀ H', Q .non H' → Q' .non H') (k : Asks K H Q E p ch d) : Asks K H Q' E p ch d := by
  cases d with
  | good c => exact fun H' s => h H' (k H' s)
  | noPart => exact k
  | wrongKind => exact k
  | far => exact k
  | long => exact k
theorem ok_need (F : Fn K dNeed) (T : Txt K mg) (GA : FnR P w K mg base CX0 1 (ma K (ga K "PartEdit") "about") (spAbout K)) (GH : FnR P w K mg base CX0 1 (ma K (ga K "Plain") "has") (spHas K))
    (GR : ∀ D : Deed, FnR P w K mg base (L2.CX P w) 3 (ma K (ga K D.up) "refuse") (spRefuse K fun D' => D' = D)) (GE : ErrFn P w K mg base) :
    FnR P w K mg base (L2.CX P w) 4 (ma K (ga K "Edit") "need") (spNeed K) := by
  refine fnrD F scNeed (fun T' kV doc pm an cdv ct us its h1 h2 => match us, h1, its, h2 with | [_, _, _], _, [_], _ => ⟨_, rfl, rfl⟩) (fun vs H Q E h => ?_) (fun cdv A outer s H vs Q E hr h => ?_)
  · obtain ⟨e, p, r, D, kvs, l, ch, rfl, _⟩ := h
    rfl
  · obtain ⟨e, p, r, D, kvs, l, ch, rfl, ho, hE, hp, hd, hl, oL, k⟩ := h
    obtain ⟨dx, q, he, hq⟩ := id hE
    have C := T.ins D.cls cls_ins
    have CP := T.i "Plain"
    obtain ⟨m1, _, _, _, _, _, m7, _⟩ := edit_met (D := D)
    obtain ⟨dp, hp'⟩ := id hp
    have hr1 : Room 1 _ := hr.mono (by decide)
    refine ⟨_, pss_cons (ps_if (PW.pt (pw_and (pt_cmpR op_ne (pe_methR0 (pv 0) C.cl (T.met _ m1) GA hr1 pass0) pe_str (nomark _)) (pw_and1 (pt_not (pt_val (pe_methR (pv 1) CP.cl (T.m "Plain" "has" "Plain") GH hr1 pass0 (pa_cons (pe_methR0 (pv 0) C.cl (T.met _ m1) GA hr1 pass0) pa_nil)))))))
        (pss_one (ps_raise rfl (takes_of rfl rfl rfl rfl) (pmk_err (c := "NoPart") GE T (hr.mono (by decide)) (by decide +kernel) (by decide +kernel) rfl (pa_cons (pe_methR0 (pv 0) C.cl (T.met _ m1) GA hr1 pass0) (pa_cons (pv 2) pa_nil))))) pss_nil)
      (pss_one (ps_expr (pe_methR (E := E) (pv 0) C.cl (T.met _ m7) (GR D) hr (passes_call (takes_of rfl rfl rfl rfl) fun _ _ _ _ z => z) (pa_cons (pv 1) (pa_cons (pv 2) pa_nil))))), ?_⟩
    refine ⟨_, rfl, e, dx, _, rfl, he, flds_no (by decide +kernel), e, D, rfl, hE, rfl, _, rfl, ?_⟩
    refine if_yes (by rw [part_ne ho.1]; rfl) ?_
    refine ⟨_, rfl, p, dp, _, rfl, hp', lk_past (by decide +kernel), _, rfl, e, dx, _, rfl, he, flds_no (by decide +kernel), e, D, rfl, hE, p, r, D.part, kvs, rfl, hp, hd, _, rfl, ?_⟩
    cases eR : l.lookup D.part with
    | none =>
      have k' : Asks K H Q E D.part ch .noPart := by
        have e2 : due l D = .noPart := by
          unfold due
          rw [eR]
        rw [e2] at k
        exact k
      rw [recs_none hl eR]
      refine iteT ?_
      exact ⟨_, rfl, e, dx, _, rfl, he, flds_no (by decide +kernel), e, D, rfl, hE, _, rfl, mk_err (by decide +kernel) k'⟩
    | some R =>
      have k' : Asks K H Q E D.part ch (act R.cont D) := by
        have e2 : due l D = act R.cont D := by
          unfold due
          rw [eR]
        rw [e2] at k
        exact k
      obtain ⟨a, hv, _⟩ := recs_some hl eR
      rw [hv]
      refine iteF ?_
      refine ⟨_, rfl, e, dx, _, rfl, he, flds_no (by decide +kernel), _, rfl, _, rfl, e, p, r, D, kvs, l, R, ch, rfl, rfl, ho, hE, hp, hd, hl, eR, oL.of eR, ?_⟩
      exact Asks.imp (fun _ z => z) k'
end
end MK
/-! content_laid, deed, on. -/
namespace MK
open PySem PySem.Spec PyProof.Rows L2
open He (ga ma)
/-- the part x has the content c from now on, all else stands -/
def Wrote (H : Hp) (Q : VK) (r : Addr) (l : Recs) (x : Str) (R : Rec) (c : Cont) : Prop := ∀ H' kvs', But r H H' → H' r = some (.dK kvs') → RecsAt H' kvs' (putR l x { R with cont := c }) → Q .non H'
def Does (K : PySem.W.Frag) (H : Hp) (Q : VK) (E : XK) (r : Addr) (l : Recs) (p : Str) (ch : V) : Due → Prop
  | .good c => ∀ R, l.lookup p = some R → Wrote H Q r l p R c
  | d => Fails K H E p ch d.err
def spLaid (K : PySem.W.Frag) : Sp := fun vs H Q _ => ∃ (e p r : Addr) (D : Deed) (kvs : List (Key × V)) (l : Recs) (R : Rec) (c : Cont) (cv : V), vs = [.ref e, .ref p, cv] ∧ EditAt K H e D ∧ PlainAt K H p r ∧ H r = some (.dK kvs) ∧
  RecsAt H kvs l ∧ RecsOk l ∧ l.lookup D.part = some R ∧ ContAt H cv c ∧ Wrote H Q r l D.part R c
def spDeed (K : PySem.W.Frag) (Z : Deed → Prop) : Sp := fun vs H Q _ => ∃ (e p r : Addr) (D : Deed) (kvs : List (Key × V)) (l : Recs) (R : Rec) (c : Cont), Z D ∧ vs = [.ref e, .ref p] ∧ D.Ok ∧ EditAt K H e D ∧ PlainAt K H p r ∧ H r = some (.dK kvs) ∧
  RecsAt H kvs l ∧ RecsOk l ∧ l.lookup D.part = some R ∧ act R.cont D = .good c ∧ Wrote H Q r l D.part R c
def spOn (K : PySem.W.Frag) : Sp := fun vs H Q E => ∃ (e p r : Addr) (D : Deed) (kvs : List (Key × V)) (l : Recs) (ch : V), vs = [.ref e, .ref p, ch] ∧ D.Ok ∧ EditAt K H e D ∧ PlainAt K H p r ∧ H r = some (.dK kvs) ∧
  RecsAt H kvs l ∧ RecsOk l ∧ Does K H Q E r l D.part ch (due l D)
theorem recs_len {H : Hp} {kvs : List (Key × V)} {l : Recs} (h : RecsAt H kvs l) (o : RecsOk l) : kvs.length = 3 := by
  have e := congrArg List.length o.names
  rw [List.length_map] at e
  rw [pd_len h, e] <;> rfl
theorem Wrote.mono {H H1 : Hp} {Q : VK} {r : Addr} {l : Recs} {x : Str} {R : Rec} {c : Cont} (s : Same H H1) (k : Wrote H Q r l x R c) : Wrote H1 Q r l x R c := fun H' kvs' b h z => k H' kvs' ((But.of s).trans b) h z
section
variable {P : Program} {w : World} {K : PySem.W.Frag} {mg : Str → Option Value} {base : Heap}
abbrev dLaid : He.DefD := dme "PartEdit" "content_laid" "PartEdit.content_laid" 26 2 []
theorem scLaid : FnScope ["self", "plain", "content", "kind", "parent", "rank", "old"] ["self", "plain", "content"] dLaid.scope := ⟨rfl, rfl, rfl, by decide +kernel, rfl, by decide +kernel, by decide +kernel⟩
theorem ok_laid (F : Fn K dLaid) (T : Txt K mg) (GS : FnR P w K mg base CX0 1 (ma K (ga K "Plain") "state") (spState K)) (GL : FnR P w K mg base CX0 1 (ma K (ga K "Plain") "lay") (spLay K)) :
    FnR P w K mg base CX0 2 (ma K (ga K "PartEdit") "content_laid") (spLaid K) := by
  refine fnr F scLaid (fun _ _ _ _ _ _ us hl => match us, hl with | [_, _, _], _ => rfl) (fun vs H Q E h => ?_) (fun cdv A outer s H vs Q E hr h => ?_)
  · obtain ⟨e, p, r, D, kvs, l, R, c, cv, rfl, _⟩ := h
    rfl
  · obtain ⟨e, p, r, D, kvs, l, R, c, cv, rfl, ⟨dx, q, he, hq⟩, hp, hd, hl, oL, hR, hc, k⟩ := h
    have C := T.ins D.cls cls_ins
    have CP := T.i "Plain"
    obtain ⟨dp, hp'⟩ := id hp
    obtain ⟨a, hv, c0, ha, hcont⟩ := recs_some hl hR
    refine ⟨_, pss_cons (ps_asg (pe_methR (pv 1) CP.cl (T.m "Plain" "state" "Plain") GS hr pass0 (pa_cons (pe_fld (pv 0) rfl) pa_nil))
        (pg_tup (by rfl) (pgs_cons (pg_name (i := 3) scLaid.nd rfl (.inl rfl)) (pgs_cons (pg_name (i := 4) scLaid.nd rfl (.inl rfl)) (pgs_cons (pg_name (i := 5) scLaid.nd rfl (.inl rfl)) (pgs_cons (pg_name (i := 6) scLaid.nd rfl (.inl rfl)) pgs_nil))))))
      (pss_one (ps_expr (pe_methR (pv 1) CP.cl (T.m "Plain" "lay" "Plain") GL hr pass0 (pa_cons (pe_fld (pv 0) rfl) (pa_cons (pv 3) (pa_cons (pv 4) (pa_cons (pv 5) (pa_cons (pv 2) pa_nil)))))))), ?_⟩
    refine ⟨_, rfl, p, dp, _, rfl, hp', lk_past (by decide +kernel), _, rfl, e, _, dx, _, _, rfl, he, C.cl, C.n "part", flds_part, p, r, D.part, kvs, _, rfl, hp, hd, hv, ?_⟩
    refine ⟨a, _, rfl, SqT.of ha, rfl, _, _, rfl, _, _, rfl, _, _, rfl, _, _, rfl, rfl, ?_⟩
    refine ⟨_, rfl, p, dp, _, rfl, hp', lk_past (by decide +kernel), _, rfl, e, _, dx, _, _, rfl, he, C.cl, C.n "part", flds_part, _, rfl, _, rfl, _, rfl, _, rfl, p, r, D.part, kvs, _, _, _, _, rfl, hp, hd, by rw [recs_len hl oL]; decide, fun t nt => ?_⟩
    have nrt : r ≠ t := ne_of_none hd nt
    have b1 : But r H (upd (upd H t (.tup [.str R.kind, .str R.parent, .int R.rank, cv])) r (.dK (putK kvs (.inr D.part) (.ref t)))) := (But.of (same_new nt)).upd
    have m1 := Tups.but b1 hd
    refine k _ _ b1 upd_same (recs_put (hl.mono m1) ⟨cv, ?_, hc.mono m1⟩)
    rw [upd_ne nrt.symm, upd_same]
abbrev dDeed (c q : Str) (i j : Nat) : He.DefD := dme c "deed" q i j []
theorem scDeed1 : FnScope ["self", "plain"] ["self", "plain"] (dDeed "Write" "Write.deed" 27 3).scope := ⟨rfl, rfl, rfl, by decide +kernel, rfl, by decide +kernel, by decide +kernel⟩
theorem scDeed2 : FnScope ["self", "plain"] ["self", "plain"] (dDeed "Splice" "Splice.deed" 28 4).scope := ⟨rfl, rfl, rfl, by decide +kernel, rfl, by decide +kernel, by decide +kernel⟩
theorem scDeed3 : FnScope ["self", "plain"] ["self", "plain"] (dDeed "TableEdit" "TableEdit.deed" 29 3).scope := ⟨rfl, rfl, rfl, by decide +kernel, rfl, by decide +kernel, by decide +kernel⟩
theorem ok_deed1 (F : Fn K (dDeed "Write" "Write.deed" 27 3)) (T : Txt K mg) (GL : FnR P w K mg base CX0 2 (ma K (ga K "PartEdit") "content_laid") (spLaid K)) : FnR P w K mg base CX0 3 (ma K (ga K "Write") "deed") (spDeed K fun D => D.cls = "Write") := by
  refine fnr F scDeed1 (fun _ _ _ _ _ _ us hl => match us, hl with | [_, _], _ => rfl) (fun vs H Q E h => ?_) (fun cdv A outer s H vs Q E hr h => ?_)
  · obtain ⟨e, p, r, D, kvs, l, R, c, _, rfl, _⟩ := h
    rfl
  · obtain ⟨e, p, r, D, kvs, l, R, c, hc, rfl, ho, hE, hp, hd, hl, oL, hR, ea, k⟩ := h
    obtain ⟨x, z, rfl⟩ := cls_write hc
    obtain ⟨dx, q, he, hq⟩ := id hE
    have C := T.i "Write"
    refine ⟨_, pss_one (ps_expr (pe_methR (pv 0) C.cl (T.m "Write" "content_laid" "PartEdit") GL hr pass0 (pa_cons (pv 1) (pa_cons (pe_fld (pv 0) rfl) pa_nil)))), ?_⟩
    refine ⟨_, rfl, e, dx, _, rfl, he, flds_no (D := .write x z) (q := q) (by decide +kernel), _, rfl, _, rfl, e, _, dx, _, _, rfl, he, C.cl, C.n "text", (lk_past (by decide +kernel)).trans lk_here, e, p, r, .write x z, kvs, l, R, c, _, rfl, hE, hp, hd, hl, oL, hR, ?_, k⟩
    obtain ⟨kd, pa, ra, cont⟩ := R
    cases cont with
    | tab t => cases ea
    | txt o =>
      cases ea
      rfl
theorem ok_deed2 (F : Fn K (dDeed "Splice" "Splice.deed" 28 4)) (T : Txt K mg) (GL : FnR P w K mg base CX0 2 (ma K (ga K "PartEdit") "content_laid") (spLaid K)) (GC : FnR P w K mg base CX0 2 (ma K (ga K "Plain") "content_of") (spAt K 3))
    (GO : FnR P w K mg base CX0 1 (ma K (ga K "Splice") "outcome") (spOutS K)) : FnR P w K mg base CX0 3 (ma K (ga K "Splice") "deed") (spDeed K fun D => D.cls = "Splice") := by
  refine fnr F scDeed2 (fun _ _ _ _ _ _ us hl => match us, hl with | [_, _], _ => rfl) (fun vs H Q E h => ?_) (fun cdv A outer s H vs Q E hr h => ?_)
  · obtain ⟨e, p, r, D, kvs, l, R, c, _, rfl, _⟩ := h
    rfl
  · obtain ⟨e, p, r, D, kvs, l, R, c, hc, rfl, ho, hE, hp, hd, hl, oL, hR, ea, k⟩ := h
    obtain ⟨x, i, n, z, rfl⟩ := cls_splice hc
    obtain ⟨dx, q, he, hq⟩ := id hE
    have C := T.i "Splice"
    have CP := T.i "Plain"
    obtain ⟨dp, hp'⟩ := id hp
    obtain ⟨a, hv, c0, ha, hcont⟩ := recs_some hl hR
    refine ⟨_, pss_one (ps_expr (pe_methR (pv 0) C.cl (T.m "Splice" "content_laid" "PartEdit") GL hr pass0 (pa_cons (pv 1) (pa_cons
      (pe_methR (pv 0) C.cl (T.m "Splice" "outcome" "Splice") GO (hr.mono (by decide)) pass0 (pa_cons (pe_methR (pv 1) CP.cl (T.m "Plain" "content_of" "Plain") GC hr pass0 (pa_cons (pe_fld (pv 0) rfl) pa_nil)) pa_nil)) pa_nil)))), ?_⟩
    have oR := oL.of hR
    obtain ⟨kd, pa, ra, cont⟩ := R
    cases cont with
    | tab t => cases ea
    | txt o =>
      have oR' : kd ≠ "table" ∧ TextOk o := oR
      have ec : c0 = .str o := hcont
      subst ec
      have ea' : (if i + n > o.length then Due.far else if (newS o i n z).length > 60 then Due.long else Due.good (.txt (newS o i n z))) = .good c := ea
      have e2 : c = .txt (newS o i n z) := by
        split at ea'
        · cases ea'
        · split at ea'
          · cases ea'
          · cases ea'
            rfl
      subst e2
      refine ⟨_, rfl, e, dx, _, rfl, he, flds_no (D := .splice x i n z) (q := q) (by decide +kernel), _, rfl, _, rfl, e, dx, _, rfl, he, flds_no (D := .splice x i n z) (q := q) (by decide +kernel), _, rfl, p, dp, _, rfl, hp', lk_past (by decide +kernel),
        _, rfl, e, _, dx, _, _, rfl, he, C.cl, C.n "part", lk_here, p, r, a, x, kvs, _, _, rfl, hp, hd, hv, ha, rfl, ?_⟩
      refine ⟨e, x, i, n, z, o, rfl, hE, oR'.2.1, ho.2.2.2.1, ?_⟩
      exact ⟨e, p, r, .splice x i n z, kvs, l, _, .txt (newS o i n z), _, rfl, hE, hp, hd, hl, oL, hR, rfl, k⟩
theorem ok_deed3 (F : Fn K (dDeed "TableEdit" "TableEdit.deed" 29 3)) (T : Txt K mg) (GL : FnR P w K mg base CX0 2 (ma K (ga K "PartEdit") "content_laid") (spLaid K)) (GC : FnR P w K mg base CX0 2 (ma K (ga K "Plain") "content_of") (spAt K 3))
    (GO : ∀ D : Deed, D.isTab → FnR P w K mg base CX0 1 (ma K (ga K D.cls) "outcome") (spOut K D.cls)) : FnR P w K mg base CX0 3 (ma K (ga K "TableEdit") "deed") (spDeed K Deed.isTab) := by
  refine fnr F scDeed3 (fun _ _ _ _ _ _ us hl => match us, hl with | [_, _], _ => rfl) (fun vs H Q E h => ?_) (fun cdv A outer s H vs Q E hr h => ?_)
  · obtain ⟨e, p, r, D, kvs, l, R, c, _, rfl, _⟩ := h
    rfl
  · obtain ⟨e, p, r, D, kvs, l, R, c, ht, rfl, ho, hE, hp, hd, hl, oL, hR, ea, k⟩ := h
    obtain ⟨dx, q, he, hq⟩ := id hE
    have C := T.ins D.cls cls_ins
    have CP := T.i "Plain"
    obtain ⟨_, m2⟩ := tab_met ht
    obtain ⟨_, _, _, _, m5, _⟩ := edit_met (D := D)
    obtain ⟨dp, hp'⟩ := id hp
    obtain ⟨a, hv, c0, ha, hcont⟩ := recs_some hl hR
    refine ⟨_, pss_one (ps_expr (pe_methR (pv 0) C.cl (T.met _ m5) GL hr pass0 (pa_cons (pv 1) (pa_cons
      (pe_methR (pv 0) C.cl (T.met _ m2) (GO D ht) (hr.mono (by decide)) pass0 (pa_cons (pe_methR (pv 1) CP.cl (T.m "Plain" "content_of" "Plain") GC hr pass0 (pa_cons (pe_fld (pv 0) rfl) pa_nil)) pa_nil)) pa_nil)))), ?_⟩
    have oR := oL.of hR
    obtain ⟨kd, pa, ra, cont⟩ := R
    cases cont with
    | txt o =>
      have ea' : act (.txt o) D = .good c := ea
      rw [act_txt ht] at ea'
      cases ea'
    | tab t =>
      have oR' : kd = "table" ∧ TabOk t := oR
      obtain ⟨b, ec, hb⟩ := (show ∃ b, c0 = .ref b ∧ TabAt H b t from hcont)
      subst ec
      have ea' : act (.tab t) D = .good c := ea
      rw [act_tab ht oR'.2] at ea'
      by_cases f : farB t D = true
      · rw [if_pos f] at ea'
        cases ea'
      · rw [if_neg f] at ea'
        rw [Bool.not_eq_true] at f
        have e2 : c = .tab (outF t D) := by
          split at ea'
          · cases ea'
          · cases ea'
            rfl
        subst e2
        refine ⟨_, rfl, e, dx, _, rfl, he, flds_no (by decide +kernel), _, rfl, _, rfl, e, dx, _, rfl, he, flds_no (by decide +kernel), _, rfl, p, dp, _, rfl, hp', lk_past (by decide +kernel),
          _, rfl, e, _, dx, _, _, rfl, he, C.cl, C.n "part", flds_part, p, r, a, D.part, kvs, _, _, rfl, hp, hd, hv, ha, rfl, ?_⟩
        refine ⟨e, b, D, t, rfl, rfl, hE, hb, oR'.2, f, fun b' H1 s1 hb1 => ?_⟩
        exact ⟨e, p, r, D, kvs, l, _, .tab (outF t D), _, rfl, hE.keep (s1 _) (Tups.of s1), ⟨dp, s1 _ _ hp'⟩, s1 _ _ hd, hl.mono (Tups.of s1), oL, hR, ⟨b', rfl, hb1⟩, k.mono s1⟩
abbrev dOn : He.DefD := dme "Edit" "on" "Edit.on" 25 6 [.non]
theorem scOn : FnScope ["self", "plain", "choice"] ["self", "plain", "choice"] dOn.scope := ⟨rfl, rfl, rfl, by decide +kernel, rfl, by decide +kernel, by decide +kernel⟩
theorem due_good {l : Recs} {D : Deed} {c : Cont} (h : due l D = .good c) : ∃ R, l.lookup D.part = some R ∧ act R.cont D = .good c := by
  unfold due at h
  cases e : l.lookup D.part with
  | none =>
    rw [e] at h
    cases h
  | some R =>
    rw [e] at h
    exact ⟨R, rfl, h⟩
theorem ok_on (F : Fn K dOn) (T : Txt K mg) (GN : FnR P w K mg base (L2.CX P w) 4 (ma K (ga K "Edit") "need") (spNeed K)) (GD : ∀ D : Deed, FnR P w K mg base CX0 3 (ma K (ga K D.up) "deed") (spDeed K fun D' => D' = D)) :
    FnR P w K mg base (L2.CX P w) 5 (ma K (ga K "Edit") "on") (spOn K) := by
  refine fnrD F scOn (fun T' kV doc pm an cdv ct us its h1 h2 => match us, h1, its, h2 with | [_, _, _], _, [_], _ => ⟨_, rfl, rfl⟩) (fun vs H Q E h => ?_) (fun cdv A outer s H vs Q E hr h => ?_)
  · obtain ⟨e, p, r, D, kvs, l, ch, rfl, _⟩ := h
    rfl
  · obtain ⟨e, p, r, D, kvs, l, ch, rfl, ho, hE, hp, hd, hl, oL, k⟩ := h
    obtain ⟨dx, q, he, hq⟩ := id hE
    have C := T.ins D.cls cls_ins
    obtain ⟨_, _, m3, _, _, _, _, m8⟩ := edit_met (D := D)
    refine ⟨_, pss_cons (ps_expr (pe_methR (E := E) (pv 0) C.cl (T.met _ m3) GN hr (passes_call (takes_of rfl rfl rfl rfl) fun _ _ _ _ z => z) (pa_cons (pv 1) (pa_cons (pv 2) pa_nil))))
      (pss_one (ps_expr (pe_methR (pv 0) C.cl (T.met _ m8) (GD D) (hr.mono (by decide)) pass0 (pa_cons (pv 1) pa_nil)))), ?_⟩
    refine ⟨_, rfl, e, dx, _, rfl, he, flds_no (by decide +kernel), _, rfl, _, rfl, e, p, r, D, kvs, l, ch, rfl, ho, hE, hp, hd, hl, oL, ?_⟩
    cases ed : due l D with
    | good c =>
      rw [ed] at k
      obtain ⟨R, hR, ea⟩ := due_good ed
      intro H1 s1
      obtain ⟨dp, hp'⟩ := hp
      exact ⟨_, rfl, e, dx, _, rfl, s1 _ _ he, flds_no (by decide +kernel), _, rfl, e, p, r, D, kvs, l, R, c, rfl, rfl, ho, hE.keep (s1 _) (Tups.of s1), ⟨dp, s1 _ _ hp'⟩, s1 _ _ hd, hl.mono (Tups.of s1), oL, hR, ea, (k R hR).mono s1⟩
    | noPart =>
      rw [ed] at k
      exact k
    | wrongKind =>
      rw [ed] at k
      exact k
    | far =>
      rw [ed] at k
      exact k
    | long =>
      rw [ed] at k
      exact k
end
end MK
/-! What the law draws: cells, streams, texts, places. -/
namespace MK
open PySem PySem.Spec PyProof.Rows L2
open He (ga ma)
/-! ### remainders -/
theorem fm_lo (x : Int) {n : Int} (h : 0 < n) : 0 ≤ x.fmod n := Int.fmod_nonneg_of_pos x h
theorem fm_hi (x : Int) {n : Int} (h : 0 < n) : x.fmod n < n := Int.fmod_lt_of_pos x h
/-- a place by a remainder -/
theorem pick {α : Type} {xs : List α} {x : Int} {n : Nat} (hl : xs.length = n) (hn : 0 < n) : ∃ v, v ∈ xs ∧ atI xs (x.fmod (n : Int)) = some v := by
  have h0 := fm_lo x (n := (n : Int)) (by omega)
  have h1 := fm_hi x (n := (n : Int)) (by omega)
  obtain ⟨j, hj⟩ := Int.eq_ofNat_of_zero_le h0
  rw [hj] at h1 ⊢
  have hlt : j < xs.length := by omega
  exact ⟨xs[j], List.getElem_mem hlt, atI_nat (List.getElem?_eq_getElem hlt)⟩
/-- two ways that meet again: what holds at their end, and what it leads to -/
theorem if_join {c : TT} {t u : TS} {D : Ends} {σ : L2.St} {H : Hp} (Z : L2.St → Hp → Prop) (key : ∀ σ' H', Z σ' H' → D.nx σ' H') (h : ∀ D' : Ends, (∀ σ' H', Z σ' H' → D'.nx σ' H') → tIfS c t u D' σ H) : tIfS c t u D σ H := h D key
theorem tups_lst {H : Hp} {p : Addr} {xs : List V} {o : HO} (h : H p = some (.lst xs)) : Tups H (upd H p o) := fun a ys e => by
  rw [upd_ne (ne_of e h (by intro z; cases z))]
  exact e
/-! ### promises -/
def spCell (K : PySem.W.Frag) : Sp := fun vs H Q _ => ∃ (a : Addr) (ns : List Int) (k : Nat), vs = [.ref a, .int k] ∧ SqL K H a (ns.map V.int) ∧ ∀ i : Int, Q (.int i) H
def spStream : Sp := fun vs H Q _ => ∃ (c : Int) (m : Nat), vs = [.int c, .int m] ∧ m ≤ 100 ∧ ∀ (p : Addr) (H' : Hp) (ns : List Int), Same H H' → H p = none → H' p = some (.lst (ns.map V.int)) → ns.length = m → Q (.ref p) H'
def spText : Sp := fun vs H Q _ => ∃ c : Int, vs = [.int c] ∧ ∀ z H', TextOk z → Same H H' → Q (.str z) H'
def spPlace : Sp := fun vs H Q _ => ∃ (x : Int) (n : Nat), vs = [.int x, .int n] ∧ Plc n ∧ ∀ (i : Nat) H', Plc i → Same H H' → Q (.int i) H'
section
variable {P : Program} {w : World} {K : PySem.W.Frag} {mg : Str → Option Value} {base : Heap}
theorem scCell0 : FnScope ["_law_script", "_law_k"] ["_law_script", "_law_k"] (dfn "_law_cell" 36).scope := ⟨rfl, rfl, rfl, by decide +kernel, rfl, by decide +kernel, by decide +kernel⟩
theorem int_at {ns : List Int} {k : Nat} (h : k < ns.length) : atI (ns.map V.int) (k : Int) = some (.int ns[k]) := by
  refine atI_nat ?_
  rw [List.getElem?_map, List.getElem?_eq_getElem h] <;> rfl
theorem ok_cell (F : Fn K (dfn "_law_cell" 36)) (T : Txt K mg) : FnR P w K mg base CX0 1 (ga K "_law_cell") (spCell K) := by
  refine fnr F scCell0 (fun _ _ _ _ _ _ us hl => match us, hl with | [_, _], _ => rfl) (fun vs H Q E h => ?_) (fun cdv A outer s H vs Q E hr h => ?_)
  · obtain ⟨a, ns, k, rfl, _⟩ := h
    rfl
  · obtain ⟨a, ns, k, rfl, hS, q⟩ := h
    refine ⟨_, pss_cons (ps_if (pt_cmpR op_lt (pv 1) (pe_callB call_len_seq rfl (T.f "len") (by decide +kernel) (pa_cons (pv 0) pa_nil)) (nomark _)) (pss_one (ps_ret (pe_ix ix_list (pv 0) (pv 1) (fun _ _ => rfl)))) pss_nil)
      (pss_one (ps_ret (pe_op op_mul (pe_op op_add (pv 1) pe_int) pe_int))), ?_⟩
    refine ⟨_, rfl, _, rfl, a, _, rfl, .inl hS, _, _, rfl, rfl, _, rfl, ?_⟩
    by_cases h : k < ns.length
    · refine if_yes (decide_eq_true (by rw [List.length_map]; omega)) ?_
      exact ⟨_, rfl, _, rfl, a, _, _, _, rfl, rfl, hS, int_at h, q _⟩
    · refine if_not (decide_eq_false (by rw [List.length_map]; omega)) ?_
      exact ⟨_, rfl, _, _, rfl, rfl, _, _, rfl, rfl, .inr (by decide), q _⟩
theorem scStream : FnScope ["_law_cell_here", "_law_many", "_law_found", "_law_left", "_law_number", "_law_k"] ["_law_cell_here", "_law_many"] (dfn "_law_stream" 37).scope := ⟨rfl, rfl, rfl, by decide +kernel, rfl, by decide +kernel, by decide +kernel⟩
theorem snoc_int {ns : List Int} {i : Int} : ns.map V.int ++ [V.int i] = (ns ++ [i]).map V.int := by
  rw [List.map_append] <;> rfl
theorem ok_stream (F : Fn K (dfn "_law_stream" 37)) (T : Txt K mg) : FnR P w K mg base CX0 1 (ga K "_law_stream") spStream := by
  refine fnr F scStream (fun _ _ _ _ _ _ us hl => match us, hl with | [_, _], _ => rfl) (fun vs H Q E h => ?_) (fun cdv A outer s H vs Q E hr h => ?_)
  · obtain ⟨c, m, rfl, _⟩ := h
    rfl
  · obtain ⟨c, m, rfl, hm, k⟩ := h
    refine ⟨_, pss_cons (ps_set (i := 2) scStream.nd rfl (Or.inl rfl) (pe_lst pa_nil))
      (pss_cons (ps_set (i := 3) scStream.nd rfl (Or.inl rfl) (pe_op op_fdivN (pv 0) pe_int))
      (pss_cons (ps_set (i := 4) scStream.nd rfl (Or.inl rfl) (pe_op op_add (pe_op op_modN (pv 0) pe_int) pe_int))
      (pss_cons (ps_for PassesOwn.never rfl (pi_range1 rfl (T.f "range") (pa_cons (pv 1) pa_nil)) (pg_name (i := 5) scStream.nd rfl (Or.inl rfl))
        (pss_cons (ps_set (i := 4) scStream.nd rfl (Or.inl rfl) (pe_op op_modN (pe_op op_add (pe_op op_add (pe_op op_mul (pv 4) pe_int) (pe_op op_mul pe_int (pv 5))) pe_int) pe_int))
        (pss_one (ps_if (PW.pt (pw_and (pt_cmpR op_eq (pe_op op_modN (pv 0) pe_int) pe_int (nomark _)) (pw_and (pt_cmpR op_ne (pv 3) pe_int (nomark _)) (pw_and1 (pt_cmpR op_ne (pv 3) (pe_un un_neg pe_int) (nomark _))))))
          (pss_cons (ps_expr (pe_bm PySem.F.plainAttrs_list PySem.F.slot_list_append PySem.F.type_list_append mt_append (pv 2) (pa_cons (pe_op op_modN (pv 3) pe_int) pa_nil)))
            (pss_one (ps_set (i := 3) scStream.nd rfl (Or.inl rfl) (pe_op op_fdivN (pv 3) pe_int))))
          (pss_one (ps_expr (pe_bm PySem.F.plainAttrs_list PySem.F.slot_list_append PySem.F.type_list_append mt_append (pv 2)
            (pa_cons (pe_op op_fdivN (pe_op op_modN (pe_op op_add (pe_op op_mul (pe_op op_modN (pe_op op_mul (pv 4) (pv 4)) pe_int) pe_int) (pv 5)) pe_int) pe_int) pa_nil))))))))
      (pss_one (ps_ret (pv 2)))))), ?_⟩
    refine ⟨Nat.zero_le _, fun p np => ?_⟩
    refine ⟨_, rfl, _, _, rfl, rfl, ⟨by decide, by decide⟩, ?_⟩
    refine ⟨_, rfl, _, _, rfl, rfl, (by show (2147483629 : Int) ≠ 0; decide), _, _, rfl, rfl, ?_⟩
    refine ⟨_, rfl, _, rfl, by omega, by omega, for_range (lo := 0) (n := m) (fun i σ H' => ∃ (ns : List Int) (left num : Int) (v : Option V), σ = [some (.int c), some (.int m), some (.ref p), some (.int left), some (.int num), v] ∧
      0 ≤ num ∧ num < 4294967296 ∧ ns.length = i ∧ H' = upd H p (.lst (ns.map V.int))) ⟨[], _, _, none, rfl, ?_, ?_, rfl, rfl⟩ ?_ ?_⟩
    · have := fm_lo c (n := 2147483629) (by decide)
      omega
    · have := fm_hi c (n := 2147483629) (by decide)
      omega
    · rintro i σ H' hi ⟨ns, left, num, v, rfl, n0, n1, hl, rfl⟩
      refine ⟨_, rfl, _, _, rfl, rfl, .inr (by decide), _, rfl, _, _, rfl, rfl, .inl (by decide), _, _, rfl, rfl, _, _, rfl, rfl, _, _, rfl, rfl, (by show (2147483647 : Int) ≠ 0; decide), ?_⟩
      have f0 := fm_lo (num * 48271 + 7919 * (0 + (i : Int)) + 1) (n := 2147483647) (by decide)
      have f1 := fm_hi (num * 48271 + 7919 * (0 + (i : Int)) + 1) (n := 2147483647) (by decide)
      have hs : (ns.map V.int).length < sizeLine := by
        rw [List.length_map]
        exact small1000 (by omega)
      dsimp only [gName]
      refine if_join (fun σ' H' => ∃ (ns : List Int) (left num : Int) (v : Option V), σ' = [some (.int c), some (.int m), some (.ref p), some (.int left), some (.int num), v] ∧
        0 ≤ num ∧ num < 4294967296 ∧ ns.length = i + 1 ∧ H' = upd H p (.lst (ns.map V.int))) ?_ fun D' kD => ?_
      · exact fun _ _ z => z
      have els : ∀ num' : Int, 0 ≤ num' → num' < 2147483647 → (tDrop (tBM K "list" rAppend (tVar 2) (tCons (tOp (rI CDivN fun i j => .int (i.fdiv j)) (tOp (rI (fun _ j => j ≠ 0) fun i j => .int (i.fmod j)) (tOp (rI0 fun i j => .int (i + j)) (tOp (rI CMul fun i j => .int (i * j))
          (tOp (rI (fun _ j => j ≠ 0) fun i j => .int (i.fmod j)) (tOp (rI CMul fun i j => .int (i * j)) (tVar 4) (tVar 4)) (tC (.int 2147483629))) (tC (.int 16807))) (tVar 5)) (tC (.int 2147483587))) (tC (.int 8))) tNil)))
          D' [some (.int c), some (.int m), some (.ref p), some (.int left), some (.int num'), some (.int (0 + (i : Int)))] (upd H p (.lst (ns.map V.int))) := fun num' g0 g1 => by
        refine ⟨_, rfl, .inl ⟨rfl, _, SqL.of upd_same⟩, _, rfl, _, rfl, _, _, rfl, rfl, .inl ⟨by omega, by omega⟩, _, _, rfl, rfl, (by show (2147483629 : Int) ≠ 0; decide), _, _, rfl, rfl, .inr (by decide), _, rfl, _, _, rfl, rfl, _, _, rfl, rfl, (by show (2147483587 : Int) ≠ 0; decide), _, _, rfl, rfl, ⟨by decide, by decide⟩, ?_⟩
        refine ⟨p, _, _, rfl, rfl, upd_same, hs, ?_⟩
        rw [upd_upd, snoc_int]
        exact kD _ _ ⟨_, _, _, _, rfl, g0, by omega, by rw [List.length_append, hl]; rfl, rfl⟩
      refine ⟨_, rfl, _, _, rfl, rfl, (by show (2 : Int) ≠ 0; decide), rfl, _, rfl, ?_⟩
      refine ite2 (fun _ => ?_) (fun _ => iteF (els _ f0 f1))
      refine ⟨_, rfl, rfl, _, rfl, ?_⟩
      refine ite2 (fun _ => ?_) (fun _ => iteF (els _ f0 f1))
      refine ⟨_, rfl, _, rfl, rfl, _, rfl, ?_⟩
      refine ite2 (fun _ => ?_) (fun _ => els _ f0 f1)
      refine ⟨_, rfl, .inl ⟨rfl, _, SqL.of upd_same⟩, _, rfl, _, _, rfl, rfl, (by show (268435456 : Int) ≠ 0; decide), p, _, _, rfl, rfl, upd_same, hs, ?_⟩
      rw [upd_upd, snoc_int]
      refine ⟨_, rfl, _, _, rfl, rfl, ⟨by decide, by decide⟩, ?_⟩
      exact kD _ _ ⟨_, _, _, _, rfl, f0, Int.lt_trans f1 (by decide), by rw [List.length_append, hl]; rfl, rfl⟩
    · rintro σ H' ⟨ns, left, num, v, rfl, n0, n1, hl, rfl⟩
      exact ⟨_, rfl, k p _ ns (same_new np) np upd_same hl⟩
end
end MK
/-! The law's texts and places. -/
namespace MK
open PySem PySem.Spec PyProof.Rows L2
open He (ga ma)
def sgs : Str := (" !#$&'()*+,-./0123456789:;<=>?@ABCDEFGHIJKLMNOPQRSTUVWXYZ[\\]^_`abcdefghijklmnopqrstuvwxyz{|}~" : Str) ++ ("\"" : Str)
def few : Str := "|/\\a "
abbrev CodeOk (c : Nat) : Prop := 32 ≤ c ∧ c ≤ 126 ∧ c ≠ 37
theorem sgs_ok : sgs.cps.toList.length = 94 ∧ ∀ c ∈ sgs.cps.toList, CodeOk c := by decide +kernel
theorem few_ok : few.cps.toList.length = 5 ∧ ∀ c ∈ few.cps.toList, CodeOk c := by decide +kernel
theorem nat_of {x : Int} (h : 0 ≤ x) : ∃ n : Nat, x = (n : Int) := Int.eq_ofNat_of_zero_le h
theorem fm_nat (x : Int) {n : Nat} (h : 0 < n) : ∃ k : Nat, x.fmod (n : Int) = (k : Int) ∧ k < n := by
  obtain ⟨k, hk⟩ := nat_of (fm_lo x (n := (n : Int)) (by omega))
  have := fm_hi x (n := (n : Int)) (by omega)
  exact ⟨k, hk, by omega⟩
theorem str_one {z : Str} {c : Nat} : (z ++ (⟨#[c]⟩ : Str)).length = z.length + 1 := str_len _ _
section
variable {P : Program} {w : World} {K : PySem.W.Frag} {mg : Str → Option Value} {base : Heap}
theorem scText0 : FnScope ["_law_cell_here", "_law_signs", "_law_xs", "_law_size", "_law_text_here", "_law_x"] ["_law_cell_here"] (dfn "_law_text" 38).scope := ⟨rfl, rfl, rfl, by decide +kernel, rfl, by decide +kernel, by decide +kernel⟩
theorem ok_ltext (F : Fn K (dfn "_law_text" 38)) (T : Txt K mg) (G : FnR P w K mg base CX0 1 (ga K "_law_stream") spStream) : FnR P w K mg base CX0 2 (ga K "_law_text") spText := by
  refine fnr F scText0 (fun _ _ _ _ _ _ us hl => match us, hl with | [_], _ => rfl) (fun vs H Q E h => ?_) (fun cdv A outer s H vs Q E hr h => ?_)
  · obtain ⟨c, rfl, _⟩ := h
    rfl
  · obtain ⟨c, rfl, k⟩ := h
    refine ⟨_, pss_cons (ps_set (i := 1) scText0.nd rfl (Or.inl rfl) (pe_op op_add_str pe_str pe_str))
      (pss_cons (ps_set (i := 2) scText0.nd rfl (Or.inl rfl) (pe_callP G hr rfl (T.g "_law_stream") (T.k "_law_stream") (fun _ => at0) (pa_cons (pv 0) (pa_cons pe_int pa_nil))))
      (pss_cons (ps_set (i := 3) scText0.nd rfl (Or.inl rfl) (pe_ix ix_list (pe_lst (pa_cons pe_int (pa_cons (pe_op op_modN (pe_ix ix_list (pv 2) pe_int (fun _ _ => rfl)) pe_int) (pa_cons (pe_op op_modN (pe_ix ix_list (pv 2) pe_int (fun _ _ => rfl)) pe_int)
          (pa_cons (pe_op op_modN (pe_ix ix_list (pv 2) pe_int (fun _ _ => rfl)) pe_int) pa_nil))))) (pe_op op_modN (pe_ix ix_list (pv 2) pe_int (fun _ _ => rfl)) pe_int) (fun _ _ => rfl)))
      (pss_cons (ps_set (i := 4) scText0.nd rfl (Or.inl rfl) pe_str)
      (pss_cons (ps_for PassesOwn.never rfl (pi_list (pe_callP G hr rfl (T.g "_law_stream") (T.k "_law_stream") (fun _ => at0) (pa_cons (pe_op op_add (pv 0) pe_int) (pa_cons (pv 3) pa_nil)))) (pg_name (i := 5) scText0.nd rfl (Or.inl rfl))
        (pss_one (ps_if (pt_cmpR op_eq (pe_op op_modN (pe_ix ix_list (pv 2) pe_int (fun _ _ => rfl)) pe_int) pe_int (nomark _))
          (pss_one (ps_set (i := 4) scText0.nd rfl (Or.inl rfl) (pe_op op_add_str (pv 4) (pe_ix ix_str pe_str (pe_op op_modN (pv 5) pe_int) (fun _ _ => rfl)))))
          (pss_one (ps_set (i := 4) scText0.nd rfl (Or.inl rfl) (pe_op op_add_str (pv 4) (pe_ix ix_str (pv 1) (pe_op op_modN (pv 5) pe_int) (fun _ _ => rfl))))))))
      (pss_one (ps_ret (pv 4))))))), ?_⟩
    refine ⟨_, _, rfl, rfl, (by decide +kernel), ?_⟩
    refine ⟨_, rfl, c, 4, rfl, by decide, fun p1 H1 ns s1 n1 h1 hl => ?_⟩
    have i0 := int_at (ns := ns) (k := 0) (by omega)
    have i1 := int_at (ns := ns) (k := 1) (by omega)
    have i2 := int_at (ns := ns) (k := 2) (by omega)
    have n4 : (4 : Int) ≠ 0 := by decide
    have n12 : (12 : Int) ≠ 0 := by decide
    have n61 : (61 : Int) ≠ 0 := by decide
    -- the size
    refine ⟨_, rfl, _, _, _, _, rfl, rfl, SqL.of h1, i1, _, _, rfl, rfl, n4, ?_⟩
    refine ⟨_, rfl, _, _, _, _, rfl, rfl, SqL.of h1, i1, _, _, rfl, rfl, n12, ?_⟩
    refine ⟨_, rfl, _, _, _, _, rfl, rfl, SqL.of h1, i1, _, _, rfl, rfl, n61, ?_⟩
    refine ⟨by show 4 ≤ sizeLine; decide, fun p2 n2 => ?_⟩
    refine ⟨_, rfl, _, _, _, _, rfl, rfl, SqL.of (same_new n2 _ _ h1), i0, _, _, rfl, rfl, n4, ?_⟩
    obtain ⟨v, hv, ev⟩ := pick (xs := [V.int 0, V.int ((ns[1]'(by omega)).fmod 4), V.int ((ns[1]'(by omega)).fmod 12), V.int ((ns[1]'(by omega)).fmod 61)]) (x := ns[0]'(by omega)) (n := 4) rfl (by decide)
    have hsz : ∃ n : Nat, v = .int n ∧ n ≤ 60 := by
      obtain ⟨a, ha, la⟩ := fm_nat (ns[1]'(by omega)) (n := 4) (by decide)
      obtain ⟨b, hb, lb⟩ := fm_nat (ns[1]'(by omega)) (n := 12) (by decide)
      obtain ⟨d, hd, ld⟩ := fm_nat (ns[1]'(by omega)) (n := 61) (by decide)
      simp only [List.mem_cons, List.not_mem_nil, or_false] at hv
      rcases hv with rfl | rfl | rfl | rfl
      · exact ⟨0, rfl, by omega⟩
      · exact ⟨a, congrArg V.int ha, by omega⟩
      · exact ⟨b, congrArg V.int hb, by omega⟩
      · exact ⟨d, congrArg V.int hd, by omega⟩
    obtain ⟨n, rfl, hn⟩ := hsz
    refine ⟨p2, _, _, _, rfl, rfl, SqL.of upd_same, ev, ?_⟩
    -- the loop
    refine ⟨_, rfl, _, _, rfl, rfl, _, rfl, c + 1, n, rfl, by omega, fun p3 H3 ns3 s3 n3 h3 hl3 => ?_⟩
    have s03 : Same H H3 := (s1.trans (same_new n2)).trans s3
    have h1' : H3 p1 = some (.lst (ns.map V.int)) := ((same_new n2).trans s3) _ _ h1
    refine ⟨p3, rfl, ⟨_, SqL.of h3⟩, for_list (K := K) (a := p3) (xs := ns3.map V.int) (fun i σ H' => H' = H3 ∧ ∃ (z : Str) (v : Option V), σ = [some (.int c), some (.str sgs), some (.ref p1), some (.int n), some (.str z), v] ∧
      z.length = i ∧ ∀ x ∈ z.cps.toList, CodeOk x) ⟨rfl, _, none, rfl, by decide +kernel, fun x hx => absurd hx (by show x ∉ ("" : Str).cps.toList; rw [show ("" : Str).cps.toList = [] by decide +kernel]; exact List.not_mem_nil)⟩ (fun i σ H' _ e => by rw [e.1]; exact SqL.of h3) ?_ ?_⟩
    · rintro i y σ H' hi ⟨rfl, z, v, rfl, hz, hc⟩
      have hin : i < n := by
        have q := (List.getElem?_eq_some_iff.mp hi).1
        rw [List.length_map] at q
        omega
      rw [List.getElem?_map] at hi
      cases e : ns3[i]? with
      | none =>
        rw [e] at hi
        cases hi
      | some x =>
        rw [e] at hi
        cases hi
        have lz : z.length + 1 ≤ sizeLine := size_ok (by omega)
        have fin : ∀ d, CodeOk d → ∀ y ∈ (z ++ (⟨#[d]⟩ : Str)).cps.toList, CodeOk y := fun d hd y hy => by
          rw [str_codes] at hy
          rcases List.mem_append.mp hy with hy | hy
          · exact hc y hy
          · have e2 : y = d := by simpa using hy
            rw [e2]
            exact hd
        refine ⟨_, rfl, _, _, _, _, rfl, rfl, SqL.of h1', i2, _, _, rfl, rfl, (by show (2 : Int) ≠ 0; decide), rfl, _, rfl, ?_⟩
        refine ite2 (fun _ => ?_) (fun _ => ?_)
        · obtain ⟨d, hd, ed⟩ := pick (xs := few.cps.toList) (x := x) few_ok.1 (by decide)
          exact ⟨_, rfl, _, rfl, _, _, rfl, rfl, (by show (5 : Int) ≠ 0; decide), few, _, d, rfl, rfl, (by decide +kernel), ed, _, _, rfl, rfl, lz, rfl, _, _, rfl, by rw [str_one, hz], fin d (few_ok.2 d hd)⟩
        · obtain ⟨d, hd, ed⟩ := pick (xs := sgs.cps.toList) (x := x) sgs_ok.1 (by decide)
          exact ⟨_, rfl, _, rfl, _, rfl, _, _, rfl, rfl, (by show (94 : Int) ≠ 0; decide), sgs, _, d, rfl, rfl, (by decide +kernel), ed, _, _, rfl, rfl, lz, rfl, _, _, rfl, by rw [str_one, hz], fin d (sgs_ok.2 d hd)⟩
    · rintro σ H' ⟨rfl, z, v, rfl, hz, hc⟩
      rw [List.length_map, hl3] at hz
      exact ⟨_, rfl, k z _ ⟨by omega, hc⟩ s03⟩
theorem scPlace : FnScope ["_law_x", "_law_size"] ["_law_x", "_law_size"] (dfn "_law_place" 41).scope := ⟨rfl, rfl, rfl, by decide +kernel, rfl, by decide +kernel, by decide +kernel⟩
theorem ok_place (F : Fn K (dfn "_law_place" 41)) (T : Txt K mg) : FnR P w K mg base CX0 1 (ga K "_law_place") spPlace := by
  refine fnr F scPlace (fun _ _ _ _ _ _ us hl => match us, hl with | [_, _], _ => rfl) (fun vs H Q E h => ?_) (fun cdv A outer s H vs Q E hr h => ?_)
  · obtain ⟨x, n, rfl, _⟩ := h
    rfl
  · obtain ⟨x, n, rfl, hn, k⟩ := h
    refine ⟨_, pss_one (ps_ret (pe_ix ix_list (pe_lst (pa_cons (pe_op op_modN (pe_op op_fdivN (pv 0) pe_int) (pe_op op_add (pv 1) pe_int)) (pa_cons (pe_op op_modN (pe_op op_fdivN (pv 0) pe_int) (pe_op op_add (pv 1) pe_int))
        (pa_cons (pe_callB (call_max2 rfl) rfl (T.f "max") (by decide +kernel) (pa_cons pe_int (pa_cons (pe_op op_sub (pv 1) (pe_op op_modN (pe_op op_fdivN (pv 0) pe_int) pe_int)) pa_nil)))
        (pa_cons (pe_op op_modN (pe_op op_fdivN (pv 0) pe_int) (pe_op op_add (pe_op op_pow pe_int pe_int) pe_int)) pa_nil)))))
      (pe_op op_modN (pe_op op_modN (pv 0) pe_int) pe_int) (fun _ _ => rfl))), ?_⟩
    have n1 : ((n : Int) + 1) ≠ 0 := by omega
    refine ⟨_, rfl, _, _, rfl, rfl, ⟨by decide, by decide⟩, _, rfl, _, _, rfl, rfl, _, _, rfl, rfl, n1, ?_⟩
    refine ⟨_, rfl, _, _, rfl, rfl, ⟨by decide, by decide⟩, _, rfl, _, _, rfl, rfl, _, _, rfl, rfl, n1, ?_⟩
    refine ⟨_, rfl, _, rfl, _, _, rfl, rfl, ⟨by decide, by decide⟩, _, _, rfl, rfl, (by show (2 : Int) ≠ 0; decide), _, _, rfl, rfl, _, _, rfl, ?_⟩
    refine ⟨_, rfl, _, _, rfl, rfl, ⟨by decide, by decide⟩, _, _, rfl, rfl, ⟨by decide, by decide, by decide⟩, _, _, rfl, rfl, _, _, rfl, rfl, (by show ((10 : Int) ^ (9 : Int).toNat + 1) ≠ 0; decide), ?_⟩
    refine ⟨by show 4 ≤ sizeLine; decide, fun p np => ?_⟩
    refine ⟨_, rfl, _, _, rfl, rfl, (by show (8 : Int) ≠ 0; decide), _, _, rfl, rfl, (by show (4 : Int) ≠ 0; decide), ?_⟩
    obtain ⟨v, hv, ev⟩ := pick (xs := [V.int ((x.fdiv 8).fmod ((n : Int) + 1)), V.int ((x.fdiv 8).fmod ((n : Int) + 1)), V.int (if (n : Int) - (x.fdiv 8).fmod 2 > 0 then (n : Int) - (x.fdiv 8).fmod 2 else 0), V.int ((x.fdiv 8).fmod ((10 : Int) ^ (9 : Int).toNat + 1))]) (x := x.fmod 8) (n := 4) rfl (by decide)
    have hsz : ∃ i : Nat, v = .int i ∧ Plc i := by
      have hn' : n ≤ 1000000000 := hn
      obtain ⟨a, ha, la⟩ := fm_nat (x.fdiv 8) (n := n + 1) (by omega)
      obtain ⟨b, hb, lb⟩ := fm_nat (x.fdiv 8) (n := 1000000001) (by decide)
      have r0 := fm_lo (x.fdiv 8) (n := 2) (by decide)
      simp only [List.mem_cons, List.not_mem_nil, or_false] at hv
      rcases hv with rfl | rfl | rfl | rfl
      · exact ⟨a, congrArg V.int ha, by show a ≤ 1000000000; omega⟩
      · exact ⟨a, congrArg V.int ha, by show a ≤ 1000000000; omega⟩
      · by_cases g : (n : Int) - (x.fdiv 8).fmod 2 > 0
        · rw [if_pos g]
          obtain ⟨d, hd⟩ := nat_of (x := (n : Int) - (x.fdiv 8).fmod 2) (by omega)
          exact ⟨d, congrArg V.int hd, by show d ≤ 1000000000; omega⟩
        · rw [if_neg g]
          exact ⟨0, rfl, by show 0 ≤ 1000000000; omega⟩
      · exact ⟨b, congrArg V.int hb, by show b ≤ 1000000000; omega⟩
    obtain ⟨i, rfl, hi⟩ := hsz
    exact ⟨p, _, _, _, rfl, rfl, SqL.of upd_same, ev, k i _ hi (same_new np)⟩
end
end MK
/-! The law's tables and deeds. -/
namespace MK
open PySem PySem.Spec PyProof.Rows L2
open He (ga ma)
def spTable : Sp := fun vs H Q _ => ∃ c : Int, vs = [.int c] ∧ ∀ (a : Addr) (t : Tab) (H' : Hp), TabOk t → Same H H' → TabAt H' a t → Q (.ref a) H'
def spDraw (K : PySem.W.Frag) : Sp := fun vs H Q _ => ∃ (lr : Addr) (c : Int) (kvs : List (Key × V)) (l : Recs), vs = [.ref lr, .int c] ∧ H lr = some (.dK kvs) ∧ RecsAt H kvs l ∧ RecsOk l ∧
  ∀ (D : Deed) (a : Addr) (H' : Hp), D.Ok → Same H H' → Told H' a D → Q (.ref a) H'
theorem size_pick (a b : Int) : ∃ n : Nat, atI [V.int (1 + (b.fdiv 3).fmod 3), V.int (1 + (b.fdiv 3).fmod 6), V.int 6] (a.fmod 3) = some (.int n) ∧ 1 ≤ n ∧ n ≤ 6 := by
  obtain ⟨v, hv, ev⟩ := pick (xs := [V.int (1 + (b.fdiv 3).fmod 3), V.int (1 + (b.fdiv 3).fmod 6), V.int 6]) (x := a) (n := 3) rfl (by decide)
  obtain ⟨i, hi, li⟩ := fm_nat (b.fdiv 3) (n := 3) (by decide)
  obtain ⟨j, hj, lj⟩ := fm_nat (b.fdiv 3) (n := 6) (by decide)
  simp only [List.mem_cons, List.not_mem_nil, or_false] at hv
  rcases hv with rfl | rfl | rfl
  · refine ⟨1 + i, ev.trans (congrArg (fun z => some (V.int z)) ?_), by omega, by omega⟩
    have hi' : (b.fdiv 3).fmod 3 = (i : Int) := hi
    rw [hi']
    omega
  · refine ⟨1 + j, ev.trans (congrArg (fun z => some (V.int z)) ?_), by omega, by omega⟩
    have hj' : (b.fdiv 3).fmod 6 = (j : Int) := hj
    rw [hj']
    omega
  · exact ⟨6, ev, by omega, by omega⟩
theorem strs_snoc {r : Row} {z : Str} : r.map V.str ++ [V.str z] = (r ++ [z]).map V.str := by
  rw [List.map_append] <;> rfl
theorem refs_snoc {ps : List Addr} {a : Addr} : ps.map V.ref ++ [V.ref a] = (ps ++ [a]).map V.ref := by
  rw [List.map_append] <;> rfl
/-- a list of texts that a comprehension has made so far -/
def RowSoFar (H H' : Hp) (D : Addr) (i : Nat) : Prop := Same H H' ∧ ∃ r : Row, H' D = some (.lst (r.map V.str)) ∧ r.length = i ∧ ∀ z ∈ r, TextOk z
theorem RowSoFar.step {H H1 H2 : Hp} {D : Addr} {i : Nat} {z : Str} (h : RowSoFar H H1 D i) (s : Same H1 H2) (nD : H D = none) (hz : TextOk z) (hi : i ≤ 100) : ∃ acc, H2 D = some (.lst acc) ∧ acc.length < sizeLine ∧ RowSoFar H (upd H2 D (.lst (acc ++ [V.str z]))) D (i + 1) := by
  obtain ⟨s0, r, hr, hl, ho⟩ := h
  refine ⟨_, s _ _ hr, by rw [List.length_map]; exact small1000 (by omega), same_upd (s0.trans s) nD, r ++ [z], by rw [upd_same, strs_snoc], by rw [List.length_append, hl]; rfl, fun y hy => ?_⟩
  rcases List.mem_append.mp hy with hy | hy
  · exact ho y hy
  · rw [List.mem_singleton.mp hy]
    exact hz
section
variable {P : Program} {w : World} {K : PySem.W.Frag} {mg : Str → Option Value} {base : Heap}
theorem scTable : FnScope ["_law_cell_here", "_law_xs", "_law_many", "_law_wide", "_law_rows", "_law_j", "_law_k"] ["_law_cell_here"] (dfn "_law_table" 39).scope := ⟨rfl, rfl, rfl, by decide +kernel, rfl, by decide +kernel, by decide +kernel⟩
theorem ok_ltable (F : Fn K (dfn "_law_table" 39)) (T : Txt K mg) (G : FnR P w K mg base CX0 1 (ga K "_law_stream") spStream) (GT : FnR P w K mg base CX0 2 (ga K "_law_text") spText) : FnR P w K mg base CX0 3 (ga K "_law_table") spTable := by
  refine fnr F scTable (fun _ _ _ _ _ _ us hl => match us, hl with | [_], _ => rfl) (fun vs H Q E h => ?_) (fun cdv A outer s H vs Q E hr h => ?_)
  · obtain ⟨c, rfl, _⟩ := h
    rfl
  · obtain ⟨c, rfl, k⟩ := h
    have hr1 : Room 1 _ := hr.mono (by decide)
    refine ⟨_, pss_cons (ps_set (i := 1) scTable.nd rfl (Or.inl rfl) (pe_callP G hr1 rfl (T.g "_law_stream") (T.k "_law_stream") (fun _ => at0) (pa_cons (pv 0) (pa_cons pe_int pa_nil))))
      (pss_cons (ps_set (i := 2) scTable.nd rfl (Or.inl rfl) (pe_ix ix_list (pe_lst (pa_cons (pe_op op_add pe_int (pe_op op_modN (pe_op op_fdivN (pe_ix ix_list (pv 1) pe_int (fun _ _ => rfl)) pe_int) pe_int)) (pa_cons (pe_op op_add pe_int (pe_op op_modN (pe_op op_fdivN (pe_ix ix_list (pv 1) pe_int (fun _ _ => rfl)) pe_int) pe_int)) (pa_cons pe_int pa_nil))))
        (pe_op op_modN (pe_ix ix_list (pv 1) pe_int (fun _ _ => rfl)) pe_int) (fun _ _ => rfl)))
      (pss_cons (ps_set (i := 3) scTable.nd rfl (Or.inl rfl) (pe_ix ix_list (pe_lst (pa_cons (pe_op op_add pe_int (pe_op op_modN (pe_op op_fdivN (pe_ix ix_list (pv 1) pe_int (fun _ _ => rfl)) pe_int) pe_int)) (pa_cons (pe_op op_add pe_int (pe_op op_modN (pe_op op_fdivN (pe_ix ix_list (pv 1) pe_int (fun _ _ => rfl)) pe_int) pe_int)) (pa_cons pe_int pa_nil))))
        (pe_op op_modN (pe_ix ix_list (pv 1) pe_int (fun _ _ => rfl)) pe_int) (fun _ _ => rfl)))
      (pss_cons (ps_set (i := 4) scTable.nd rfl (Or.inl rfl) (pe_lst pa_nil))
      (pss_cons (ps_for PassesOwn.never rfl (pi_range1 rfl (T.f "range") (pa_cons (pv 2) pa_nil)) (pg_name (i := 5) scTable.nd rfl (Or.inr rfl))
        (pss_one (ps_expr (pe_bm PySem.F.plainAttrs_list PySem.F.slot_list_append PySem.F.type_list_append mt_append (pv 4) (pa_cons (pe_callTy call_tuple_of rfl (T.f "tuple") (by decide +kernel) (pa_cons
          (pe_lc (own := [("_law_k", 6)]) (g := gName 6) (tt := tYes) rfl scTable.nd (pi_range1 rfl (T.f "range") (pa_cons (pv 3) pa_nil)) (blkOk_by (own := [("_law_k", 6)]) (N := ["_law_cell_here", "_law_xs", "_law_many", "_law_wide", "_law_rows", "_law_j", "_law_k"]) (sc := (dfn "_law_table" 39).scope) (by decide +kernel))
            (fun _ _ _ _ _ => pg_name (i := 6) scTable.nd rfl (Or.inl rfl)) (fun _ _ _ _ _ => pts_nil)
            (fun _ _ _ _ _ => pe_callP GT hr rfl (T.g "_law_text") (T.k "_law_text") (fun _ => at0) (pa_cons (pe_op op_add (pe_op op_add (pe_op op_add (pv 0) (pe_op op_mul pe_int (pv 5))) (pe_op op_mul pe_int (pv 6))) pe_int) pa_nil))) pa_nil)) pa_nil)))))
      (pss_one (ps_ret (pe_callTy call_tuple_of rfl (T.f "tuple") (by decide +kernel) (pa_cons (pv 4) pa_nil)))))))), ?_⟩
    refine ⟨_, rfl, c, 3, rfl, by decide, fun p1 H1 ns s1 n1 h1 hl => ?_⟩
    have i0 := int_at (ns := ns) (k := 0) (by omega)
    have i1 := int_at (ns := ns) (k := 1) (by omega)
    have n3 : (3 : Int) ≠ 0 := by decide
    have n6 : (6 : Int) ≠ 0 := by decide
    -- many
    refine ⟨_, rfl, _, _, _, _, rfl, rfl, SqL.of h1, i0, _, _, rfl, rfl, ⟨by decide, by decide⟩, _, _, rfl, rfl, n3, _, _, rfl, rfl, ?_⟩
    refine ⟨_, rfl, _, _, _, _, rfl, rfl, SqL.of h1, i0, _, _, rfl, rfl, ⟨by decide, by decide⟩, _, _, rfl, rfl, n6, _, _, rfl, rfl, ?_⟩
    refine ⟨by show 3 ≤ sizeLine; decide, fun p2 n2 => ?_⟩
    have s2 := s1.trans (same_new (o := .lst [V.int (1 + ((ns[0]'(by omega)).fdiv 3).fmod 3), V.int (1 + ((ns[0]'(by omega)).fdiv 3).fmod 6), V.int 6]) n2)
    refine ⟨_, rfl, _, _, _, _, rfl, rfl, SqL.of (same_new n2 _ _ h1), i0, _, _, rfl, rfl, n3, ?_⟩
    obtain ⟨many, em, m1, m6⟩ := size_pick (ns[0]'(by omega)) (ns[0]'(by omega))
    refine ⟨p2, _, _, _, rfl, rfl, SqL.of upd_same, em, ?_⟩
    have h1b := same_new (o := .lst [V.int (1 + ((ns[0]'(by omega)).fdiv 3).fmod 3), V.int (1 + ((ns[0]'(by omega)).fdiv 3).fmod 6), V.int 6]) n2 _ _ h1
    -- wide
    refine ⟨_, rfl, _, _, _, _, rfl, rfl, SqL.of h1b, i1, _, _, rfl, rfl, ⟨by decide, by decide⟩, _, _, rfl, rfl, n3, _, _, rfl, rfl, ?_⟩
    refine ⟨_, rfl, _, _, _, _, rfl, rfl, SqL.of h1b, i1, _, _, rfl, rfl, ⟨by decide, by decide⟩, _, _, rfl, rfl, n6, _, _, rfl, rfl, ?_⟩
    refine ⟨by show 3 ≤ sizeLine; decide, fun p3 n3' => ?_⟩
    refine ⟨_, rfl, _, _, _, _, rfl, rfl, SqL.of (same_new n3' _ _ h1b), i1, _, _, rfl, rfl, n3, ?_⟩
    obtain ⟨wide, ew, w1, w6⟩ := size_pick (ns[1]'(by omega)) (ns[1]'(by omega))
    refine ⟨p3, _, _, _, rfl, rfl, SqL.of upd_same, ew, ?_⟩
    have s3 := s2.trans (same_new (o := .lst [V.int (1 + ((ns[1]'(by omega)).fdiv 3).fmod 3), V.int (1 + ((ns[1]'(by omega)).fdiv 3).fmod 6), V.int 6]) n3')
    -- rows
    refine ⟨Nat.zero_le _, fun L nL => ?_⟩
    have nL0 := s3.free nL
    refine ⟨_, rfl, many, rfl, by omega, by omega, for_range (lo := 0) (n := many) (fun i σ H' => ∃ (ps : List Addr) (t : Tab) (v : Option V), σ = [some (.int c), some (.ref p1), some (.int many), some (.int wide), some (.ref L), v, none] ∧
      Same H H' ∧ H' L = some (.lst (ps.map V.ref)) ∧ Paired (RowAt H') ps t ∧ (∀ r ∈ t, RowOk wide r) ∧ t.length = i) ⟨[], [], none, rfl, s3.trans (same_new nL), upd_same, .nil, fun r hr => absurd hr List.not_mem_nil, rfl⟩ ?_ ?_⟩
    · rintro i σ H' hi ⟨ps, t, v, rfl, sH, hL, hp, ho, hlt⟩
      refine ⟨_, rfl, .inl ⟨rfl, _, SqL.of hL⟩, _, rfl, wide, rfl, by omega, by omega, fun D nD => lc_range (lo := 0) (n := wide) (fun j Hj => RowSoFar H' Hj D j) ⟨same_new nD, [], upd_same, rfl, fun z hz => absurd hz List.not_mem_nil⟩ ?_ ?_⟩
      · rintro j Hj hj hR
        refine ⟨rfl, ?_⟩
        dsimp only [tYes]
        refine iteT ?_
        refine ⟨_, rfl, _, rfl, _, _, rfl, rfl, .inl (by decide), _, _, rfl, rfl, _, rfl, _, _, rfl, rfl, .inl (by decide), _, _, rfl, rfl, _, _, rfl, rfl, _, rfl, fun z H2 hz sz => ?_⟩
        exact hR.step sz nD hz (by omega)
      · rintro Hc ⟨sc, r, hD, hl2, hr2⟩
        refine ⟨D, _, rfl, .inl ⟨SqL.of hD, fun q nq => ?_⟩⟩
        have hL2 : (upd Hc q (.tup (r.map V.str))) L = some (.lst (ps.map V.ref)) := same_new nq _ _ (sc _ _ hL)
        have lp := pd_len hp
        refine ⟨L, _, _, rfl, rfl, hL2, by rw [List.length_map]; exact small1000 (by omega), ?_⟩
        have sF : Same H (upd Hc q (.tup (r.map V.str))) := (sH.trans sc).trans (same_new nq)
        refine ⟨ps ++ [q], t ++ [r], _, rfl, same_upd sF nL0, by rw [upd_same, refs_snoc], ?_, fun x hx => ?_, by rw [List.length_append, hlt]; rfl⟩
        · have mA : Tups H' (upd (upd Hc q (.tup (r.map V.str))) L (.lst (ps.map V.ref ++ [V.ref q]))) := fun a xs e => tups_lst hL2 _ _ ((sc.trans (same_new nq)) _ _ e)
          exact pd_app (pd_mono (fun x y z => RowAt.mono mA z) hp) (.cons (tups_lst hL2 _ _ upd_same) .nil)
        · rcases List.mem_append.mp hx with hx | hx
          · exact ho x hx
          · rw [List.mem_singleton.mp hx]
            exact ⟨hl2, hr2⟩
    · rintro σ H' ⟨ps, t, v, rfl, sH, hL, hp, ho, hlt⟩
      refine ⟨_, rfl, L, _, rfl, .inl ⟨SqL.of hL, fun q nq => ?_⟩⟩
      exact k q t _ ⟨by omega, by omega, wide, w1, w6, ho⟩ (sH.trans (same_new nq)) ⟨ps, upd_same, pd_mono (fun x y z => RowAt.mono (Tups.of (same_new nq)) z) hp⟩
end
end MK
/-! The law's deeds. -/
namespace MK
open PySem PySem.Spec PyProof.Rows L2
open He (ga ma)
theorem len_cont {K : PySem.W.Frag} {H : Hp} {v : V} {c : Cont} (h : ContAt H v c) (o : c.Ok) : ∃ n : Nat, LenV K v H n ∧ n ≤ 60 ∧ (match c with
    | .txt z => n = z.length
    | .tab t => n = t.length) := by
  cases c with
  | txt z =>
    have e : v = .str z := h
    subst e
    have o' : TextOk z := o
    exact ⟨z.length, ⟨size_ok (Nat.le_trans o'.1 (by decide)), rfl⟩, o'.1, rfl⟩
  | tab t =>
    obtain ⟨a, e, ps, h1, h2⟩ := h
    subst e
    have o' : TabOk t := o
    have := o'.n6
    exact ⟨t.length, .inr ⟨_, SqT.of h1, (rows_len h2).symm⟩, by omega, rfl⟩
theorem abc_ok : TextOk "abc" := by
  have h : (("abc" : Str).length ≤ 60 ∧ ∀ c ∈ ("abc" : Str).cps.toList, 32 ≤ c ∧ c ≤ 126 ∧ c ≠ 37) := by decide +kernel
  exact h
theorem rec_cont {R : Rec} (h : R.Ok) : R.cont.Ok := by
  obtain ⟨k, pa, ra, c⟩ := R
  cases c with
  | txt z => exact h.2
  | tab t => exact h.2
def partA : List Str := ["a", "a.b", "t", "t", "ab"]
theorem part_a {z : Str} (h : z ∈ partA) : z ∈ partN := by
  have key : partA.all (fun z => partN.contains z) = true := by decide +kernel
  exact List.contains_iff_mem.mp (List.all_eq_true.mp key z h)
theorem pick_str {l : List Str} {x : Int} {n : Nat} (hl : l.length = n) (hn : 0 < n) : ∃ z ∈ l, atI (l.map V.str) (x.fmod (n : Int)) = some (.str z) := by
  obtain ⟨v, hv, ev⟩ := pick (xs := l.map V.str) (x := x) (n := n) (by rw [List.length_map]; exact hl) hn
  obtain ⟨z, hz, rfl⟩ := List.mem_map.mp hv
  exact ⟨z, hz, ev⟩
section
variable {P : Program} {w : World} {K : PySem.W.Frag} {mg : Str → Option Value} {base : Heap}
theorem scDraw : FnScope ["_law_records", "_law_cell_here", "_law_xs", "_law_part", "_law_content_here", "_law_size", "_law_text_here", "_law_at", "_law_wide", "_law_k"] ["_law_records", "_law_cell_here"] (dfn "_law_deed" 42).scope := ⟨rfl, rfl, rfl, by decide +kernel, rfl, by decide +kernel, by decide +kernel⟩
theorem ok_draw (F : Fn K (dfn "_law_deed" 42)) (T : Txt K mg) (G : FnR P w K mg base CX0 1 (ga K "_law_stream") spStream) (GT : FnR P w K mg base CX0 2 (ga K "_law_text") spText) (GP : FnR P w K mg base CX0 1 (ga K "_law_place") spPlace) :
    FnR P w K mg base CX0 3 (ga K "_law_deed") (spDraw K) := by
  refine fnr F scDraw (fun _ _ _ _ _ _ us hl => match us, hl with | [_, _], _ => rfl) (fun vs H Q E h => ?_) (fun cdv A outer s H vs Q E hr h => ?_)
  · obtain ⟨lr, c, kvs, l, rfl, _⟩ := h
    rfl
  · obtain ⟨lr, c, kvs, l, rfl, hd, hl, oL, k⟩ := h
    have hr1 : Room 1 _ := hr.mono (by decide)
    refine ⟨_, pss_cons (ps_set (i := 2) scDraw.nd rfl (Or.inr rfl) (pe_callP G hr1 rfl (T.g "_law_stream") (T.k "_law_stream") (fun _ => at0) (pa_cons (pv 1) (pa_cons pe_int pa_nil))))
      (pss_cons (ps_set (i := 3) scDraw.nd rfl (Or.inl rfl) (pe_ix ix_list (pe_lst (pa_cons pe_str (pa_cons pe_str (pa_cons pe_str (pa_cons pe_str (pa_cons pe_str pa_nil)))))) (pe_op op_modN (pe_ix ix_list (pv 2) pe_int (fun _ _ => rfl)) pe_int) (fun _ _ => rfl)))
      (pss_cons (ps_set (i := 4) scDraw.nd rfl (Or.inl rfl) (pe_ix ix_tup (pe_dget2 (hu_of hr) (pv 0) (pv 3) (pe_tup (pa_cons pe_str (pa_cons pe_str (pa_cons pe_int (pa_cons pe_str pa_nil))))) ⟨rfl, rfl, rfl, rfl⟩) pe_int (fun _ _ => rfl)))
      (pss_cons (ps_set (i := 5) scDraw.nd rfl (Or.inl rfl) (pe_callB call_len rfl (T.f "len") (by decide +kernel) (pa_cons (pv 4) pa_nil)))
      (pss_cons (ps_set (i := 6) scDraw.nd rfl (Or.inl rfl) (pe_callP GT hr rfl (T.g "_law_text") (T.k "_law_text") (fun _ => at0) (pa_cons (pe_ix ix_list (pv 2) pe_int (fun _ _ => rfl)) pa_nil)))
      (pss_cons (ps_set (i := 7) scDraw.nd rfl (Or.inl rfl) (pe_callP GP hr1 rfl (T.g "_law_place") (T.k "_law_place") (fun _ => at0) (pa_cons (pe_ix ix_list (pv 2) pe_int (fun _ _ => rfl)) (pa_cons (pv 5) pa_nil))))
      (pss_cons (ps_if (pt_cmpR op_eq (pe_op op_modN (pe_ix ix_list (pv 2) pe_int (fun _ _ => rfl)) pe_int) pe_int (nomark _))
        (pss_one (ps_set (i := 3) scDraw.nd rfl (Or.inl rfl) (pe_ix ix_list (pe_lst (pa_cons pe_str (pa_cons pe_str (pa_cons pe_str (pa_cons pe_str pa_nil))))) (pe_op op_modN (pe_ix ix_list (pv 2) pe_int (fun _ _ => rfl)) pe_int) (fun _ _ => rfl)))) pss_nil)
      (pss_cons (ps_if (pt_not (pt_val (pe_isi (n := "tuple") rfl (T.f "isinstance") rfl (T.f "tuple") (by decide +kernel) (pv 4))))
        (pss_cons (ps_if (pt_cmpR op_eq (pe_op op_modN (pe_ix ix_list (pv 2) pe_int (fun _ _ => rfl)) pe_int) pe_int (nomark _)) (pss_one (ps_ret (pe_tup (pa_cons pe_str (pa_cons (pv 3) (pa_cons (pv 6) pa_nil)))))) pss_nil)
          (pss_one (ps_ret (pe_tup (pa_cons pe_str (pa_cons (pv 3) (pa_cons (pv 7) (pa_cons (pe_callP GP hr1 rfl (T.g "_law_place") (T.k "_law_place") (fun _ => at0) (pa_cons (pe_ix ix_list (pv 2) pe_int (fun _ _ => rfl))
            (pa_cons (pe_callB (call_max2 rfl) rfl (T.f "max") (by decide +kernel) (pa_cons pe_int (pa_cons (pe_op op_sub (pv 5) (pv 7)) pa_nil))) pa_nil))) (pa_cons (pv 6) pa_nil))))))))) pss_nil)
      (pss_cons (ps_if (pt_cmpR op_eq (pe_op op_modN (pe_ix ix_list (pv 2) pe_int (fun _ _ => rfl)) pe_int) pe_int (nomark _))
        (pss_one (ps_ret (pe_tup (pa_cons pe_str (pa_cons (pv 3) (pa_cons (pe_callP GP hr1 rfl (T.g "_law_place") (T.k "_law_place") (fun _ => at0) (pa_cons (pe_ix ix_list (pv 2) pe_int (fun _ _ => rfl)) (pa_cons (pe_op op_sub (pv 5) pe_int) pa_nil)))
          (pa_cons (pe_callP GP hr1 rfl (T.g "_law_place") (T.k "_law_place") (fun _ => at0) (pa_cons (pe_ix ix_list (pv 2) pe_int (fun _ _ => rfl)) (pa_cons (pe_op op_sub (pe_callB call_len_seq rfl (T.f "len") (by decide +kernel) (pa_cons (pe_ix ix_tup (pv 4) pe_int (fun _ _ => rfl)) pa_nil)) pe_int) pa_nil)))
          (pa_cons (pv 6) pa_nil)))))))) pss_nil)
      (pss_cons (ps_if (pt_cmpR op_eq (pe_op op_modN (pe_ix ix_list (pv 2) pe_int (fun _ _ => rfl)) pe_int) pe_int (nomark _))
        (pss_cons (ps_set (i := 8) scDraw.nd rfl (Or.inl rfl) (pe_ix ix_list (pe_lst (pa_cons (pe_callB call_len_seq rfl (T.f "len") (by decide +kernel) (pa_cons (pe_ix ix_tup (pv 4) pe_int (fun _ _ => rfl)) pa_nil))
            (pa_cons (pe_op op_add pe_int (pe_op op_modN (pe_ix ix_list (pv 2) pe_int (fun _ _ => rfl)) pe_int)) pa_nil)))
            (pe_callTy call_int1 rfl (T.f "int") (by decide +kernel) (pa_cons (pe_cmpR op_eq (pe_op op_modN (pe_op op_fdivN (pe_ix ix_list (pv 2) pe_int (fun _ _ => rfl)) pe_int) pe_int) pe_int (nomark _)) pa_nil)) (fun _ _ => rfl)))
          (pss_one (ps_ret (pe_tup (pa_cons pe_str (pa_cons (pv 3) (pa_cons (pv 7) (pa_cons (pe_callTy call_tuple_of rfl (T.f "tuple") (by decide +kernel) (pa_cons
            (pe_lc (own := [("_law_k", 9)]) (g := gName 9) (tt := tYes) (te := tCallP spText (fun _ => E0) (tCons (tOp (rI0 fun i j => .int (i + j)) (tOp (rIxL K) (tVar 2) (tC (.int 1))) (tVar 9)) tNil)) rfl scDraw.nd (pi_range1 rfl (T.f "range") (pa_cons (pv 8) pa_nil))
              (blkOk_by (own := [("_law_k", 9)]) (N := ["_law_records", "_law_cell_here", "_law_xs", "_law_part", "_law_content_here", "_law_size", "_law_text_here", "_law_at", "_law_wide", "_law_k"]) (sc := (dfn "_law_deed" 42).scope) (by decide +kernel))
              (fun _ _ _ _ _ => pg_name (i := 9) scDraw.nd rfl (Or.inl rfl)) (fun _ _ _ _ _ => pts_nil)
              (fun _ _ _ _ _ => pe_callP GT hr rfl (T.g "_law_text") (T.k "_law_text") (fun _ => at0) (pa_cons (pe_op op_add (pe_ix ix_list (pv 2) pe_int (fun _ _ => rfl)) (pv 9)) pa_nil))) pa_nil)) pa_nil)))))))) pss_nil)
      (pss_one (ps_ret (pe_tup (pa_cons pe_str (pa_cons (pv 3) (pa_cons (pe_callP GP hr1 rfl (T.g "_law_place") (T.k "_law_place") (fun _ => at0) (pa_cons (pe_ix ix_list (pv 2) pe_int (fun _ _ => rfl)) (pa_cons (pe_op op_sub (pv 5) pe_int) pa_nil))) pa_nil))))))))))))))), ?_⟩
    -- the stream
    refine ⟨_, rfl, c, 8, rfl, by decide, fun p1 H1 ns s1 n1 h1 hln => ?_⟩
    have i0 := int_at (ns := ns) (k := 0) (by omega)
    have i1 := int_at (ns := ns) (k := 1) (by omega)
    have i2 := int_at (ns := ns) (k := 2) (by omega)
    have i3 := int_at (ns := ns) (k := 3) (by omega)
    have i4 := int_at (ns := ns) (k := 4) (by omega)
    have i5 := int_at (ns := ns) (k := 5) (by omega)
    have n3 : (3 : Int) ≠ 0 := by decide
    have n4 : (4 : Int) ≠ 0 := by decide
    have n5 : (5 : Int) ≠ 0 := by decide
    have n6 : (6 : Int) ≠ 0 := by decide
    have n9 : (9 : Int) ≠ 0 := by decide
    -- the part
    refine ⟨by show 5 ≤ sizeLine; decide, fun p2 n2 => ?_⟩
    refine ⟨_, rfl, _, _, _, _, rfl, rfl, SqL.of (same_new n2 _ _ h1), i0, _, _, rfl, rfl, n5, ?_⟩
    obtain ⟨z0, hz0, ez0⟩ := pick_str (l := partA) (x := ns[0]'(by omega)) (n := 5) rfl (by decide)
    refine ⟨p2, _, _, _, rfl, rfl, SqL.of upd_same, ez0, ?_⟩
    have s2 : Same H (upd H1 p2 (.lst (partA.map V.str))) := s1.trans (same_new n2)
    -- the content
    refine ⟨_, rfl, lr, rfl, .inl ⟨kvs, Rd.of (s2 _ _ hd)⟩, _, rfl, by show 4 ≤ sizeLine; decide, fun p3 n3' => ?_⟩
    have s3 := s2.trans (same_new (o := .tup [.str "", .str "", .int 0, .str "abc"]) n3')
    refine ⟨_, DGet.k (k := Sum.inr z0) (s3 _ _ hd), ?_⟩
    have hcont : ∃ (a : Addr) (xs : List V) (cv : V) (cc : Cont), (valV kvs (.inr z0)).getD (.ref p3) = .ref a ∧ (upd (upd H1 p2 (.lst (partA.map V.str))) p3 (.tup [.str "", .str "", .int 0, .str "abc"])) a = some (.tup xs) ∧ xs[3]? = some cv ∧
        ContAt (upd (upd H1 p2 (.lst (partA.map V.str))) p3 (.tup [.str "", .str "", .int 0, .str "abc"])) cv cc ∧ cc.Ok := by
      cases eR : l.lookup z0 with
      | none =>
        rw [recs_none hl eR]
        exact ⟨p3, _, _, .txt "abc", rfl, upd_same, rfl, rfl, abc_ok⟩
      | some R =>
        obtain ⟨a, hv, cv, ha, hc⟩ := recs_some hl eR
        rw [hv]
        exact ⟨a, _, cv, R.cont, rfl, s3 _ _ ha, rfl, hc.mono (Tups.of s3), rec_cont (oL.of eR)⟩
    obtain ⟨a, xs, cv, cc, ea, ha, hx, hcc, occ⟩ := hcont
    refine ⟨a, xs, 3, cv, ea, rfl, SqT.of ha, atI_nat (j := 3) hx, ?_⟩
    have h13 := ((same_new (o := .lst (partA.map V.str)) n2).trans (same_new (o := .tup [.str "", .str "", .int 0, .str "abc"]) n3')) _ _ h1
    obtain ⟨n, hlen, n60, hnc⟩ := len_cont (K := K) hcc occ
    refine ⟨_, rfl, cv, n, rfl, hlen, ?_⟩
    refine ⟨_, rfl, _, _, _, _, rfl, rfl, SqL.of h13, i1, _, rfl, fun tx H5 htx s5 => ?_⟩
    refine ⟨_, rfl, _, _, _, _, rfl, rfl, SqL.of (s5 _ _ h13), i2, _, rfl, _, n, rfl, by show n ≤ 1000000000; omega, fun at_ H6 hat s6 => ?_⟩
    have h16 := s6 _ _ (s5 _ _ h13)
    have s36 := s5.trans s6
    dsimp only [gName]
    refine if_join (fun σ' H' => ∃ z : Str, z ∈ partN ∧ σ' = [some (.ref lr), some (.int c), some (.ref p1), some (.str z), some cv, some (.int n), some (.str tx), some (.int at_), none, none] ∧ Same H6 H') ?_ fun D' kD => ?_
    rotate_left
    · refine ⟨_, rfl, _, _, _, _, rfl, rfl, SqL.of h16, i3, _, _, rfl, rfl, n9, rfl, _, rfl, ?_⟩
      refine ite2 (fun _ => ?_) (fun _ => ?_)
      · refine ⟨by show 4 ≤ sizeLine; decide, fun p4 n4' => ?_⟩
        obtain ⟨z, hz, ez⟩ := pick_str (l := partN) (x := ns[4]'(by omega)) (n := 4) rfl (by decide)
        exact ⟨_, rfl, _, _, _, _, rfl, rfl, SqL.of (same_new n4' _ _ h16), i4, _, _, rfl, rfl, n4, p4, _, _, _, rfl, rfl, SqL.of upd_same, ez, kD _ _ ⟨z, hz, rfl, same_new n4'⟩⟩
      · exact kD _ _ ⟨z0, part_a hz0, rfl, Same.refl _⟩
    rintro σ' H' ⟨z, hz, rfl, s7⟩
    have h17 := s7 _ _ h16
    have sA : Same H H' := (s3.trans s36).trans s7
    have hc7 := hcc.mono (Tups.of (s36.trans s7))
    cases cc with
    | txt o =>
      have ecv : cv = .str o := hc7
      subst ecv
      refine ⟨_, rfl, _, _, _, _, false, rfl, .ty _, .base (.str o), kit_ty (by decide +kernel), false, rfl, ?_⟩
      refine iteT ?_
      refine ⟨_, rfl, _, _, _, _, rfl, rfl, SqL.of h17, i3, _, _, rfl, rfl, n3, rfl, _, rfl, ?_⟩
      refine ite2 (fun _ => ?_) (fun _ => ?_)
      · exact ⟨_, rfl, _, rfl, by show 3 ≤ sizeLine; decide, fun a na => k (.write z tx) a _ ⟨hz, htx⟩ (sA.trans (same_new na)) ⟨0, upd_same, trivial⟩⟩
      · have hm : ∃ m : Nat, (if (n : Int) - (at_ : Int) > 0 then (n : Int) - (at_ : Int) else 0) = (m : Int) ∧ m ≤ 60 := by
          by_cases g : (n : Int) - (at_ : Int) > 0
          · rw [if_pos g]
            exact ⟨n - at_, by omega, by omega⟩
          · rw [if_neg g]
            exact ⟨0, rfl, by omega⟩
        obtain ⟨m, em, m60⟩ := hm
        refine ⟨_, rfl, _, rfl, _, rfl, _, _, _, _, rfl, rfl, SqL.of h17, i5, _, rfl, _, rfl, _, _, rfl, rfl, _, _, rfl, ?_⟩
        refine ⟨_, m, congrArg (fun t => [V.int _, V.int t]) em, by show m ≤ 1000000000; omega, fun sz H8 hsz s8 => ?_⟩
        exact ⟨_, rfl, by show 5 ≤ sizeLine; decide, fun a na => k (.splice z at_ sz tx) a _ ⟨hz, hat, hsz, htx⟩ ((sA.trans s8).trans (same_new na)) ⟨0, upd_same, trivial⟩⟩
    | tab t =>
      have oT : TabOk t := occ
      have nt : n = t.length := hnc
      have t1 := oT.n1
      obtain ⟨w1, w2, w3⟩ := tab_wide oT
      obtain ⟨b, ecv, hb⟩ := (show ∃ b, cv = .ref b ∧ TabAt H' b t from hc7)
      subst ecv
      obtain ⟨ps, hbt, hps⟩ := id hb
      obtain ⟨b0, r0, hp0, hr0, hw0⟩ : ∃ a r, ps[0]? = some a ∧ RowAt H' a r ∧ r.length = wideOf t := by
        cases hps with
        | nil => exact absurd t1 (by simp)
        | cons r t => exact ⟨_, _, rfl, r, rfl⟩
      have ix0 : atI (ps.map V.ref) 0 = some (.ref b0) := atI_nat (j := 0) (by rw [List.getElem?_map, hp0] <;> rfl)
      have e1 : (n : Int) - 1 = ((n - 1 : Nat) : Int) := by omega
      refine ⟨_, rfl, _, _, _, _, true, rfl, .ty _, .base (.tup hbt), kit_ty (by decide +kernel), true, rfl, iteF ?_⟩
      refine ⟨_, rfl, _, _, _, _, rfl, rfl, SqL.of h17, i3, _, _, rfl, rfl, n3, rfl, _, rfl, ?_⟩
      refine ite2 (fun _ => ?_) (fun _ => ?_)
      · -- a cell
        refine ⟨_, rfl, _, rfl, _, _, _, _, rfl, rfl, SqL.of h17, i2, _, rfl, _, _, rfl, rfl, ?_⟩
        refine ⟨_, n - 1, congrArg (fun t => [V.int _, V.int t]) e1, by show n - 1 ≤ 1000000000; omega, fun rw_ H8 hrw s8 => ?_⟩
        refine ⟨_, rfl, _, _, _, _, rfl, rfl, SqL.of (s8 _ _ h17), i5, _, rfl, b, _, _, _, rfl, rfl, SqT.of (s8 _ _ hbt), ix0, b0, _, rfl, .inr (SqT.of (s8 _ _ hr0)), _, _, rfl, rfl, ?_⟩
        have e2 : ((r0.map V.str).length : Int) - 1 = ((wideOf t - 1 : Nat) : Int) := by
          rw [List.length_map, hw0]
          omega
        refine ⟨_, wideOf t - 1, congrArg (fun t => [V.int _, V.int t]) e2, by show wideOf t - 1 ≤ 1000000000; omega, fun cl H9 hcl s9 => ?_⟩
        exact ⟨_, rfl, by show 5 ≤ sizeLine; decide, fun a na => k (.cell z rw_ cl tx) a _ ⟨hz, hrw, hcl, htx⟩ (((sA.trans s8).trans s9).trans (same_new na)) ⟨0, upd_same, trivial⟩⟩
      · refine ⟨_, rfl, _, _, _, _, rfl, rfl, SqL.of h17, i3, _, _, rfl, rfl, n3, rfl, _, rfl, ?_⟩
        refine ite2 (fun _ => ?_) (fun _ => ?_)
        · -- a row more
          refine ⟨_, rfl, b, _, _, _, rfl, rfl, SqT.of hbt, ix0, b0, _, rfl, .inr (SqT.of hr0), ?_⟩
          refine ⟨_, rfl, _, _, _, _, rfl, rfl, SqL.of h17, i5, _, _, rfl, rfl, n6, _, _, rfl, rfl, by show 2 ≤ sizeLine; decide, fun p5 n5' => ?_⟩
          refine ⟨_, rfl, _, _, _, _, rfl, rfl, SqL.of (same_new n5' _ _ h17), i5, _, _, rfl, rfl, ⟨by decide, by decide⟩, _, _, rfl, rfl, n4, rfl, .inr ⟨_, rfl, ?_⟩⟩
          have hwd : ∀ q : Bool, ∃ m : Nat, atI [V.int ((r0.map V.str).length : Int), V.int (1 + (ns[5]'(by omega)).fmod 6)] (if q then 1 else 0) = some (.int m) ∧ 1 ≤ m ∧ m ≤ 6 := fun q => by
            cases q with
            | false => exact ⟨wideOf t, by rw [List.length_map, hw0]; exact atI_nat (j := 0) rfl, w2, w3⟩
            | true =>
              obtain ⟨j, hj, lj⟩ := fm_nat (ns[5]'(by omega)) (n := 6) (by decide)
              have hj' : (ns[5]'(by omega)).fmod 6 = (j : Int) := hj
              refine ⟨1 + j, (atI_nat (j := 1) rfl).trans ?_, by omega, by omega⟩
              rw [hj']
              exact congrArg (fun z => some (V.int z)) (by omega)
          obtain ⟨m, em, m1, m6⟩ := hwd (decide (V.int (((ns[5]'(by omega)).fdiv 6).fmod 4) = V.int 0))
          refine ⟨p5, _, _, _, rfl, rfl, SqL.of upd_same, em, ?_⟩
          have s8 := sA.trans (same_new (o := .lst [V.int ((r0.map V.str).length : Int), V.int (1 + (ns[5]'(by omega)).fmod 6)]) n5')
          have h18 := same_new (o := .lst [V.int ((r0.map V.str).length : Int), V.int (1 + (ns[5]'(by omega)).fmod 6)]) n5' _ _ h17
          refine ⟨_, rfl, _, rfl, _, rfl, m, rfl, by omega, by omega, fun L nL => lc_range (lo := 0) (n := m) (fun j Hj => RowSoFar (upd H' p5 (.lst [V.int ((r0.map V.str).length : Int), V.int (1 + (ns[5]'(by omega)).fmod 6)])) Hj L j) ⟨same_new nL, [], upd_same, rfl, fun z hz => absurd hz List.not_mem_nil⟩ ?_ ?_⟩
          · rintro j Hj hj hR
            refine ⟨rfl, ?_⟩
            dsimp only [tYes]
            refine iteT ?_
            refine ⟨_, rfl, _, _, _, _, rfl, rfl, SqL.of (hR.1 _ _ h18), i1, _, rfl, _, _, rfl, rfl, _, rfl, fun z H2 hz sz => ?_⟩
            exact hR.step sz nL hz (by omega)
          · rintro Hc ⟨sc, r, hD, hl2, hr2⟩
            refine ⟨L, _, rfl, .inl ⟨SqL.of hD, fun q nq => ?_⟩⟩
            refine ⟨by show 4 ≤ sizeLine; decide, fun a na => ?_⟩
            exact k (.addrow z at_ r) a _ ⟨hz, hat, m, m1, m6, hl2, hr2⟩ (((s8.trans sc).trans (same_new nq)).trans (same_new na)) ⟨q, upd_same, same_new na _ _ upd_same⟩
        · -- a row less
          refine ⟨_, rfl, _, rfl, _, _, _, _, rfl, rfl, SqL.of h17, i2, _, rfl, _, _, rfl, rfl, ?_⟩
          refine ⟨_, n - 1, congrArg (fun t => [V.int _, V.int t]) e1, by show n - 1 ≤ 1000000000; omega, fun rw_ H8 hrw s8 => ?_⟩
          exact ⟨by show 3 ≤ sizeLine; decide, fun a na => k (.cutrow z rw_) a _ ⟨hz, hrw⟩ ((sA.trans s8).trans (same_new na)) ⟨0, upd_same, trivial⟩⟩
end
end MK
/-! A deed made an edit. -/
namespace MK
open PySem PySem.Spec PyProof.Rows L2
open He (ga ma)
def tMakeP (C : Addr) (sp : Sp) (E : XK) (t : TA) : TE := fun σ H Q => t σ H fun vs H1 => ∀ x dx, H1 x = none → H1 dx = none → dx ≠ x → sp (.ref x :: vs) (upd (upd H1 dx (.own x)) x (.ins C dx [])) (fun v H2 => v = .non ∧ Q (.ref x) H2) E
section
variable {X : Cx} {CX : CXT} {k : Nat} {f C : Addr} {sp : Sp} {E : XK} {x : Str} {p pos : Pos} {e : Expr} {es : List Expr} {t : TA}
theorem run_makeP {pins : List (Addr × Obj)} {σ : L2.St} {H : Hp} {s : Shared} {Q : VK} {us : List Value} {vs : List V} (M : Mk X.K C f) (F : FnR X.prog X.w X.K X.mg X.base CX k f sp) (hr : Room (k + 1) X.A) (hx : Passes CX X E) (I : Inv X pins σ H s) (r : Vals vs us)
    (h : ∀ x dx, H x = none → H dx = none → dx ≠ x → sp (.ref x :: vs) (upd (upd H dx (.own x)) x (.ins C dx [])) (fun v H2 => v = .non ∧ Q (.ref x) H2) E) : wpAny (model X.prog X.w) X.A (call (.ref C) us) (EP X pins σ Q) X.xe s := by
  have hq := h (s.heap.objs.size + 1) s.heap.objs.size (I.hok.fresh (Nat.le_succ _)) (I.hok.fresh (Nat.le_refl _)) (Nat.ne_of_lt (Nat.lt_succ_self _))
  have I2 := Inv.made (C := C) I
  refine wpAny_call (make_map (f := f) I.kIn M.makes M.init (beq_iff_eq.mp M.fn) (codeAny_mono (F _ X.stack _ _ (Value.ref (s.heap.objs.size + 1) :: us) (V.ref (s.heap.objs.size + 1) :: vs) _ E (hr.make C us []) (I2.env0.make C us []) (.cons rfl r) hq) fun r s' hq' => ?_))
  cases r with
  | error e => exact hx pins σ _ _ e s' I2 hq'
  | ok fl =>
    cases fl with
    | ret u =>
      obtain ⟨v, H', I3, rv, ev, q3⟩ := I2.after hq'
      subst ev
      exact ⟨rv, ⟨V.ref (s.heap.objs.size + 1), H', I3, rfl, q3⟩⟩
    | next => exact hq'.elim
    | brk => exact hq'.elim
    | cont => exact hq'.elim
theorem pe_makeP (M : Mk X.K C f) (F : FnR X.prog X.w X.K X.mg X.base CX k f sp) (hr : Room (k + 1) X.A) (hg : Gl X x) (hm : X.mg x = some (.ref C)) (hx : Passes CX X E)
    (ha : PA X (e :: es) t) (hdb : (x == ("__debug__" : Str)) = false := by decide) (he : starEach (e :: es) X.env = (false, eval e X.env) :: starEach es X.env := by rfl) (hpl : (backTo pos (starEach es X.env)).any (·.1) = false := by rfl) :
    PE X (.Call (.Name x p) (e :: es) [] pos) (tMakeP C sp E t) := by
  refine ⟨fun pins s σ H Q I h => ?_⟩
  refine wpAny_Call_Name_kw (ld_glob I hg hm ?_ hdb)
  refine PySem.W.callWith_K (h₀ := X.base) I.ok.mod.kin M.kp (thn (ha.run pos pins s σ H _ I h) fun us s1 h1 => ?_) he hpl
  obtain ⟨vs, H1, I1, r, q⟩ := h1
  exact ⟨I1.kIn, run_makeP M F hr hx I1 r q⟩
theorem pe_makeP0 (M : Mk X.K C f) (F : FnR X.prog X.w X.K X.mg X.base CX k f sp) (hr : Room (k + 1) X.A) (hg : Gl X x) (hm : X.mg x = some (.ref C)) (hx : Passes CX X E) (hdb : (x == ("__debug__" : Str)) = false := by decide) :
    PE X (.Call (.Name x p) [] [] pos) (tMakeP C sp E tNil) := by
  refine ⟨fun pins s σ H Q I h => ?_⟩
  refine wpAny_Call_Name_kw (ld_glob I hg hm ?_ hdb)
  exact PySem.W.callWith_K0 I.kIn M.kp (run_makeP (us := []) M F hr hx I .nil h)
end
def spLawMade (K : PySem.W.Frag) : Sp := fun vs H Q _ => ∃ (a : Addr) (D : Deed), vs = [.ref a] ∧ Told H a D ∧ D.Ok ∧ ∀ e H', Same H H' → H e = none → EditAt K H' e D → Q (.ref e) H'
/-- the new instance stands beside all that stood -/
theorem made_same {H H' : Hp} {x dx C : Addr} (hx : H x = none) (hd : H dx = none) (b : But x (upd (upd H dx (.own x)) x (.ins C dx [])) H') : Same H H' := fun a u e =>
  b a u (ne_of_none e hx) ((upd_ne (ne_of_none e hx)).trans ((upd_ne (ne_of_none e hd)).trans e))
theorem made_tups {H : Hp} {x dx C : Addr} (hx : H x = none) (hd : H dx = none) : Tups H (upd (upd H dx (.own x)) x (.ins C dx [])) := fun a xs e =>
  (upd_ne (ne_of_none e hx)).trans ((upd_ne (ne_of_none e hd)).trans e)
section
variable {P : Program} {w : World} {K : PySem.W.Frag} {mg : Str → Option Value} {base : Heap}
theorem scLMade : FnScope ["_law_told_here"] ["_law_told_here"] (dfn "_law_made" 43).scope := ⟨rfl, rfl, rfl, by decide +kernel, rfl, by decide +kernel, by decide +kernel⟩
/-- the end of all five -/
theorem made_end {K : PySem.W.Frag} {H : Hp} {Q : VK} {E : XK} {q : Addr} {D : Deed} (ho : D.Ok) (hq : D.RowIn H q) (k : ∀ e H', Same H H' → H e = none → EditAt K H' e D → Q (.ref e) H') :
    ∀ x dx, H x = none → H dx = none → dx ≠ x → spInit K D.cls (.ref x :: D.args q) (upd (upd H dx (.own x)) x (.ins (ga K D.cls) dx [])) (fun v H2 => v = .non ∧ Q (.ref x) H2) E := fun x dx hx hd _ =>
  ⟨x, dx, q, D, rfl, ho, rfl, upd_same, RowIn.mono (made_tups hx hd) hq, fun H' b h => ⟨rfl, k x H' (made_same hx hd b) hx ⟨dx, q, h, RowIn.mono (Tups.of (made_same hx hd b)) hq⟩⟩⟩
theorem ok_lmade (F : Fn K (dfn "_law_made" 43)) (T : Txt K mg) (GW : FnR P w K mg base CX0 5 (ma K (ga K "Write") "__init__") (spInit K "Write")) (GS : FnR P w K mg base CX0 5 (ma K (ga K "Splice") "__init__") (spInit K "Splice"))
    (GC : FnR P w K mg base CX0 5 (ma K (ga K "Cell") "__init__") (spInit K "Cell")) (GA : FnR P w K mg base CX0 5 (ma K (ga K "AddRow") "__init__") (spInit K "AddRow")) (GR : FnR P w K mg base CX0 5 (ma K (ga K "CutRow") "__init__") (spInit K "CutRow")) :
    FnR P w K mg base CX0 7 (ga K "_law_made") (spLawMade K) := by
  refine fnr F scLMade (fun _ _ _ _ _ _ us hl => match us, hl with | [_], _ => rfl) (fun vs H Q E h => ?_) (fun cdv A outer s H vs Q E hr h => ?_)
  · obtain ⟨a, D, rfl, _⟩ := h
    rfl
  · obtain ⟨a, D, rfl, ht, ho, k⟩ := h
    refine ⟨_, pss_cons (ps_if (pt_cmpR op_eq (pe_ix ix_tup (pv 0) pe_int (fun _ _ => rfl)) pe_str (nomark _)) (pss_one (ps_ret (pe_makeP (T.i "Write").mkr GW hr rfl (T.g "Write") pass0 (pa_cons (pe_ix ix_tup (pv 0) pe_int (fun _ _ => rfl)) (pa_cons (pe_ix ix_tup (pv 0) pe_int (fun _ _ => rfl)) pa_nil))))) pss_nil)
      (pss_cons (ps_if (pt_cmpR op_eq (pe_ix ix_tup (pv 0) pe_int (fun _ _ => rfl)) pe_str (nomark _)) (pss_one (ps_ret (pe_makeP (T.i "Splice").mkr GS hr rfl (T.g "Splice") pass0 (pa_cons (pe_ix ix_tup (pv 0) pe_int (fun _ _ => rfl)) (pa_cons (pe_ix ix_tup (pv 0) pe_int (fun _ _ => rfl)) (pa_cons (pe_ix ix_tup (pv 0) pe_int (fun _ _ => rfl)) (pa_cons (pe_ix ix_tup (pv 0) pe_int (fun _ _ => rfl)) pa_nil))))))) pss_nil)
      (pss_cons (ps_if (pt_cmpR op_eq (pe_ix ix_tup (pv 0) pe_int (fun _ _ => rfl)) pe_str (nomark _)) (pss_one (ps_ret (pe_makeP (T.i "Cell").mkr GC hr rfl (T.g "Cell") pass0 (pa_cons (pe_ix ix_tup (pv 0) pe_int (fun _ _ => rfl)) (pa_cons (pe_ix ix_tup (pv 0) pe_int (fun _ _ => rfl)) (pa_cons (pe_ix ix_tup (pv 0) pe_int (fun _ _ => rfl)) (pa_cons (pe_ix ix_tup (pv 0) pe_int (fun _ _ => rfl)) pa_nil))))))) pss_nil)
      (pss_cons (ps_if (pt_cmpR op_eq (pe_ix ix_tup (pv 0) pe_int (fun _ _ => rfl)) pe_str (nomark _)) (pss_one (ps_ret (pe_makeP (T.i "AddRow").mkr GA hr rfl (T.g "AddRow") pass0 (pa_cons (pe_ix ix_tup (pv 0) pe_int (fun _ _ => rfl)) (pa_cons (pe_ix ix_tup (pv 0) pe_int (fun _ _ => rfl)) (pa_cons (pe_ix ix_tup (pv 0) pe_int (fun _ _ => rfl)) pa_nil)))))) pss_nil)
      (pss_one (ps_ret (pe_makeP (T.i "CutRow").mkr GR hr rfl (T.g "CutRow") pass0 (pa_cons (pe_ix ix_tup (pv 0) pe_int (fun _ _ => rfl)) (pa_cons (pe_ix ix_tup (pv 0) pe_int (fun _ _ => rfl)) pa_nil)))))))), ?_⟩
    obtain ⟨q, ht, hq⟩ := ht
    have hT := SqT.of (K := K) ht
    cases D with
    | write p z =>
      refine ⟨_, rfl, a, _, 0, .str "write", rfl, rfl, hT, atI_nat (j := 0) rfl, rfl, _, rfl, if_yes (by decide +kernel) ?_⟩
      refine ⟨_, rfl, a, _, 1, .str p, rfl, rfl, hT, atI_nat (j := 1) rfl, _, rfl, a, _, 2, .str z, rfl, rfl, hT, atI_nat (j := 2) rfl, ?_⟩
      exact made_end (K := K) ho hq k
    | splice p i n z =>
      refine ⟨_, rfl, a, _, 0, .str "splice", rfl, rfl, hT, atI_nat (j := 0) rfl, rfl, _, rfl, if_not (by decide +kernel) ?_⟩
      refine ⟨_, rfl, a, _, 0, .str "splice", rfl, rfl, hT, atI_nat (j := 0) rfl, rfl, _, rfl, if_yes (by decide +kernel) ?_⟩
      refine ⟨_, rfl, a, _, 1, .str p, rfl, rfl, hT, atI_nat (j := 1) rfl, _, rfl, a, _, 2, .int i, rfl, rfl, hT, atI_nat (j := 2) rfl, _, rfl, a, _, 3, .int n, rfl, rfl, hT, atI_nat (j := 3) rfl, _, rfl, a, _, 4, .str z, rfl, rfl, hT, atI_nat (j := 4) rfl, ?_⟩
      exact made_end (K := K) ho hq k
    | cell p r c z =>
      refine ⟨_, rfl, a, _, 0, .str "cell", rfl, rfl, hT, atI_nat (j := 0) rfl, rfl, _, rfl, if_not (by decide +kernel) ?_⟩
      refine ⟨_, rfl, a, _, 0, .str "cell", rfl, rfl, hT, atI_nat (j := 0) rfl, rfl, _, rfl, if_not (by decide +kernel) ?_⟩
      refine ⟨_, rfl, a, _, 0, .str "cell", rfl, rfl, hT, atI_nat (j := 0) rfl, rfl, _, rfl, if_yes (by decide +kernel) ?_⟩
      refine ⟨_, rfl, a, _, 1, .str p, rfl, rfl, hT, atI_nat (j := 1) rfl, _, rfl, a, _, 2, .int r, rfl, rfl, hT, atI_nat (j := 2) rfl, _, rfl, a, _, 3, .int c, rfl, rfl, hT, atI_nat (j := 3) rfl, _, rfl, a, _, 4, .str z, rfl, rfl, hT, atI_nat (j := 4) rfl, ?_⟩
      exact made_end (K := K) ho hq k
    | addrow p i r =>
      refine ⟨_, rfl, a, _, 0, .str "addrow", rfl, rfl, hT, atI_nat (j := 0) rfl, rfl, _, rfl, if_not (by decide +kernel) ?_⟩
      refine ⟨_, rfl, a, _, 0, .str "addrow", rfl, rfl, hT, atI_nat (j := 0) rfl, rfl, _, rfl, if_not (by decide +kernel) ?_⟩
      refine ⟨_, rfl, a, _, 0, .str "addrow", rfl, rfl, hT, atI_nat (j := 0) rfl, rfl, _, rfl, if_not (by decide +kernel) ?_⟩
      refine ⟨_, rfl, a, _, 0, .str "addrow", rfl, rfl, hT, atI_nat (j := 0) rfl, rfl, _, rfl, if_yes (by decide +kernel) ?_⟩
      refine ⟨_, rfl, a, _, 1, .str p, rfl, rfl, hT, atI_nat (j := 1) rfl, _, rfl, a, _, 2, .int i, rfl, rfl, hT, atI_nat (j := 2) rfl, _, rfl, a, _, 3, .ref q, rfl, rfl, hT, atI_nat (j := 3) rfl, ?_⟩
      exact made_end (K := K) ho hq k
    | cutrow p i =>
      refine ⟨_, rfl, a, _, 0, .str "cutrow", rfl, rfl, hT, atI_nat (j := 0) rfl, rfl, _, rfl, if_not (by decide +kernel) ?_⟩
      refine ⟨_, rfl, a, _, 0, .str "cutrow", rfl, rfl, hT, atI_nat (j := 0) rfl, rfl, _, rfl, if_not (by decide +kernel) ?_⟩
      refine ⟨_, rfl, a, _, 0, .str "cutrow", rfl, rfl, hT, atI_nat (j := 0) rfl, rfl, _, rfl, if_not (by decide +kernel) ?_⟩
      refine ⟨_, rfl, a, _, 0, .str "cutrow", rfl, rfl, hT, atI_nat (j := 0) rfl, rfl, _, rfl, if_not (by decide +kernel) ?_⟩
      refine ⟨_, rfl, a, _, 1, .str p, rfl, rfl, hT, atI_nat (j := 1) rfl, _, rfl, a, _, 2, .int i, rfl, rfl, hT, atI_nat (j := 2) rfl, ?_⟩
      exact made_end (K := K) ho hq k
end
end MK
/-! The rows that are due. -/
namespace MK
open PySem PySem.Spec PyProof.Rows L2
open He (ga ma)
def spRows : Sp := fun vs H Q _ => ∃ (b a : Addr) (t : Tab) (D : Deed), vs = [.ref b, .ref a] ∧ D.isTab ∧ D.Ok ∧ TabAt H b t ∧ TabOk t ∧ Told H a D ∧
  (farB t D = true → ∀ H', Same H H' → Q (.str "far") H') ∧ (farB t D = false → ∀ p H', Same H H' → TabAt H' p (outF t D) → Q (.ref p) H')
theorem same_lst {H H' : Hp} {L : Addr} {o : HO} (s : Same H H') (n : H L = none) : Same H (upd H' L o) := same_upd s n
theorem ix_of {n i : Nat} (h : i < n) : ixN n (i : Int) = some i := by
  unfold ixN
  rw [if_pos (by omega), if_pos (by omega)]; simp
theorem seq_of {n i : Nat} (h : i < n) : seqIndex? (i : Int) n = some i := (ixN_seq (ix_of h)).1
section
variable {P : Program} {w : World} {K : PySem.W.Frag} {mg : Str → Option Value} {base : Heap}
theorem scRowsDue : FnScope ["_law_old", "_law_told_here", "_law_rows", "_law_row"] ["_law_old", "_law_told_here"] (dfn "_law_rows_due" 44).scope := ⟨rfl, rfl, rfl, by decide +kernel, rfl, by decide +kernel, by decide +kernel⟩
theorem ok_rows (F : Fn K (dfn "_law_rows_due" 44)) (T : Txt K mg) : FnR P w K mg base CX0 1 (ga K "_law_rows_due") spRows := by
  refine fnr F scRowsDue (fun _ _ _ _ _ _ us hl => match us, hl with | [_, _], _ => rfl) (fun vs H Q E h => ?_) (fun cdv A outer s H vs Q E hr h => ?_)
  · obtain ⟨b, a, t, D, rfl, _⟩ := h
    rfl
  · obtain ⟨b, a, t, D, rfl, hD, oD, ⟨ps, hb, hp⟩, o, ⟨q, ha, hq⟩, kf, kg⟩ := h
    refine ⟨_, pss_cons (ps_set (i := 2) scRowsDue.nd rfl (Or.inl rfl) (pe_callTy call_list_of rfl (T.f "list") (by decide +kernel) (pa_cons (pv 0) pa_nil)))
      (pss_cons (ps_if (pt_cmpR op_eq (pe_ix ix_tup (pv 1) pe_int (fun _ _ => rfl)) pe_str (nomark _))
        (pss_cons (ps_if (PW.pt (pw_or (pt_cmpR op_ge (pe_ix ix_tup (pv 1) pe_int (fun _ _ => rfl)) (pe_callB call_len_seq rfl (T.f "len") (by decide +kernel) (pa_cons (pv 0) pa_nil)) (nomark _))
            (pw_or1 (pt_cmpR op_ge (pe_ix ix_tup (pv 1) pe_int (fun _ _ => rfl)) (pe_callB call_len_seq rfl (T.f "len") (by decide +kernel) (pa_cons (pe_ix ix_tup (pv 0) pe_int (fun _ _ => rfl)) pa_nil)) (nomark _))))) (pss_one (ps_ret pe_str)) pss_nil)
          (pss_cons (ps_set (i := 3) scRowsDue.nd rfl (Or.inl rfl) (pe_callTy call_list_of rfl (T.f "list") (by decide +kernel) (pa_cons (pe_ix ix_list (pv 2) (pe_ix ix_tup (pv 1) pe_int (fun _ _ => rfl)) (fun _ _ => rfl)) pa_nil)))
          (pss_cons (ps_asg (pe_ix ix_tup (pv 1) pe_int (fun _ _ => rfl)) (pg_sub (pv 3) (pe_ix ix_tup (pv 1) pe_int (fun _ _ => rfl)) set_list))
          (pss_one (ps_asg (pe_callTy call_tuple_of rfl (T.f "tuple") (by decide +kernel) (pa_cons (pv 3) pa_nil)) (pg_sub (pv 2) (pe_ix ix_tup (pv 1) pe_int (fun _ _ => rfl)) set_list))))))
        (pss_one (ps_if (pt_cmpR op_eq (pe_ix ix_tup (pv 1) pe_int (fun _ _ => rfl)) pe_str (nomark _))
          (pss_cons (ps_if (PW.pt (pw_or (pt_cmpR op_gt (pe_ix ix_tup (pv 1) pe_int (fun _ _ => rfl)) (pe_callB call_len_seq rfl (T.f "len") (by decide +kernel) (pa_cons (pv 0) pa_nil)) (nomark _))
            (pw_or1 (pt_cmpR op_ne (pe_callB call_len_seq rfl (T.f "len") (by decide +kernel) (pa_cons (pe_ix ix_tup (pv 1) pe_int (fun _ _ => rfl)) pa_nil)) (pe_callB call_len_seq rfl (T.f "len") (by decide +kernel) (pa_cons (pe_ix ix_tup (pv 0) pe_int (fun _ _ => rfl)) pa_nil)) (nomark _))))) (pss_one (ps_ret pe_str)) pss_nil)
            (pss_one (ps_expr (pe_bm PySem.F.plainAttrs_list PySem.F.slot_list_insert PySem.F.type_list_insert mt_insert (pv 2) (pa_cons (pe_ix ix_tup (pv 1) pe_int (fun _ _ => rfl)) (pa_cons (pe_ix ix_tup (pv 1) pe_int (fun _ _ => rfl)) pa_nil))))))
          (pss_cons (ps_if (PW.pt (pw_or (pt_cmpR op_ge (pe_ix ix_tup (pv 1) pe_int (fun _ _ => rfl)) (pe_callB call_len_seq rfl (T.f "len") (by decide +kernel) (pa_cons (pv 0) pa_nil)) (nomark _))
            (pw_or1 (pt_cmpR op_eq (pe_callB call_len_seq rfl (T.f "len") (by decide +kernel) (pa_cons (pv 0) pa_nil)) pe_int (nomark _))))) (pss_one (ps_ret pe_str)) pss_nil)
            (pss_one (ps_expr (pe_bm PySem.F.plainAttrs_list PySem.F.slot_list_pop PySem.F.type_list_pop mt_popAt (pv 2) (pa_cons (pe_ix ix_tup (pv 1) pe_int (fun _ _ => rfl)) pa_nil))))))))
      (pss_one (ps_ret (pe_callTy call_tuple_of rfl (T.f "tuple") (by decide +kernel) (pa_cons (pv 2) pa_nil))))), ?_⟩
    have n6 := o.n6
    have lp := pd_len hp
    obtain ⟨w1, w2, w3⟩ := tab_wide o
    obtain ⟨a0, r0, h0, h1, h2⟩ := tab_head hp o
    refine ⟨_, rfl, b, _, rfl, .inr (SqT.of hb), fun L nL => ?_⟩
    have sL : Same H (upd H L (.lst (ps.map V.ref))) := same_new nL
    have ha' := sL _ _ ha
    have hb' := sL _ _ hb
    have h1' := sL _ _ h1
    have hT := SqT.of (K := K) ha'
    have hB := SqT.of (K := K) hb'
    have lb := rows_len hp
    cases D with
    | write p z => exact hD.elim
    | splice p i n z => exact hD.elim
    | cell p r c z =>
      refine ⟨_, rfl, a, _, 0, .str "cell", rfl, rfl, hT, atI_nat (j := 0) rfl, rfl, _, rfl, if_yes (by decide +kernel) ?_⟩
      refine ⟨_, rfl, a, _, 2, .int r, rfl, rfl, hT, atI_nat (j := 2) rfl, _, rfl, b, _, rfl, .inr hB, _, _, rfl, rfl, _, rfl, ?_⟩
      have far : farB t (.cell p r c z) = (decide (t.length ≤ r) || decide (wideOf t ≤ c)) := rfl
      rw [far] at kf kg
      refine ite2 (fun f => iteT ?_) (fun f => ?_)
      · have f := of_decide_eq_true f
        exact kf (by rw [decide_eq_true (show t.length ≤ r by omega)]; rfl) _ sL
      · have f : ¬ ((ps.map V.ref).length : Int) ≤ (r : Int) := fun z => f (decide_eq_true z)
        have f1 : r < t.length := by omega
        refine ⟨_, rfl, a, _, 3, .int c, rfl, rfl, hT, atI_nat (j := 3) rfl, _, rfl, b, _, _, _, rfl, rfl, hB, atI_nat (j := 0) (ref_at h0), a0, _, rfl, .inr (SqT.of h1'), _, _, rfl, rfl, _, rfl, ?_⟩
        have lr : (r0.map V.str).length = wideOf t := by rw [List.length_map, h2]
        refine ite2 (fun g => ?_) (fun g => ?_)
        · have g := of_decide_eq_true g
          exact kf (by rw [decide_eq_true (show wideOf t ≤ c by omega), Bool.or_true]) _ sL
        · have g : ¬ ((r0.map V.str).length : Int) ≤ (c : Int) := fun z => g (decide_eq_true z)
          have g1 : c < wideOf t := by omega
          obtain ⟨d, hd, rd⟩ := get_row hp f1
          have wr : (t.getD r []).length = wideOf t := (w1 _ (get_mem f1)).1
          refine ⟨_, rfl, _, rfl, a, _, 2, .int r, rfl, rfl, hT, atI_nat (j := 2) rfl, L, _, _, _, rfl, rfl, SqL.of upd_same, atI_nat (ref_at hd), d, _, rfl, .inr (SqT.of (sL _ _ rd)), fun M nM => ?_⟩
          have sM : Same H (upd (upd H L (.lst (ps.map V.ref))) M (.lst ((t.getD r []).map V.str))) := sL.trans (same_new nM)
          have hTM := SqT.of (K := K) (sM _ _ ha)
          have nLM : L ≠ M := fun e => by
            subst e
            rw [upd_same] at nM
            cases nM
          refine ⟨_, rfl, a, _, 4, .str z, rfl, rfl, hTM, atI_nat (j := 4) rfl, _, rfl, _, rfl, a, _, 3, .int c, rfl, rfl, hTM, atI_nat (j := 3) rfl, M, _, _, _, rfl, rfl, upd_same, ix_of (by rw [List.length_map]; omega), ?_⟩
          rw [upd_upd]
          have sM2 : Same H (upd (upd H L (.lst (ps.map V.ref))) M (.lst (((t.getD r []).map V.str).set c (.str z)))) := sL.trans (same_new nM)
          refine ⟨_, rfl, M, _, rfl, .inl ⟨SqL.of upd_same, fun N nN => ?_⟩⟩
          have sN : Same H (upd (upd (upd H L (.lst (ps.map V.ref))) M (.lst (((t.getD r []).map V.str).set c (.str z)))) N (.tup (((t.getD r []).map V.str).set c (.str z)))) := sM2.trans (same_new nN)
          refine ⟨_, rfl, _, rfl, a, _, 2, .int r, rfl, rfl, SqT.of (sN _ _ ha), atI_nat (j := 2) rfl, L, _, _, _, rfl, rfl, same_new nN _ _ ((upd_ne nLM).trans upd_same), ix_of (by omega), ?_⟩
          refine ⟨_, rfl, L, _, rfl, .inl ⟨SqL.of upd_same, fun T' nT => ?_⟩⟩
          have nL2 : H L = none := nL
          have sF : Same H (upd (upd (upd (upd (upd H L (.lst (ps.map V.ref))) M (.lst (((t.getD r []).map V.str).set c (.str z)))) N (.tup (((t.getD r []).map V.str).set c (.str z)))) L (.lst ((ps.map V.ref).set r (.ref N)))) T' (.tup ((ps.map V.ref).set r (.ref N)))) :=
            (same_upd sN nL2).trans (same_new nT)
          have hL3 : (upd (upd (upd H L (.lst (ps.map V.ref))) M (.lst (((t.getD r []).map V.str).set c (.str z)))) N (.tup (((t.getD r []).map V.str).set c (.str z)))) L = some (.lst (ps.map V.ref)) := same_new nN _ _ ((upd_ne nLM).trans upd_same)
          have hN3 := tups_lst (o := .lst ((ps.map V.ref).set r (.ref N))) hL3 N (((t.getD r []).map V.str).set c (.str z)) upd_same
          refine kg (by rw [decide_eq_false (show ¬ t.length ≤ r by omega), decide_eq_false (show ¬ wideOf t ≤ c by omega)]; rfl) T' _ sF ⟨ps.set r N, ?_, ?_⟩
          · rw [upd_same, List.map_set]
          · refine pd_set ?_ r (pd_mono (fun x y z => RowAt.mono (Tups.of sF) z) hp)
            have hN4 := same_new (o := .tup ((ps.map V.ref).set r (.ref N))) nT _ _ hN3
            rw [RowAt, hN4, List.map_set]
    | addrow p i r =>
      have hq' : H q = some (.tup (r.map V.str)) := hq
      refine ⟨_, rfl, a, _, 0, .str "addrow", rfl, rfl, hT, atI_nat (j := 0) rfl, rfl, _, rfl, if_not (by decide +kernel) ?_⟩
      refine ⟨_, rfl, a, _, 0, .str "addrow", rfl, rfl, hT, atI_nat (j := 0) rfl, rfl, _, rfl, if_yes (by decide +kernel) ?_⟩
      refine ⟨_, rfl, a, _, 2, .int i, rfl, rfl, hT, atI_nat (j := 2) rfl, _, rfl, b, _, rfl, .inr hB, _, _, rfl, rfl, _, rfl, ?_⟩
      have far : farB t (.addrow p i r) = (decide (t.length < i) || !decide (r.length = wideOf t)) := rfl
      rw [far] at kf kg
      refine ite2 (fun f => iteT ?_) (fun f => ?_)
      · have f := of_decide_eq_true f
        exact kf (by rw [decide_eq_true (show t.length < i by omega)]; rfl) _ sL
      · have f : ¬ ((ps.map V.ref).length : Int) < (i : Int) := fun z => f (decide_eq_true z)
        refine ⟨_, rfl, a, _, 3, .ref q, rfl, rfl, hT, atI_nat (j := 3) rfl, q, _, rfl, .inr (SqT.of (sL _ _ hq')), _, rfl, b, _, _, _, rfl, rfl, hB, atI_nat (j := 0) (ref_at h0), a0, _, rfl, .inr (SqT.of h1'), rfl, _, rfl, ?_⟩
        have e2 : decide (V.int ((r.map V.str).length : Int) = V.int ((r0.map V.str).length : Int)) = decide (r.length = wideOf t) := by
          rw [List.length_map, List.length_map, h2]
          exact decide_eq_decide.mpr ⟨fun z => by have := V.int.inj z; omega, fun z => by rw [z]⟩
        rw [e2]
        refine ite2 (fun g => ?_) (fun g => ?_)
        · exact kf (by rw [g, Bool.or_true]) _ sL
        · have g : (!decide (r.length = wideOf t)) = false := by simpa using g
          refine ⟨_, rfl, .inl ⟨rfl, _, SqL.of upd_same⟩, _, rfl, a, _, 2, .int i, rfl, rfl, hT, atI_nat (j := 2) rfl, _, rfl, a, _, 3, .ref q, rfl, rfl, hT, atI_nat (j := 3) rfl, ?_⟩
          have hi : i ≤ 1000000000 := oD.2.1
          refine ⟨L, _, i, _, rfl, rfl, upd_same, by rw [lb]; exact small1000 (by omega), by omega, by omega, ?_⟩
          rw [upd_upd]
          refine ⟨_, rfl, L, _, rfl, .inl ⟨SqL.of upd_same, fun T' nT => ?_⟩⟩
          have sF := (same_new (o := .lst ((ps.map V.ref).take (i : Int).toNat ++ [.ref q] ++ (ps.map V.ref).drop (i : Int).toNat)) nL).trans (same_new (o := .tup ((ps.map V.ref).take (i : Int).toNat ++ [.ref q] ++ (ps.map V.ref).drop (i : Int).toNat)) nT)
          have hp' := pd_mono (fun x y z => RowAt.mono (Tups.of sF) z) hp
          refine kg (by rw [decide_eq_false (show ¬ t.length < i by omega), g]; rfl) T' _ sF ⟨ps.take i ++ [q] ++ ps.drop i, ?_, ?_⟩
          · rw [upd_same, List.map_append, List.map_append, List.map_take, List.map_drop] <;> rfl
          · exact pd_app (pd_app (pd_take i hp') (.cons (RowAt.mono (Tups.of sF) hq') .nil)) (pd_drop i hp')
    | cutrow p i =>
      refine ⟨_, rfl, a, _, 0, .str "cutrow", rfl, rfl, hT, atI_nat (j := 0) rfl, rfl, _, rfl, if_not (by decide +kernel) ?_⟩
      refine ⟨_, rfl, a, _, 0, .str "cutrow", rfl, rfl, hT, atI_nat (j := 0) rfl, rfl, _, rfl, if_not (by decide +kernel) ?_⟩
      refine ⟨_, rfl, a, _, 2, .int i, rfl, rfl, hT, atI_nat (j := 2) rfl, _, rfl, b, _, rfl, .inr hB, _, _, rfl, rfl, _, rfl, ?_⟩
      have far : farB t (.cutrow p i) = (decide (t.length ≤ i) || decide (t.length = 1)) := rfl
      rw [far] at kf kg
      refine ite2 (fun f => iteT ?_) (fun f => ?_)
      · have f := of_decide_eq_true f
        exact kf (by rw [decide_eq_true (show t.length ≤ i by omega)]; rfl) _ sL
      · have f : ¬ ((ps.map V.ref).length : Int) ≤ (i : Int) := fun z => f (decide_eq_true z)
        refine ⟨_, rfl, b, _, rfl, .inr hB, rfl, _, rfl, ?_⟩
        have e2 : decide (V.int ((ps.map V.ref).length : Int) = V.int 1) = decide (t.length = 1) := by
          rw [lb]
          exact decide_eq_decide.mpr ⟨fun z => by have := V.int.inj z; omega, fun z => by rw [z]; rfl⟩
        rw [e2]
        refine ite2 (fun g => ?_) (fun g => ?_)
        · exact kf (by rw [g, Bool.or_true]) _ sL
        · have g : decide (t.length = 1) = false := by simpa using g
          have hi : i ≤ 1000000000 := oD.2
          have hlt : i < ps.length := by omega
          refine ⟨_, rfl, .inl ⟨rfl, _, SqL.of upd_same⟩, _, rfl, a, _, 2, .int i, rfl, rfl, hT, atI_nat (j := 2) rfl, ?_⟩
          refine ⟨L, _, i, i, .ref ps[i], rfl, rfl, upd_same, by omega, by omega, seq_of (by omega), ref_at (List.getElem?_eq_getElem hlt), ?_⟩
          rw [upd_upd]
          refine ⟨_, rfl, L, _, rfl, .inl ⟨SqL.of upd_same, fun T' nT => ?_⟩⟩
          have sF := (same_new (o := .lst ((ps.map V.ref).eraseIdx i)) nL).trans (same_new (o := .tup ((ps.map V.ref).eraseIdx i)) nT)
          refine kg (by rw [decide_eq_false (show ¬ t.length ≤ i by omega), g]; rfl) T' _ sF ⟨ps.eraseIdx i, ?_, pd_erase i (pd_mono (fun x y z => RowAt.mono (Tups.of sF) z) hp)⟩
          rw [upd_same, List.eraseIdx_eq_take_drop_succ, List.eraseIdx_eq_take_drop_succ, List.map_append, List.map_take, List.map_drop]
end
end MK
/-! What == may compare. -/
namespace MK
open PySem PySem.Spec PyProof.Rows L2
open He (ga ma)
def Fit (n : Nat) (d : PyData) : Prop := d.canLay0 = true ∧ d.depth ≤ n
theorem fit_all {n : Nat} : ∀ {ds : List PyData}, (∀ d ∈ ds, Fit n d) → PyData.canLayAll0 ds = true ∧ PyData.depthAll ds ≤ n
  | [], _ => ⟨by simp only [PyData.canLayAll0], by simp only [PyData.depthAll]; omega⟩
  | d :: ds, h => by
    obtain ⟨h1, h2⟩ := h d List.mem_cons_self
    obtain ⟨h3, h4⟩ := fit_all (n := n) (ds := ds) fun x hx => h x (List.mem_cons_of_mem _ hx)
    refine ⟨by simp only [PyData.canLayAll0, h1, h3, Bool.and_self], ?_⟩
    simp only [PyData.depthAll]
    omega
theorem fit_tup {n : Nat} {ds : List PyData} (h : ∀ d ∈ ds, Fit n d) : Fit (n + 1) (.tuple ds) := by
  obtain ⟨h1, h2⟩ := fit_all h
  exact ⟨by simp only [PyData.canLay0, h1], by simp only [PyData.depth]; omega⟩
theorem fit_lst {n : Nat} {ds : List PyData} (h : ∀ d ∈ ds, Fit n d) : Fit (n + 1) (.list ds) := by
  obtain ⟨h1, h2⟩ := fit_all h
  exact ⟨by simp only [PyData.canLay0, h1], by simp only [PyData.depth]; omega⟩
theorem Fit.mono {m n : Nat} {d : PyData} (h : Fit m d) (l : m ≤ n) : Fit n d := ⟨h.1, Nat.le_trans h.2 l⟩
theorem Fit.shaped {n : Nat} {d : PyData} (h : Fit n d) (hn : n ≤ 64 := by decide) : SeqAt.shaped d = true := Bool.and_eq_true_iff.mpr ⟨h.1, decide_eq_true (Nat.le_trans h.2 hn)⟩
theorem Fit.same {n : Nat} {d : PyData} (h : Fit n d) : PyData.eqv d d = true := SeqAt.eqv_refl d h.1
abbrev Lays (z : Str) : Prop := (PyData.str z).canLay0 = true
theorem fit_str {z : Str} (n : Nat) (h : Lays z) : Fit n (.str z) := ⟨h, by simp only [PyData.depth]; omega⟩
theorem fit_int (i : Int) (n : Nat) : Fit n (.int i) := ⟨by simp only [PyData.canLay0], by simp only [PyData.depth]; omega⟩
theorem lays_text {z : Str} (h : TextOk z) : Lays z := by
  show PyData.canLay0 (.str z) = true
  unfold PyData.canLay0
  show Array.all z.cps _ = true
  rw [← Array.all_toList, List.all_eq_true]
  intro c hc
  have := (h.2 c hc).2.1
  exact decide_eq_true (by omega)
theorem lays_part {z : Str} (h : z ∈ partN) : Lays z := by
  have key : partN.all (fun z => (PyData.str z).canLay0) = true := by decide +kernel
  exact List.all_eq_true.mp key z h
theorem fit_row {n : Nat} {r : Row} (h : RowOk n r) : Fit 1 (rowD r) := fit_tup (n := 0) fun d hd => by
  obtain ⟨z, hz, rfl⟩ := List.mem_map.mp hd
  exact fit_str 0 (lays_text (h.2 z hz))
theorem fit_tab {t : Tab} (h : TabOk t) : Fit 2 (tabD t) := fit_tup (n := 1) fun d hd => by
  obtain ⟨r, hr, rfl⟩ := List.mem_map.mp hd
  obtain ⟨n, _, _, o⟩ := h.wide
  exact fit_row (o r hr)
theorem fit_cont {c : Cont} (h : c.Ok) : Fit 2 c.d := by
  cases c with
  | txt z => exact fit_str 2 (lays_text h)
  | tab t => exact fit_tab h
theorem all4 {n : Nat} {a b c d : PyData} (ha : Fit n a) (hb : Fit n b) (hc : Fit n c) (hd : Fit n d) : ∀ x ∈ [a, b, c, d], Fit n x := fun x hx => by
  simp only [List.mem_cons, List.not_mem_nil, or_false] at hx
  rcases hx with rfl | rfl | rfl | rfl
  · exact ha
  · exact hb
  · exact hc
  · exact hd
theorem all3 {n : Nat} {a b c : PyData} (ha : Fit n a) (hb : Fit n b) (hc : Fit n c) : ∀ x ∈ [a, b, c], Fit n x := fun x hx => by
  simp only [List.mem_cons, List.not_mem_nil, or_false] at hx
  rcases hx with rfl | rfl | rfl
  · exact ha
  · exact hb
  · exact hc
theorem all5 {n : Nat} {a b c d e : PyData} (ha : Fit n a) (hb : Fit n b) (hc : Fit n c) (hd : Fit n d) (he : Fit n e) : ∀ x ∈ [a, b, c, d, e], Fit n x := fun x hx => by
  simp only [List.mem_cons, List.not_mem_nil, or_false] at hx
  rcases hx with rfl | rfl | rfl | rfl | rfl
  · exact ha
  · exact hb
  · exact hc
  · exact hd
  · exact he
/-- kinds and parents that == may look at -/
def Fine (l : Recs) : Prop := ∀ p ∈ l, Lays p.2.kind ∧ Lays p.2.parent
theorem fit_rec {R : Rec} (h : R.Ok) (k : Lays R.kind) (p : Lays R.parent) : Fit 3 R.d := by
  obtain ⟨ki, pa, ra, c⟩ := R
  have hc : c.Ok := by
    cases c with
    | txt z => exact h.2
    | tab t => exact h.2
  exact fit_tup (n := 2) (all4 (fit_str 2 k) (fit_str 2 p) (fit_int _ 2) (fit_cont hc))
theorem Fine.of {l : Recs} (f : Fine l) {x : Str} {R : Rec} (h : l.lookup x = some R) : Lays R.kind ∧ Lays R.parent := f _ (look_mem h)
theorem Fine.put {l : Recs} (f : Fine l) {x : Str} {R : Rec} (h : Lays R.kind ∧ Lays R.parent) : Fine (putR l x R) := fun p hp => (mem_put hp).elim (fun z => f p z) fun z => by rw [z]; exact h
theorem fit_deed {D : Deed} (h : D.Ok) : Fit 2 D.d := by
  have hp := fit_str 1 (lays_part h.1)
  cases D with
  | write p z => exact fit_tup (n := 1) (all3 (fit_str 1 (by decide +kernel)) hp (fit_str 1 (lays_text h.2)))
  | splice p i n z => exact fit_tup (n := 1) (all5 (fit_str 1 (by decide +kernel)) hp (fit_int _ 1) (fit_int _ 1) (fit_str 1 (lays_text h.2.2.2)))
  | cell p r c z => exact fit_tup (n := 1) (all5 (fit_str 1 (by decide +kernel)) hp (fit_int _ 1) (fit_int _ 1) (fit_str 1 (lays_text h.2.2.2)))
  | addrow p i r =>
    obtain ⟨n, _, _, o⟩ := h.2.2
    exact fit_tup (n := 1) (all4 (fit_str 1 (by decide +kernel)) hp (fit_int _ 1) (fit_row o))
  | cutrow p i => exact fit_tup (n := 1) (all3 (fit_str 1 (by decide +kernel)) hp (fit_int _ 1))
end MK
/-! What is due. -/
namespace MK
open PySem PySem.Spec PyProof.Rows L2
open He (ga ma)
def Deed.word : Deed → Str
  | .write _ _ => "write"
  | .splice _ _ _ _ => "splice"
  | .cell _ _ _ _ => "cell"
  | .addrow _ _ _ => "addrow"
  | .cutrow _ _ => "cutrow"
def Deed.tabB : Deed → Bool
  | .write _ _ => false
  | .splice _ _ _ _ => false
  | _ => true
def Cont.tabB : Cont → Bool
  | .txt _ => false
  | .tab _ => true
def wordOf : Due → Str
  | .good _ => "good"
  | .noPart => "no part"
  | .wrongKind => "wrong kind"
  | .far => "far"
  | .long => "long"
def NewAt (H : Hp) (v : V) : Due → Prop
  | .good c => ContAt H v c
  | _ => v = .str ""
def spDue : Sp := fun vs H Q _ => ∃ (lr a : Addr) (kvs : List (Key × V)) (l : Recs) (D : Deed), vs = [.ref lr, .ref a] ∧ D.Ok ∧ H lr = some (.dK kvs) ∧ RecsAt H kvs l ∧ RecsOk l ∧ Told H a D ∧
  ∀ (u : Due) (p : Addr) (H' : Hp) (v : V), due l D = u → Same H H' → H' p = some (.tup [.str (wordOf u), v]) → NewAt H' v u → Q (.ref p) H'
theorem val_word {D : Deed} {q : Addr} : atI (D.vals q) 0 = some (.str D.word) := by cases D <;> rfl
theorem val_part {D : Deed} {q : Addr} : atI (D.vals q) 1 = some (.str D.part) := by cases D <;> rfl
theorem in_tab {D : Deed} : inV (.str D.word) [.str "cell", .str "addrow", .str "cutrow"] = D.tabB := by
  cases D with
  | write p z => exact (by decide +kernel : inV (.str "write") [.str "cell", .str "addrow", .str "cutrow"] = false)
  | splice p i n z => exact (by decide +kernel : inV (.str "splice") [.str "cell", .str "addrow", .str "cutrow"] = false)
  | cell p r c z => exact (by decide +kernel : inV (.str "cell") [.str "cell", .str "addrow", .str "cutrow"] = true)
  | addrow p i r => exact (by decide +kernel : inV (.str "addrow") [.str "cell", .str "addrow", .str "cutrow"] = true)
  | cutrow p i => exact (by decide +kernel : inV (.str "cutrow") [.str "cell", .str "addrow", .str "cutrow"] = true)
theorem cont_ty {K : PySem.W.Frag} {H : Hp} {v : V} {c : Cont} (h : ContAt H v c) : ∃ t, TyX K H v t ∧ PySem.W.kitOne K t (.type "tuple") = some c.tabB := by
  cases c with
  | txt z =>
    have e : v = .str z := h
    subst e
    exact ⟨_, .base (.str z), kit_ty (by show kitB "str" "tuple" = some false; decide +kernel)⟩
  | tab t =>
    obtain ⟨a, e, ps, h1, h2⟩ := h
    subst e
    exact ⟨_, .base (.tup h1), kit_ty (by show kitB "tuple" "tuple" = some true; decide +kernel)⟩
theorem act_kind {c : Cont} {D : Deed} (h : c.tabB ≠ D.tabB) : act c D = .wrongKind := by
  cases c <;> cases D <;> first | rfl | exact absurd rfl h
theorem rows_fit {t : Tab} (h : ∀ r ∈ t, ∀ z ∈ r, TextOk z) : SeqAt.shaped (tabD t) = true := (fit_tup (n := 1) fun d hd => by
  obtain ⟨r, hr, rfl⟩ := List.mem_map.mp hd
  exact fit_tup (n := 0) fun e he => by
    obtain ⟨z, hz, rfl⟩ := List.mem_map.mp he
    exact fit_str 0 (lays_text (h r hr z hz))).shaped
theorem out_fit {t : Tab} {D : Deed} (oT : TabOk t) (oD : D.Ok) : SeqAt.shaped (tabD (outF t D)) = true := by
  obtain ⟨w1, _⟩ := tab_wide oT
  have base : ∀ r ∈ t, ∀ z ∈ r, TextOk z := fun r hr => (w1 r hr).2
  refine rows_fit ?_
  cases D with
  | write p z => exact base
  | splice p i n z => exact base
  | cell p r c z =>
    intro x hx y hy
    rcases mem_set_or hx with hx | hx
    · exact base x hx y hy
    · subst hx
      rcases mem_set_or hy with hy | hy
      · by_cases hr : r < t.length
        · exact base _ (get_mem hr) y hy
        · rw [List.getD_eq_getElem?_getD, List.getElem?_eq_none (by omega)] at hy
          exact absurd hy List.not_mem_nil
      · rw [hy]
        exact oD.2.2.2
  | addrow p i r =>
    obtain ⟨n, _, _, o⟩ := oD.2.2
    intro x hx y hy
    rcases List.mem_append.mp hx with hx | hx
    · rcases List.mem_append.mp hx with hx | hx
      · exact base x (List.mem_of_mem_take hx) y hy
      · rw [List.mem_singleton.mp hx] at hy
        exact o.2 y hy
    · exact base x (List.mem_of_mem_drop hx) y hy
  | cutrow p i => exact fun x hx => base x (List.mem_of_mem_eraseIdx hx)
section
variable {P : Program} {w : World} {K : PySem.W.Frag} {mg : Str → Option Value} {base : Heap}
theorem scDue : FnScope ["_law_records", "_law_told_here", "_law_old", "_law_new"] ["_law_records", "_law_told_here"] (dfn "_law_due" 45).scope := ⟨rfl, rfl, rfl, by decide +kernel, rfl, by decide +kernel, by decide +kernel⟩
theorem two_at {p1 p2 : Addr} {b : Bool} : atI [V.ref p1, V.ref p2] (if b = true then 1 else 0) = some (.ref (if b = true then p2 else p1)) := by
  cases b <;> rfl
/-- [('good', new), ('long', '')][..] -/
theorem two_end {H H3 : Hp} {Q : VK} {l : Recs} {D : Deed} {v : V} {c : Cont} {b : Bool} {p1 p2 : Addr} (k : ∀ (u : Due) (p : Addr) (H' : Hp) (v : V), due l D = u → Same H H' → H' p = some (.tup [.str (wordOf u), v]) → NewAt H' v u → Q (.ref p) H')
    (e : due l D = if b = true then .long else .good c) (s : Same H H3) (h1 : H3 p1 = some (.tup [.str "good", v])) (h2 : H3 p2 = some (.tup [.str "long", .str ""])) (hc : ContAt H3 v c) : Q (.ref (if b = true then p2 else p1)) H3 := by
  cases b with
  | true => exact k .long p2 H3 _ e s h2 rfl
  | false => exact k (.good c) p1 H3 _ e s h1 hc
theorem ok_due (F : Fn K (dfn "_law_due" 45)) (T : Txt K mg) (G : FnR P w K mg base CX0 1 (ga K "_law_rows_due") spRows) : FnR P w K mg base CX0 2 (ga K "_law_due") spDue := by
  refine fnr F scDue (fun _ _ _ _ _ _ us hl => match us, hl with | [_, _], _ => rfl) (fun vs H Q E h => ?_) (fun cdv A outer s H vs Q E hr h => ?_)
  · obtain ⟨lr, a, kvs, l, D, rfl, _⟩ := h
    rfl
  · obtain ⟨lr, a, kvs, l, D, rfl, oD, hd, hl, oL, ⟨q, ha, hq⟩, k⟩ := h
    refine ⟨_, pss_cons (ps_if (pt_cmp (pc_dnotin (hu_of hr) (pe_ix ix_tup (pv 1) pe_int (fun _ _ => rfl)) (pv 0)) rfl) (pss_one (ps_ret (pe_tup (pa_cons pe_str (pa_cons pe_str pa_nil))))) pss_nil)
      (pss_cons (ps_set (i := 2) scDue.nd rfl (Or.inl rfl) (pe_ix ix_tup (pe_dget (hu_of hr) (pv 0) (pe_ix ix_tup (pv 1) pe_int (fun _ _ => rfl)) (fun _ _ => rfl)) pe_int (fun _ _ => rfl)))
      (pss_cons (ps_if (pt_cmpR op_ne (pe_isi (n := "tuple") rfl (T.f "isinstance") rfl (T.f "tuple") (by decide +kernel) (pv 2)) (pe_cmpR op_in_seq (pe_ix ix_tup (pv 1) pe_int (fun _ _ => rfl)) (pe_tup (pa_cons pe_str (pa_cons pe_str (pa_cons pe_str pa_nil)))) rfl) (nomark _))
        (pss_one (ps_ret (pe_tup (pa_cons pe_str (pa_cons pe_str pa_nil))))) pss_nil)
      (pss_cons (ps_if (pt_val (pe_isi (n := "tuple") rfl (T.f "isinstance") rfl (T.f "tuple") (by decide +kernel) (pv 2)))
        (pss_cons (ps_set (i := 3) scDue.nd rfl (Or.inl rfl) (pe_callP G hr rfl (T.g "_law_rows_due") (T.k "_law_rows_due") (fun _ => at0) (pa_cons (pv 2) (pa_cons (pv 1) pa_nil))))
          (pss_cons (ps_if (pt_cmpR (op_eqD hr.units) (pv 3) pe_str (nomark _)) (pss_one (ps_ret (pe_tup (pa_cons pe_str (pa_cons pe_str pa_nil))))) pss_nil)
          (pss_one (ps_ret (pe_ix ix_list (pe_lst (pa_cons (pe_tup (pa_cons pe_str (pa_cons (pv 3) pa_nil))) (pa_cons (pe_tup (pa_cons pe_str (pa_cons pe_str pa_nil))) pa_nil)))
            (pe_callTy call_int1 rfl (T.f "int") (by decide +kernel) (pa_cons (pe_cmpR op_gt (pe_callB call_len_seq rfl (T.f "len") (by decide +kernel) (pa_cons (pv 3) pa_nil)) pe_int (nomark _)) pa_nil)) (fun _ _ => rfl)))))) pss_nil)
      (pss_cons (ps_if (pt_cmpR op_eq (pe_ix ix_tup (pv 1) pe_int (fun _ _ => rfl)) pe_str (nomark _)) (pss_one (ps_ret (pe_tup (pa_cons pe_str (pa_cons (pe_ix ix_tup (pv 1) pe_int (fun _ _ => rfl)) pa_nil))))) pss_nil)
      (pss_cons (ps_if (pt_cmpR op_gt (pe_op op_add (pe_ix ix_tup (pv 1) pe_int (fun _ _ => rfl)) (pe_ix ix_tup (pv 1) pe_int (fun _ _ => rfl))) (pe_callB call_len_str rfl (T.f "len") (by decide +kernel) (pa_cons (pv 2) pa_nil)) (nomark _))
        (pss_one (ps_ret (pe_tup (pa_cons pe_str (pa_cons pe_str pa_nil))))) pss_nil)
      (pss_cons (ps_set (i := 3) scDue.nd rfl (Or.inl rfl) (pe_op op_add_str (pe_op op_add_str (pe_slice sl_str (pv 2) po_none (po_some (pe_ix ix_tup (pv 1) pe_int (fun _ _ => rfl)))) (pe_ix ix_tup (pv 1) pe_int (fun _ _ => rfl)))
          (pe_slice sl_str (pv 2) (po_some (pe_op op_add (pe_ix ix_tup (pv 1) pe_int (fun _ _ => rfl)) (pe_ix ix_tup (pv 1) pe_int (fun _ _ => rfl)))) po_none)))
      (pss_one (ps_ret (pe_ix ix_list (pe_lst (pa_cons (pe_tup (pa_cons pe_str (pa_cons (pv 3) pa_nil))) (pa_cons (pe_tup (pa_cons pe_str (pa_cons pe_str pa_nil))) pa_nil)))
            (pe_callTy call_int1 rfl (T.f "int") (by decide +kernel) (pa_cons (pe_cmpR op_gt (pe_callB call_len_str rfl (T.f "len") (by decide +kernel) (pa_cons (pv 3) pa_nil)) pe_int (nomark _)) pa_nil)) (fun _ _ => rfl)))))))))), ?_⟩
    have hT := SqT.of (K := K) ha
    refine ⟨_, rfl, a, _, 1, .str D.part, rfl, rfl, hT, val_part, _, rfl, lr, _, rfl, DGet.k (k := Sum.inr D.part) hd, _, rfl, ?_⟩
    cases eR : l.lookup D.part with
    | none =>
      rw [recs_none hl eR]
      refine iteT ⟨by show 2 ≤ sizeLine; decide, fun p np => ?_⟩
      refine k .noPart p _ _ ?_ (same_new np) upd_same rfl
      unfold due
      rw [eR]
    | some R =>
      obtain ⟨b, hv, cv, hb, hc⟩ := recs_some hl eR
      have eA : due l D = act R.cont D := by
        unfold due
        rw [eR]
      have oC : R.cont.Ok := rec_cont (oL.of eR)
      rw [hv]
      refine iteF ?_
      have q0 := DGet.k (k := Sum.inr D.part) hd
      rw [hv] at q0
      refine ⟨_, rfl, _, rfl, a, _, 1, .str D.part, rfl, rfl, hT, val_part, lr, _, rfl, q0, b, _, 3, cv, rfl, rfl, SqT.of hb, atI_nat (j := 3) rfl, ?_⟩
      obtain ⟨ty, hty, hk⟩ := cont_ty (K := K) hc
      refine ⟨_, rfl, _, _, _, _, _, rfl, .ty _, hty, hk, _, rfl, a, _, 0, .str D.word, rfl, rfl, hT, val_word, by show 3 ≤ sizeLine; decide, fun p1 n1 => ?_⟩
      have s1 : Same H (upd H p1 (.tup [.str "cell", .str "addrow", .str "cutrow"])) := same_new n1
      refine ⟨p1, _, rfl, .inr (SqT.of upd_same), rfl, rfl, rfl, _, rfl, ?_⟩
      have e3 : (!decide (V.bl R.cont.tabB = V.bl (inV (.str D.word) [.str "cell", .str "addrow", .str "cutrow"]))) = !decide (R.cont.tabB = D.tabB) := by
        rw [in_tab]
        exact congrArg not (decide_eq_decide.mpr ⟨fun z => V.bl.inj z, fun z => by rw [z]⟩)
      generalize hg : R.cont = c at hc oC eA hk e3 ⊢
      show if (!decide (V.bl c.tabB = V.bl (inV (.str D.word) [.str "cell", .str "addrow", .str "cutrow"]))) = true then _ else _
      rw [e3]
      refine ite2 (fun f => ?_) (fun f => ?_)
      · refine ⟨by show 2 ≤ sizeLine; decide, fun p np => ?_⟩
        exact k .wrongKind p _ _ (eA.trans (act_kind (by simpa using f))) (s1.trans (same_new np)) upd_same rfl
      · have f : c.tabB = D.tabB := by simpa using f
        have hc1 := hc.mono (Tups.of s1)
        have ha1 := s1 _ _ ha
        have hT1 := SqT.of (K := K) ha1
        obtain ⟨ty1, hty1, hk1⟩ := cont_ty (K := K) hc1
        refine ⟨_, rfl, _, _, _, _, _, rfl, .ty _, hty1, hk1, _, rfl, ?_⟩
        cases c with
        | tab t =>
          have hD : D.isTab := by
            cases D with
            | write p z => exact absurd f (by first | exact fun z => Bool.noConfusion (show true = false from z) | exact fun z => Bool.noConfusion (show false = true from z))
            | splice p i n z => exact absurd f (by first | exact fun z => Bool.noConfusion (show true = false from z) | exact fun z => Bool.noConfusion (show false = true from z))
            | _ => exact trivial
          have oT : TabOk t := oC
          obtain ⟨d, rfl, hd1⟩ := (show ∃ d, cv = .ref d ∧ TabAt _ d t from hc1)
          have eA2 := eA.trans (act_tab hD oT)
          refine if_yes rfl ⟨_, rfl, _, rfl, d, a, t, D, rfl, hD, oD, hd1, oT, ⟨q, ha1, RowIn.mono (Tups.of s1) hq⟩, fun g H2 s2 => ?_, fun g d2 H2 s2 h2 => ?_⟩
          · refine ⟨_, rfl, _, _, .str _, .str _, (fit_str 0 (by decide +kernel)).shaped, (fit_str 0 (by decide +kernel)).shaped, _, rfl, if_yes (by decide +kernel) ⟨by show 2 ≤ sizeLine; decide, fun p np => ?_⟩⟩
            rw [if_pos g] at eA2
            exact k .far p _ _ eA2 ((s1.trans s2).trans (same_new np)) upd_same rfl
          · rw [if_neg (by rw [g]; exact Bool.false_ne_true)] at eA2
            obtain ⟨ps2, hp2, hr2⟩ := id h2
            have oN := out_fit oT oD
            refine ⟨_, rfl, _, _, h2.dp, .str _, oN, (fit_str 0 (by decide +kernel)).shaped, _, rfl, if_not rfl ?_⟩
            refine ⟨_, rfl, by show 2 ≤ sizeLine; decide, fun p1 m1 => ⟨by show 2 ≤ sizeLine; decide, fun p2 m2 => ⟨by show 2 ≤ sizeLine; decide, fun p3 m3 => ?_⟩⟩⟩
            have t1 := same_new (o := .tup [.str "good", .ref d2]) m1
            have t2 := same_new (o := .tup [.str "long", .str ""]) m2
            have t3 := same_new (o := .lst [.ref p1, .ref p2]) m3
            have t123 := (t1.trans t2).trans t3
            refine ⟨_, rfl, d2, _, rfl, .inr (SqT.of (t123 _ _ hp2)), _, _, rfl, rfl, .inr ⟨_, rfl, p3, _, _, _, rfl, rfl, SqL.of upd_same, two_at, ?_⟩⟩
            refine two_end (c := .tab (outF t D)) k ?_ ((s1.trans s2).trans t123) ((t2.trans t3) _ _ upd_same) (t3 _ _ upd_same) ⟨d2, rfl, h2.mono (Tups.of t123)⟩
            rw [eA2]
            have e7 : decide ((6 : Int) < ((ps2.map V.ref).length : Int)) = decide ((outF t D).length > 6) := by
              rw [rows_len hr2]
              exact decide_eq_decide.mpr (by omega)
            show _ = if decide ((6 : Int) < ((ps2.map V.ref).length : Int)) = true then _ else _
            rw [e7]
            by_cases g2 : (outF t D).length > 6
            · rw [if_pos g2, if_pos (decide_eq_true g2)]
            · rw [if_neg g2, if_neg (by simpa using g2)]
        | txt o =>
          have ho : TextOk o := oC
          have hlo := ho.1
          have ec : cv = .str o := hc1
          subst ec
          refine if_not rfl ?_
          cases D with
          | cell p r c z => exact absurd f (by first | exact fun z => Bool.noConfusion (show true = false from z) | exact fun z => Bool.noConfusion (show false = true from z))
          | addrow p i r => exact absurd f (by first | exact fun z => Bool.noConfusion (show true = false from z) | exact fun z => Bool.noConfusion (show false = true from z))
          | cutrow p i => exact absurd f (by first | exact fun z => Bool.noConfusion (show true = false from z) | exact fun z => Bool.noConfusion (show false = true from z))
          | write p z =>
            refine ⟨_, rfl, a, _, 0, .str "write", rfl, rfl, hT1, atI_nat (j := 0) rfl, rfl, _, rfl, if_yes (by decide +kernel) ?_⟩
            refine ⟨_, rfl, a, _, 2, .str z, rfl, rfl, hT1, atI_nat (j := 2) rfl, by show 2 ≤ sizeLine; decide, fun p2 np => ?_⟩
            exact k (.good (.txt z)) p2 _ _ eA (s1.trans (same_new np)) upd_same rfl
          | splice p i n z =>
            have oz : TextOk z := oD.2.2.2
            have hlz := oz.1
            have eS : due l (.splice p i n z) = if i + n > o.length then .far else if (newS o i n z).length > 60 then .long else .good (.txt (newS o i n z)) := eA
            refine ⟨_, rfl, a, _, 0, .str "splice", rfl, rfl, hT1, atI_nat (j := 0) rfl, rfl, _, rfl, if_not (by decide +kernel) ?_⟩
            refine ⟨_, rfl, a, _, 2, .int i, rfl, rfl, hT1, atI_nat (j := 2) rfl, _, rfl, a, _, 3, .int n, rfl, rfl, hT1, atI_nat (j := 3) rfl, _, _, rfl, rfl, _, rfl, o, rfl, size_ok (by omega), _, _, rfl, rfl, _, rfl, ?_⟩
            refine ite2 (fun g => ?_) (fun g => ?_)
            · have g := of_decide_eq_true g
              rw [if_pos (by omega)] at eS
              exact ⟨by show 2 ≤ sizeLine; decide, fun p2 np => k .far p2 _ _ eS (s1.trans (same_new np)) upd_same rfl⟩
            · have g : ¬ ((o.length : Int) < (i : Int) + (n : Int)) := fun z => g (decide_eq_true z)
              rw [if_neg (by omega)] at eS
              have l1 := cutS_len o none (some (i : Int))
              have l2 := cutS_len o (some ((i : Int) + (n : Int))) none
              refine ⟨_, rfl, _, rfl, a, _, 2, .int i, rfl, rfl, hT1, atI_nat (j := 2) rfl, _, rfl, o, rfl, size_ok (by omega), ?_⟩
              refine ⟨_, rfl, a, _, 4, .str z, rfl, rfl, hT1, atI_nat (j := 4) rfl, _, _, rfl, rfl, size_ok (by omega), ?_⟩
              refine ⟨_, rfl, _, rfl, a, _, 2, .int i, rfl, rfl, hT1, atI_nat (j := 2) rfl, _, rfl, a, _, 3, .int n, rfl, rfl, hT1, atI_nat (j := 3) rfl, _, _, rfl, rfl, _, rfl, o, rfl, size_ok (by omega), ?_⟩
              refine ⟨_, _, rfl, rfl, size_ok (by rw [str_len]; omega), ?_⟩
              refine ⟨_, rfl, by show 2 ≤ sizeLine; decide, fun p1 m1 => ⟨by show 2 ≤ sizeLine; decide, fun p2 m2 => ⟨by show 2 ≤ sizeLine; decide, fun p3 m3 => ?_⟩⟩⟩
              have t1 := same_new (o := .tup [.str "good", .str (newS o i n z)]) m1
              have t2 := same_new (o := .tup [.str "long", .str ""]) m2
              have t3 := same_new (o := .lst [.ref p1, .ref p2]) m3
              have t123 := (t1.trans t2).trans t3
              refine ⟨_, rfl, newS o i n z, rfl, size_ok (by unfold newS; rw [str_len, str_len]; omega), _, _, rfl, rfl, .inr ⟨_, rfl, p3, _, _, _, rfl, rfl, SqL.of upd_same, two_at, ?_⟩⟩
              refine two_end (c := .txt (newS o i n z)) k ?_ (s1.trans t123) ((t2.trans t3) _ _ upd_same) (t3 _ _ upd_same) rfl
              rw [eS]
              by_cases g2 : (newS o i n z).length > 60
              · rw [if_pos g2, if_pos (decide_eq_true (by omega))]
              · rw [if_neg g2, if_neg (fun z => g2 (by have := of_decide_eq_true z; omega))]
end
end MK
/-! What an edit's asking and its doing tell. -/
namespace MK
open PySem PySem.Spec PyProof.Rows L2
open He (ga ma)
/-- the same as tDyn, by the parts of the context that it needs -/
def tDynK (P : Program) (w : World) (K : PySem.W.Frag) (mg : Str → Option Value) (base : Heap) (CX : CXT) (k : Nat) (m : Str) (E : L2.St → XK) (ta : TE) (t : TA) : TE := fun σ H Q => ta σ H fun x H1 =>
  ∃ (a C dx f : Addr) (fs : List (Str × V)) (sp : Sp), x = .ref a ∧ H1 a = some (.ins C dx fs) ∧ Cls K C ∧ Meth K C m f ∧ fs.lookup m = none ∧
    FnR P w K mg base CX k f sp ∧ t σ H1 fun vs H2 => sp (x :: vs) H2 Q (E σ)
def ansV (p ch : V) : Due → List V
  | .good _ => [.str "good", .non, .non]
  | u => [.str (wordOf u), p, ch]
def spToldR (K : PySem.W.Frag) (asked : Bool) : Sp := fun vs H Q _ => ∃ (e p r : Addr) (ch : V) (D : Deed) (kvs : List (Key × V)) (l : Recs), vs = [.ref e, .ref p, ch, .bl asked] ∧ D.Ok ∧ EditAt K H e D ∧ PlainAt K H p r ∧ H r = some (.dK kvs) ∧
  RecsAt H kvs l ∧ RecsOk l ∧
  ∀ (u : Due) (a : Addr) (H' : Hp), due l D = u → H' a = some (.tup (ansV (.str D.part) ch u)) → (asked = true ∨ (∀ c, u ≠ .good c) → Same H H') →
    (asked = false → ∀ c, u = .good c → ∀ R, l.lookup D.part = some R → ∃ kvs', But r H H' ∧ H' r = some (.dK kvs') ∧ RecsAt H' kvs' (putR l D.part { R with cont := c })) → Q (.ref a) H'
/-- the names of the four errors as they are asked for -/
def tIs (K : PySem.W.Frag) (a : Addr) (cls : Value) (d : Option Addr) (n : Str) : TE := tCB (rErrIs K a cls d) (tCons (tVar 7) (tCons (tC (.ref (ga K n))) tNil))
def tSuite (K : PySem.W.Frag) (a : Addr) (cls : Value) (d : Option Addr) : TS :=
  tSeq (tAsg (tErr K a cls d "part" (tVar 7)) (gName 5)) (tSeq (tAsg (tErr K a cls d "choice" (tVar 7)) (gName 6)) (tSeq (tAsg (tC (.str "other")) (gName 4))
    (tSeq (tAsg (tLst (tCons (tIs K a cls d "NoPart") (tCons (tIs K a cls d "WrongKind") (tCons (tIs K a cls d "Far") (tCons (tIs K a cls d "TooLong") tNil))))) (gName 8))
      (tIfS (tTest (tOp rEq (tBM K "list" (rCntF K) (tVar 8) (tCons (tC (.bl true)) tNil)) (tC (.int 1))))
        (tAsg (tOp (rIxL K) (tLst (tCons (tC (.str "no part")) (tCons (tC (.str "wrong kind")) (tCons (tC (.str "far")) (tCons (tC (.str "long")) tNil))))) (tBM K "list" (rIndex K) (tVar 8) (tCons (tC (.bl true)) tNil))) (gName 4)) tNext))))
section
variable {P : Program} {w : World} {K : PySem.W.Frag} {mg : Str → Option Value} {base : Heap}
theorem scTold : FnScope ["_law_edit", "_law_plain", "_law_choice", "_law_asked", "_law_told_here", "_law_part", "_law_number", "e", "_law_kinds"] ["_law_edit", "_law_plain", "_law_choice", "_law_asked"] (dfn "_law_told" 46).scope := ⟨rfl, rfl, rfl, by decide +kernel, rfl, by decide +kernel, by decide +kernel⟩
/-- the suite, for an error of one of the four classes -/
theorem suite_ok (T : Txt K mg) {u : Due} (hu : ∀ c, u ≠ .good c) {a x : Addr} {D : Ends} {H : Hp} {v0 v1 v2 v3 p ch : V} {o8 : Option V} (hx : H x = some (.xd (xf p ch)))
    (fin : ∀ (H' : Hp) (L : Option V), Same H H' → D.nx [some v0, some v1, some v2, some v3, some (.str (wordOf u)), some p, some ch, some (.ref a), L] H') :
    tSuite K a (.ref (ga K u.err)) (some x) D [some v0, some v1, some v2, some v3, some (.str "good"), some .non, some .non, some (.ref a), o8] H := by
  have q1 : (xf p ch).lookup ("part" : Str) = some p := (lk_past (by decide +kernel)).trans lk_here
  have q2 : (xf p ch).lookup ("choice" : Str) = some ch := lk_here
  have main : ∀ (c : Str) (j : Nat), errN.contains c = true → u.err = c → (([.bl (c == "NoPart"), .bl (c == "WrongKind"), .bl (c == "Far"), .bl (c == "TooLong")] : List V).countP fun z => eqV z (.bl true)) = 1 →
      ([.bl (c == "NoPart"), .bl (c == "WrongKind"), .bl (c == "Far"), .bl (c == "TooLong")] : List V)[j]? = some (.bl true) →
      (∀ (m : Nat) (z' : V), m < j → ([.bl (c == "NoPart"), .bl (c == "WrongKind"), .bl (c == "Far"), .bl (c == "TooLong")] : List V)[m]? = some z' → eqV z' (.bl true) = false) →
      ([.str "no part", .str "wrong kind", .str "far", .str "long"] : List V)[j]? = some (.str (wordOf u)) →
      tSuite K a (.ref (ga K u.err)) (some x) D [some v0, some v1, some v2, some v3, some (.str "good"), some .non, some .non, some (.ref a), o8] H := by
    intro c j hc ec hcnt hj hb hw
    rw [ec]
    have C := T.err c hc
    have i1 := T.isX c "NoPart" hc (by decide +kernel)
    have i2 := T.isX c "WrongKind" hc (by decide +kernel)
    have i3 := T.isX c "Far" hc (by decide +kernel)
    have i4 := T.isX c "TooLong" hc (by decide +kernel)
    refine ⟨_, rfl, ga K c, x, _, p, rfl, rfl, C.xf, C.nP, rfl, hx, q1, ?_⟩
    refine ⟨_, rfl, ga K c, x, _, ch, rfl, rfl, C.xf, C.nC, rfl, hx, q2, ?_⟩
    refine ⟨_, rfl, ga K c, x, ga K "NoPart", _, _, rfl, rfl, C.ec, rfl, hx, i1, ?_⟩
    refine ⟨_, rfl, ga K c, x, ga K "WrongKind", _, _, rfl, rfl, C.ec, rfl, hx, i2, ?_⟩
    refine ⟨_, rfl, ga K c, x, ga K "Far", _, _, rfl, rfl, C.ec, rfl, hx, i3, ?_⟩
    refine ⟨_, rfl, ga K c, x, ga K "TooLong", _, _, rfl, rfl, C.ec, rfl, hx, i4, by show 4 ≤ sizeLine; decide, fun L nL => ?_⟩
    refine ⟨_, rfl, .inl ⟨rfl, _, SqL.of upd_same⟩, L, _, .bl true, rfl, rfl, SqL.of upd_same, rfl, rfl, rfl, _, rfl, if_yes (by rw [hcnt]; decide +kernel) ?_⟩
    refine ⟨by show 4 ≤ sizeLine; decide, fun M nM => ?_⟩
    have hL := same_new (o := .lst [.str "no part", .str "wrong kind", .str "far", .str "long"]) nM _ _ (upd_same (H := H) (a := L) (o := .lst [.bl (c == "NoPart"), .bl (c == "WrongKind"), .bl (c == "Far"), .bl (c == "TooLong")]))
    refine ⟨_, rfl, .inl ⟨rfl, _, SqL.of hL⟩, L, _, .bl true, j, .bl true, rfl, rfl, SqL.of hL, rfl, rfl, hj, rfl, hb, ?_⟩
    exact ⟨M, _, _, _, rfl, rfl, SqL.of upd_same, atI_nat hw, fin _ _ ((same_new nL).trans (same_new nM))⟩
  have lt1 : ∀ {p : Nat → V → Prop}, p 0 (.bl false) → ∀ (m : Nat) (z' : V), m < 1 → (m = 0 → z' = .bl false) → p m z' := fun h m z' hm e => by
    have e0 : m = 0 := by omega
    subst e0
    rw [e rfl]
    exact h
  cases u with
  | good c => exact absurd rfl (hu c)
  | noPart => exact main "NoPart" 0 (by decide +kernel) rfl (by decide +kernel) (by decide +kernel) (fun m z' h _ => absurd h (Nat.not_lt_zero m)) rfl
  | wrongKind =>
    refine main "WrongKind" 1 (by decide +kernel) rfl (by decide +kernel) (by decide +kernel) (fun m z' h e => ?_) rfl
    match m, h with
    | 0, _ => cases e; decide +kernel
  | far =>
    refine main "Far" 2 (by decide +kernel) rfl (by decide +kernel) (by decide +kernel) (fun m z' h e => ?_) rfl
    match m, h with
    | 0, _ => cases e; decide +kernel
    | 1, _ => cases e; decide +kernel
  | long =>
    refine main "TooLong" 3 (by decide +kernel) rfl (by decide +kernel) (by decide +kernel) (fun m z' h e => ?_) rfl
    match m, h with
    | 0, _ => cases e; decide +kernel
    | 1, _ => cases e; decide +kernel
    | 2, _ => cases e; decide +kernel
theorem fail_of {H : Hp} {Q : VK} {E : XK} {p : Str} {ch : V} {u : Due} (hu : ∀ c, u ≠ .good c) (h : Fails K H E p ch u.err) : Asks K H Q E p ch u := by
  cases u with
  | good c => exact absurd rfl (hu c)
  | _ => exact h
theorem does_of {H : Hp} {Q : VK} {E : XK} {r : Addr} {l : Recs} {p : Str} {ch : V} {u : Due} (hu : ∀ c, u ≠ .good c) (h : Fails K H E p ch u.err) : Does K H Q E r l p ch u := by
  cases u with
  | good c => exact absurd rfl (hu c)
  | _ => exact h
theorem ans_bad {p ch : V} {u : Due} (hu : ∀ c, u ≠ .good c) : ansV p ch u = [.str (wordOf u), p, ch] := by
  cases u with
  | good c => exact absurd rfl (hu c)
  | _ => rfl
theorem err_mem {u : Due} (hu : ∀ c, u ≠ .good c) : errN.contains u.err = true := by
  cases u with
  | good c => exact absurd rfl (hu c)
  | noPart => exact (by decide +kernel : errN.contains "NoPart" = true)
  | wrongKind => exact (by decide +kernel : errN.contains "WrongKind" = true)
  | far => exact (by decide +kernel : errN.contains "Far" = true)
  | long => exact (by decide +kernel : errN.contains "TooLong" = true)
theorem due_or (u : Due) : (∃ c, u = .good c) ∨ ∀ c, u ≠ .good c := by
  cases u with
  | good c => exact .inl ⟨c, rfl⟩
  | _ => exact .inr fun c z => Due.noConfusion z
theorem ok_told (F : Fn K (dfn "_law_told" 46)) (T : Txt K mg) (GN : FnR P w K mg base (L2.CX P w) 4 (ma K (ga K "Edit") "need") (spNeed K)) (GO : FnR P w K mg base (L2.CX P w) 5 (ma K (ga K "Edit") "on") (spOn K)) (asked : Bool) :
    FnR P w K mg base CX0 6 (ga K "_law_told") (spToldR K asked) := by
  refine fnr F scTold (fun _ _ _ _ _ _ us hl => match us, hl with | [_, _, _, _], _ => rfl) (fun vs H Q E h => ?_) (fun cdv A outer s H vs Q E hr h => ?_)
  · obtain ⟨e, p, r, ch, D, kvs, l, rfl, _⟩ := h
    rfl
  · obtain ⟨e, p, r, ch, D, kvs, l, rfl, oD, hE, hp, hd, hl, oL, k⟩ := h
    have gE : Names (cxOf CX0 P w K mg base ["_law_edit", "_law_plain", "_law_choice", "_law_asked", "_law_told_here", "_law_part", "_law_number", "e", "_law_kinds"] (dfn "_law_told" 46).qual (dfn "_law_told" 46).scope (He.fAd K (dfn "_law_told" 46).at_) cdv A outer s H E).nox "EditError" (.ref (ga K "EditError")) := ⟨rfl, by decide, Or.inl (T.g "EditError")⟩
    refine ⟨_, pss_cons (ps_set (i := 4) scTold.nd rfl (Or.inl rfl) pe_str) (pss_cons (ps_set (i := 5) scTold.nd rfl (Or.inl rfl) pe_non) (pss_cons (ps_set (i := 6) scTold.nd rfl (Or.inl rfl) pe_non)
      (pss_cons (ps_try_as (i := 7) (tb := fun W => tIfS (tB (tVar 3)) (tDrop (tDynK P w K mg base (L2.CX P w) 4 "need" (WE W) (tVar 0) (tCons (tVar 1) (tCons (tVar 2) tNil)))) (tDrop (tDynK P w K mg base (L2.CX P w) 5 "on" (WE W) (tVar 0) (tCons (tVar 1) (tCons (tVar 2) tNil)))))
          (ts := tSuite K) (Wout := fun _ _ _ _ => False) rfl rfl scTold.nd rfl rfl gE takes0
          (fun W pn xe tk _ => pss_one (ps_if (pt_val (pv 3)) (pss_one (ps_expr (by exact pe_dyn (CX := L2.CX P w) (k := 4) (m := "need") (E := WE W) (pv 0) (hr.mono (by decide)) (fun σ => passAt tk σ) (pa_cons (pv 1) (pa_cons (pv 2) pa_nil)))))
            (pss_one (ps_expr (by exact pe_dyn (CX := L2.CX P w) (k := 5) (m := "on") (E := WE W) (pv 0) hr (fun σ => passAt tk σ) (pa_cons (pv 1) (pa_cons (pv 2) pa_nil)))))))
          (fun a oe cls d pn hz hf => by
            exact pss_cons (ps_set (i := 5) scTold.nd rfl (Or.inl rfl) (pe_err hz hf (pv 7))) (pss_cons (ps_set (i := 6) scTold.nd rfl (Or.inl rfl) (pe_err hz hf (pv 7))) (pss_cons (ps_set (i := 4) scTold.nd rfl (Or.inl rfl) pe_str)
              (pss_cons (ps_set (i := 8) scTold.nd rfl (Or.inl rfl) (pe_lst (pa_cons (pe_callB (call_errIs hz hf) rfl (T.f "isinstance") (by decide +kernel) (pa_cons (pv 7) (pa_cons (pe_glob (v := .ref (ga K "NoPart")) rfl (T.g "NoPart") rfl) pa_nil)))
                (pa_cons (pe_callB (call_errIs hz hf) rfl (T.f "isinstance") (by decide +kernel) (pa_cons (pv 7) (pa_cons (pe_glob (v := .ref (ga K "WrongKind")) rfl (T.g "WrongKind") rfl) pa_nil)))
                (pa_cons (pe_callB (call_errIs hz hf) rfl (T.f "isinstance") (by decide +kernel) (pa_cons (pv 7) (pa_cons (pe_glob (v := .ref (ga K "Far")) rfl (T.g "Far") rfl) pa_nil)))
                (pa_cons (pe_callB (call_errIs hz hf) rfl (T.f "isinstance") (by decide +kernel) (pa_cons (pv 7) (pa_cons (pe_glob (v := .ref (ga K "TooLong")) rfl (T.g "TooLong") rfl) pa_nil))) pa_nil))))))
              (pss_one (ps_if (pt_cmpR op_eq (pe_bm PySem.F.plainAttrs_list PySem.F.slot_list_count PySem.F.type_list_count mt_countF (pv 8) (pa_cons pe_bl pa_nil)) pe_int (nomark _))
                (pss_one (ps_set (i := 4) scTold.nd rfl (Or.inl rfl) (pe_ix ix_list (pe_lst (pa_cons pe_str (pa_cons pe_str (pa_cons pe_str (pa_cons pe_str pa_nil))))) (pe_bm PySem.F.plainAttrs_list PySem.F.slot_list_index PySem.F.type_list_index mt_index (pv 8) (pa_cons pe_bl pa_nil)) (fun _ _ => rfl)))) pss_nil)))))))
      (pss_one (ps_ret (pe_tup (pa_cons (pv 4) (pa_cons (pv 5) (pa_cons (pv 6) pa_nil))))))))), ?_⟩
    obtain ⟨dx, q, he, hq⟩ := id hE
    have C := T.ins D.cls cls_ins
    obtain ⟨m1, m2, m3, m4, m5, m6, m7, m8⟩ := edit_met (D := D)
    have mN : Meth K (ga K D.cls) "need" (ma K (ga K "Edit") "need") := T.met (D.cls, ("need", "Edit")) m3
    have mO : Meth K (ga K D.cls) "on" (ma K (ga K "Edit") "on") := T.met (D.cls, ("on", "Edit")) m4
    generalize hu : due l D = u at k
    have bad : ∀ (H0 H1 : Hp) (x : Addr) (o8 : Option V) (Dn : Ends), Same H H0 → Same H0 H1 → (∀ c, u ≠ .good c) → H1 x = some (.xd (xf (.str D.part) ch)) → ∀ a, H1 a = none →
        (∀ (H' : Hp) (L : Option V), Same H1 H' → Dn.nx [some (.ref e), some (.ref p), some ch, some (.bl asked), some (.str (wordOf u)), some (.str D.part), some ch, some (.ref a), L] H') →
        tSuite K a (.ref (ga K u.err)) (some x) Dn [some (.ref e), some (.ref p), some ch, some (.bl asked), some (.str "good"), some .non, some .non, some (.ref a), o8] H1 := fun H0 H1 x o8 Dn s0 s1 hb hx a na fin => suite_ok T hb hx fin
    refine ⟨_, rfl, asked, rfl, ?_⟩
    cases asked with
    | true =>
      refine iteT ⟨_, rfl, e, ga K D.cls, dx, _, _, _, rfl, he, C.cl, mN, flds_no (by decide +kernel), GN, _, rfl, _, rfl, e, p, r, D, kvs, l, ch, rfl, oD, hE, hp, hd, hl, oL, ?_⟩
      rw [hu]
      rcases due_or u with ⟨c, rfl⟩ | hb
      · exact fun H' s => ⟨_, rfl, _, rfl, _, rfl, by show 3 ≤ sizeLine; decide, fun a na => k (.good c) a _ rfl upd_same (fun _ => s.trans (same_new na)) (fun z => nomatch z)⟩
      · refine fail_of hb (fun x H1 s1 hx => ⟨true, (T.err _ (err_mem hb)).em, fun _ a na => bad H H1 x _ _ (Same.refl H) s1 hb hx a na fun H2 L s2 => ?_, fun z => nomatch z⟩)
        exact ⟨_, rfl, _, rfl, _, rfl, by show 3 ≤ sizeLine; decide, fun b nb => k u b _ rfl (by rw [ans_bad hb]; exact upd_same) (fun _ => (s1.trans s2).trans (same_new nb)) (fun z => nomatch z)⟩
    | false =>
      refine iteF ⟨_, rfl, e, ga K D.cls, dx, _, _, _, rfl, he, C.cl, mO, flds_no (by decide +kernel), GO, _, rfl, _, rfl, e, p, r, D, kvs, l, ch, rfl, oD, hE, hp, hd, hl, oL, ?_⟩
      rw [hu]
      rcases due_or u with ⟨c, rfl⟩ | hb
      · refine fun R hR H' kvs' b h1 h2 => ⟨_, rfl, _, rfl, _, rfl, by show 3 ≤ sizeLine; decide, fun a na => k (.good c) a _ rfl upd_same (fun z => z.elim (fun z => nomatch z) fun z => absurd rfl (z c)) (fun _ c' ec R' hR' => ?_)⟩
        cases ec
        rw [hR] at hR'
        cases hR'
        exact ⟨kvs', b.trans (But.of (same_new na)), same_new na _ _ h1, h2.mono (Tups.of (same_new na))⟩
      · refine does_of hb (fun x H1 s1 hx => ⟨true, (T.err _ (err_mem hb)).em, fun _ a na => bad H H1 x _ _ (Same.refl H) s1 hb hx a na fun H2 L s2 => ?_, fun z => nomatch z⟩)
        exact ⟨_, rfl, _, rfl, _, rfl, by show 3 ≤ sizeLine; decide, fun b nb => k u b _ rfl (by rw [ans_bad hb]; exact upd_same) (fun _ => (s1.trans s2).trans (same_new nb)) (fun _ c' ec => absurd ec (hb c'))⟩
end
end MK
/-! The book and the records say the same. -/
namespace MK
open PySem PySem.Spec PyProof.Rows L2
open He (ga ma)
def spSo (K : PySem.W.Frag) : Sp := fun vs H Q _ => ∃ (p r lr : Addr) (kvs kvs2 : List (Key × V)) (l : Recs), vs = [.ref p, .ref lr] ∧ PlainAt K H p r ∧ H r = some (.dK kvs) ∧ RecsAt H kvs l ∧ H lr = some (.dK kvs2) ∧ RecsAt H kvs2 l ∧ RecsOk l ∧ Fine l ∧
  ∀ H', Same H H' → Q (.bl true) H'
theorem name_has {l : Recs} {x : Str} (o : RecsOk l) (h : x ∈ namesN) : ∃ R, l.lookup x = some R := by
  rw [← o.names] at h
  clear o
  induction l with
  | nil => exact absurd h List.not_mem_nil
  | cons q l ih =>
    obtain ⟨q1, q2⟩ := q
    by_cases hx : q1 = x
    · subst hx
      exact ⟨q2, by simp [List.lookup]⟩
    · have hb : (x == q1) = false := by simpa using fun z => hx z.symm
      rw [List.map_cons] at h
      rcases List.mem_cons.mp h with h | h
      · exact absurd h.symm hx
      · obtain ⟨R, hR⟩ := ih h
        exact ⟨R, by simp [List.lookup, hb, hR]⟩
/-- the records by the names, one after the other -/
theorem three {H : Hp} {kvs : List (Key × V)} {l : Recs} (h : RecsAt H kvs l) (o : RecsOk l) : ∀ {ns : List Str}, (∀ x ∈ ns, x ∈ namesN) →
    ∃ as : List Addr, Paired (fun a x => valV kvs (.inr x) = some (.ref a) ∧ ∃ R, l.lookup x = some R ∧ RecAt H a R) as ns
  | [], _ => ⟨[], .nil⟩
  | x :: ns, hm => by
    obtain ⟨as, ha⟩ := three h o (ns := ns) fun y hy => hm y (List.mem_cons_of_mem _ hy)
    obtain ⟨R, hR⟩ := name_has o (hm x List.mem_cons_self)
    obtain ⟨a, hv, ra⟩ := recs_some h hR
    exact ⟨a :: as, .cons ⟨hv, R, hR, ra⟩ ha⟩
/-- what they are, as data -/
def dataOf (l : Recs) (ns : List Str) : List PyData := ns.map fun x => match l.lookup x with
  | some R => R.d
  | none => .none
theorem three_dp {K : PySem.W.Frag} {H H' : Hp} {kvs : List (Key × V)} {l : Recs} (m : Tups H H') : ∀ {as : List Addr} {ns : List Str}, Paired (fun a x => valV kvs (.inr x) = some (.ref a) ∧ ∃ R, l.lookup x = some R ∧ RecAt H a R) as ns → DpAll K H' (as.map V.ref) (dataOf l ns)
  | _, _, .nil => .nil
  | _, _, .cons (b := x) r t => by
    obtain ⟨hv, R, hR, ra⟩ := r
    have e : (match l.lookup x with
      | some R => R.d
      | none => PyData.none) = R.d := by rw [hR]
    refine .cons ?_ (three_dp m t)
    show Dp K H' _ (match l.lookup x with
      | some R => R.d
      | none => PyData.none)
    rw [e]
    exact (ra.mono m).dp
theorem fit_recs {l : Recs} (o : RecsOk l) (f : Fine l) {ns : List Str} : Fit 4 (.list (dataOf l ns)) := fit_lst (n := 3) fun d hd => by
  obtain ⟨x, hx, rfl⟩ := List.mem_map.mp hd
  cases e : l.lookup x with
  | none => exact ⟨by simp only [PyData.canLay0], by simp only [PyData.depth]; omega⟩
  | some R => exact fit_rec (o.of e) (f.of e).1 (f.of e).2
theorem take_next {as : List Addr} {i : Nat} {a : Addr} (h : as[i]? = some a) : (as.map V.ref).take i ++ [.ref a] = (as.map V.ref).take (i + 1) := by
  rw [List.take_succ, List.getElem?_map, h] <;> rfl
theorem name_at {i : Nat} {x : V} (h : (namesN.map V.str)[i]? = some x) : ∃ nm, namesN[i]? = some nm ∧ x = .str nm := by
  rw [List.getElem?_map] at h
  cases e : namesN[i]? with
  | none =>
    rw [e] at h
    cases h
  | some nm =>
    rw [e] at h
    cases h
    exact ⟨nm, rfl, rfl⟩
section
variable {P : Program} {w : World} {K : PySem.W.Frag} {mg : Str → Option Value} {base : Heap}
theorem scSo : FnScope ["_law_plain", "_law_records", "_law_name"] ["_law_plain", "_law_records"] (dfn "_law_so" 47).scope := ⟨rfl, rfl, rfl, by decide +kernel, rfl, by decide +kernel, by decide +kernel⟩
theorem ok_so (F : Fn K (dfn "_law_so" 47)) (T : Txt K mg) (GN : FnR P w K mg base CX0 1 (ma K (ga K "Plain") "names") (spNames K)) (GS : FnR P w K mg base CX0 1 (ma K (ga K "Plain") "state") (spState K)) : FnR P w K mg base CX0 2 (ga K "_law_so") (spSo K) := by
  refine fnr F scSo (fun _ _ _ _ _ _ us hl => match us, hl with | [_, _], _ => rfl) (fun vs H Q E h => ?_) (fun cdv A outer s H vs Q E hr h => ?_)
  · obtain ⟨p, r, lr, kvs, kvs2, l, rfl, _⟩ := h
    rfl
  · obtain ⟨p, r, lr, kvs, kvs2, l, rfl, hp, hd, hl, hd2, hl2, oL, fL, k⟩ := h
    have CP := T.i "Plain"
    obtain ⟨dp, hp'⟩ := id hp
    refine ⟨_, pss_cons (ps_if (pt_cmpR (op_neD hr.units) (pe_methR0 (pv 0) CP.cl (T.m "Plain" "names" "Plain") GN hr pass0) (pe_lst (pa_cons pe_str (pa_cons pe_str (pa_cons pe_str pa_nil)))) (nomark _)) (pss_one (ps_ret pe_bl)) pss_nil)
      (pss_one (ps_ret (pe_cmpR (op_eqD hr.units)
        (pe_lc (own := [("_law_name", 2)]) (g := gName 2) (tt := tYes) (te := tMethR (ga K "Plain") "state" (spState K) (fun _ _ _ => False) (tVar 0) (tCons (tVar 2) tNil)) rfl scSo.nd (pi_list (pe_lst (pa_cons pe_str (pa_cons pe_str (pa_cons pe_str pa_nil)))))
          (blkOk_by (own := [("_law_name", 2)]) (N := ["_law_plain", "_law_records", "_law_name"]) (sc := (dfn "_law_so" 47).scope) (by decide +kernel)) (fun _ _ _ _ _ => pg_name (i := 2) scSo.nd rfl (Or.inl rfl)) (fun _ _ _ _ _ => pts_nil)
          (fun _ _ _ _ _ => pe_methR (pv 0) CP.cl (T.m "Plain" "state" "Plain") GS hr pass0 (pa_cons (pv 2) pa_nil)))
        (pe_lc (own := [("_law_name", 2)]) (g := gName 2) (tt := tYes) rfl scSo.nd (pi_list (pe_lst (pa_cons pe_str (pa_cons pe_str (pa_cons pe_str pa_nil)))))
          (blkOk_by (own := [("_law_name", 2)]) (N := ["_law_plain", "_law_records", "_law_name"]) (sc := (dfn "_law_so" 47).scope) (by decide +kernel)) (fun _ _ _ _ _ => pg_name (i := 2) scSo.nd rfl (Or.inl rfl)) (fun _ _ _ _ _ => pts_nil)
          (fun _ _ _ _ _ => pe_dget (hu_of hr) (pv 1) (pv 2) (fun _ _ => rfl))) (nomark _)))), ?_⟩
    refine ⟨_, rfl, p, dp, _, rfl, hp', lk_past (by decide +kernel), p, r, kvs, rfl, hp, hd, (recs_keys hl).trans (by rw [oL.names]), fun q1 H1 s1 h1 => ?_⟩
    refine ⟨by show 3 ≤ sizeLine; decide, fun q2 n2 => ?_⟩
    have fN : Fit 1 (.list (namesN.map PyData.str)) := fit_lst (n := 0) fun d hd => by
      obtain ⟨z, hz, rfl⟩ := List.mem_map.mp hd
      have key : namesN.all (fun z => (PyData.str z).canLay0) = true := by decide +kernel
      exact fit_str 0 (List.all_eq_true.mp key z hz)
    have h12 : (upd H1 q2 (.lst (namesN.map V.str))) q1 = some (.lst (namesN.map V.str)) := same_new n2 _ _ h1
    have s2 : Same H (upd H1 q2 (.lst (namesN.map V.str))) := s1.trans (same_new n2)
    refine ⟨_, _, .lst (SqL.of h12) (dp_strs namesN), .lst (SqL.of upd_same) (dp_strs namesN), fN.shaped, fN.shaped, _, rfl, if_not (by rw [fN.same]; rfl) ?_⟩
    obtain ⟨as1, ha1⟩ := three hl oL (ns := namesN) fun x hx => hx
    obtain ⟨as2, ha2⟩ := three hl2 oL (ns := namesN) fun x hx => hx
    have l1 : as1.length = 3 := pd_len ha1
    have l2 : as2.length = 3 := pd_len ha2
    refine ⟨by show 3 ≤ sizeLine; decide, fun p3 n3 => ?_⟩
    have s3 := s2.trans (same_new (o := .lst (namesN.map V.str)) n3)
    refine ⟨p3, rfl, ⟨_, SqL.of upd_same⟩, fun D1 nD1 => lc_list (K := K) (a := p3) (xs := namesN.map V.str) (fun i Hi => Same (upd (upd H1 q2 (.lst (namesN.map V.str))) p3 (.lst (namesN.map V.str))) Hi ∧ Hi D1 = some (.lst ((as1.map V.ref).take i)))
      ⟨same_new nD1, upd_same⟩ (fun i Hi _ e => SqL.of (e.1 _ _ upd_same)) ?_ ?_⟩
    · rintro i x Hi hx ⟨si, hDi⟩
      obtain ⟨nm, hnm, rfl⟩ := name_at hx
      obtain ⟨a, ga1, hv, _⟩ := pd_get ha1 hnm
      have sH := s3.trans si
      refine ⟨rfl, ?_⟩
      dsimp only [tYes]
      refine iteT ?_
      refine ⟨_, rfl, p, dp, _, rfl, sH _ _ hp', lk_past (by decide +kernel), _, rfl, p, r, nm, kvs, _, rfl, ⟨dp, sH _ _ hp'⟩, sH _ _ hd, hv, ?_⟩
      exact ⟨_, hDi, by rw [List.length_take, List.length_map]; exact small1000 (by omega), same_upd si nD1, by rw [upd_same, take_next ga1]⟩
    · rintro Hc ⟨sc, hD⟩
      have s4 := s3.trans sc
      rw [List.take_of_length_le (by rw [List.length_map, l1]; decide)] at hD
      refine ⟨by show 3 ≤ sizeLine; decide, fun p5 n5 => ?_⟩
      have s5 := s4.trans (same_new (o := .lst (namesN.map V.str)) n5)
      refine ⟨p5, rfl, ⟨_, SqL.of upd_same⟩, fun D2 nD2 => lc_list (K := K) (a := p5) (xs := namesN.map V.str) (fun i Hi => Same (upd Hc p5 (.lst (namesN.map V.str))) Hi ∧ Hi D2 = some (.lst ((as2.map V.ref).take i)))
        ⟨same_new nD2, upd_same⟩ (fun i Hi _ e => SqL.of (e.1 _ _ upd_same)) ?_ ?_⟩
      · rintro i x Hi hx ⟨si, hDi⟩
        obtain ⟨nm, hnm, rfl⟩ := name_at hx
        obtain ⟨a, ga2, hv, _⟩ := pd_get ha2 hnm
        have sH := s5.trans si
        refine ⟨rfl, ?_⟩
        dsimp only [tYes]
        refine iteT ?_
        have q0 := DGet.k (k := Sum.inr nm) (sH _ _ hd2)
        rw [hv] at q0
        refine ⟨_, rfl, _, rfl, lr, _, rfl, q0, ?_⟩
        exact ⟨_, hDi, by rw [List.length_take, List.length_map]; exact small1000 (by omega), same_upd si nD2, by rw [upd_same, take_next ga2]⟩
      · rintro He ⟨se, hE⟩
        rw [List.take_of_length_le (by rw [List.length_map, l2]; decide)] at hE
        have s6 := s5.trans se
        have hD' := se _ _ (same_new (o := .lst (namesN.map V.str)) n5 _ _ hD)
        have fD := fit_recs oL fL (ns := namesN)
        refine ⟨_, _, .lst (SqL.of hD') (three_dp (Tups.of s6) ha1), .lst (SqL.of hE) (three_dp (Tups.of s6) ha2), fD.shaped, fD.shaped, ?_⟩
        rw [fD.same]
        exact k He s6
end
end MK
/-! For the law itself: heaps whose dicts may change, dicts walked, answers as data. -/
namespace MK
open PySem PySem.Spec PyProof.Rows L2
open He (ga ma)
def isD : HO → Bool
  | .dK _ => true
  | .frz _ (.dK _) => true
  | _ => false
/-- all but dicts stands as it stood -/
def Stay (H H' : Hp) : Prop := ∀ b o, H b = some o → isD o = false → H' b = some o
theorem Stay.refl (H : Hp) : Stay H H := fun _ _ e _ => e
theorem Stay.of {H H' : Hp} (s : Same H H') : Stay H H' := fun b o e _ => s b o e
theorem Stay.trans {H H1 H2 : Hp} (a : Stay H H1) (b : Stay H1 H2) : Stay H H2 := fun c o e n => b c o (a c o e n) n
theorem Stay.put {H : Hp} {r : Addr} {u o : HO} (h : H r = some u) (d : isD u = true) : Stay H (upd H r o) := fun b x e n => by
  have ne : b ≠ r := fun z => by
    subst z
    rw [h] at e
    cases e
    rw [d] at n
    cases n
  rw [upd_ne ne]
  exact e
theorem Stay.but {H H' : Hp} {r : Addr} {kvs : List (Key × V)} (s : But r H H') (h : H r = some (.dK kvs)) : Stay H H' := fun b x e n => s b x (fun z => by
  subst z
  rw [h] at e
  cases e
  cases n) e
theorem Stay.tups {H H' : Hp} (s : Stay H H') : Tups H H' := fun a xs e => s a _ e rfl
theorem Stay.sq {K : PySem.W.Frag} {H H' : Hp} {a : Addr} {xs : List V} (s : Stay H H') (h : SqL K H a xs) : SqL K H' a xs :=
  h.elim (fun h => .inl (h.elim (fun h => .inl (s _ _ h rfl)) fun ⟨o, h⟩ => .inr ⟨o, s _ _ h rfl⟩)) fun h => .inr h
theorem Stay.plain {K : PySem.W.Frag} {H H' : Hp} {p r : Addr} (s : Stay H H') (h : PlainAt K H p r) : PlainAt K H' p r := by
  obtain ⟨dx, h⟩ := h
  exact ⟨dx, s _ _ h rfl⟩
/-- for k, v in d.items() -/
theorem for_items {d : Addr} {o : Obj} {kvs : List (Key × V)} {g : TG} {tb : TS} {D : Ends} {σ : L2.St} {H : Hp} (Pv : Nat → L2.St → Hp → Prop) (h0 : Pv 0 σ H) (hf : ∀ i σ H, i ≤ kvs.length → Pv i σ H → H d = some (.frz o (.dK kvs)))
    (hs : ∀ i k v σ H T, kvs[i]? = some (k, v) → Pv i σ H → H T = none → g (.ref T) σ (upd H T (.tup [kV k, v])) fun σ2 H2 => tb { D with nx := Pv (i + 1), ct := Pv (i + 1), bk := D.nx } σ2 H2) (hd : ∀ σ H, Pv kvs.length σ H → D.nx σ H) :
    ∃ W : Nat → Nat → L2.St → Hp → Prop, (∃ m, W 0 m σ H) ∧ ∀ i m σ H, W i m σ H →
      (((Iti d o kvs)).stop i H ∧ D.nx σ H) ∨ (((Iti d o kvs)).go i H ∧ ∃ N : L2.St → Hp → Prop, (∀ σ' H', N σ' H' → ∃ m', m' < m ∧ W (i + 1) m' σ' H') ∧ ∀ v H', ((Iti d o kvs)).yld i H v H' → g v σ H' fun σ2 H2 => tb { D with nx := N, ct := N, bk := D.nx } σ2 H2) := by
  refine ⟨fun i m σ H => m = kvs.length - i ∧ i ≤ kvs.length ∧ Pv i σ H, ⟨_, rfl, Nat.zero_le _, h0⟩, fun i m σ H hw => ?_⟩
  obtain ⟨rfl, hi, p⟩ := hw
  have hd0 := hf i σ H hi p
  by_cases hlt : i < kvs.length
  · refine .inr ⟨⟨hd0, hlt⟩, Pv (i + 1), fun σ' H' p' => ⟨kvs.length - (i + 1), by omega, rfl, hlt, p'⟩, fun v H' y => ?_⟩
    obtain ⟨T, k, v0, hk, ev, nT, eH⟩ := y
    subst ev eH
    exact hs i k v0 σ H T hk p nT
  · have e : i = kvs.length := by omega
    subst e
    exact .inl ⟨⟨hd0, Nat.le_refl _⟩, hd σ H p⟩
theorem pd_getL {α β : Type} {F : α → β → Prop} : ∀ {xs : List α} {ys : List β} {i : Nat} {x : α}, Paired F xs ys → xs[i]? = some x → ∃ y, ys[i]? = some y ∧ F x y
  | _, _, _, _, .nil, e => by simp at e
  | _, _, 0, _, .cons r _, e => by
    simp at e
    subst e
    exact ⟨_, rfl, r⟩
  | _, _, i + 1, x, .cons _ t, e => by
    obtain ⟨y, h1, h2⟩ := pd_getL (i := i) (x := x) t (by simpa using e)
    exact ⟨y, by simpa using h1, h2⟩
theorem putR_new {l : Recs} {x : Str} {R : Rec} (h : x ∉ l.map (·.1)) : putR l x R = l ++ [(x, R)] := by
  unfold putR
  rw [if_neg]
  intro z
  obtain ⟨p, hp, e⟩ := List.any_eq_true.mp z
  exact h (List.mem_map.mpr ⟨p, hp, of_decide_eq_true e⟩)
theorem names_new {i : Nat} {x : Str} (h : namesN[i]? = some x) : x ∉ namesN.take i := by
  match i, h with
  | 0, h => exact fun z => absurd z List.not_mem_nil
  | 1, h =>
    cases h
    exact (by decide +kernel : ("a.b" : Str) ∉ namesN.take 1)
  | 2, h =>
    cases h
    exact (by decide +kernel : ("t" : Str) ∉ namesN.take 2)
/-- the next record is laid -/
theorem take_put {l : Recs} {i : Nat} {x : Str} {R : Rec} (o : l.map (·.1) = namesN) (h : l[i]? = some (x, R)) : putR (l.take i) x R = l.take (i + 1) := by
  have hx : namesN[i]? = some x := by
    rw [← o, List.getElem?_map, h] <;> rfl
  rw [putR_new, List.take_succ, h]
  · rfl
  · rw [List.map_take, o]
    exact names_new hx
/-! ### the answers, as data -/
def ansD (p : Str) (ch : Int) : Due → PyData
  | .good _ => .tuple [.str "good", .none, .none]
  | u => .tuple [.str (wordOf u), .str p, .int ch]
theorem ans_dp {K : PySem.W.Frag} {H : Hp} {a : Addr} {p : Str} {ch : Int} {u : Due} (h : H a = some (.tup (ansV (.str p) (.int ch) u))) : Dp K H (.ref a) (ansD p ch u) := by
  cases u with
  | good c => exact .tup (SqT.of h) (.cons (.str _) (.cons .non (.cons .non .nil)))
  | _ => exact .tup (SqT.of h) (.cons (.str _) (.cons (.str _) (.cons (.int _) .nil)))
theorem fit_ans {p : Str} {ch : Int} {u : Due} (h : Lays p) : Fit 1 (ansD p ch u) := by
  cases u with
  | good c => exact fit_tup (n := 0) (all3 (fit_str 0 (by decide +kernel)) ⟨by simp only [PyData.canLay0], by simp only [PyData.depth]; omega⟩ ⟨by simp only [PyData.canLay0], by simp only [PyData.depth]; omega⟩)
  | noPart => exact fit_tup (n := 0) (all3 (fit_str 0 (by show Lays "no part"; decide +kernel)) (fit_str 0 h) (fit_int _ 0))
  | wrongKind => exact fit_tup (n := 0) (all3 (fit_str 0 (by show Lays "wrong kind"; decide +kernel)) (fit_str 0 h) (fit_int _ 0))
  | far => exact fit_tup (n := 0) (all3 (fit_str 0 (by show Lays "far"; decide +kernel)) (fit_str 0 h) (fit_int _ 0))
  | long => exact fit_tup (n := 0) (all3 (fit_str 0 (by show Lays "long"; decide +kernel)) (fit_str 0 h) (fit_int _ 0))
theorem word_good {c : Cont} : decide (V.str (wordOf (.good c)) = V.str "good") = true := decide_eq_true rfl
theorem word_bad {u : Due} (hb : ∀ c, u ≠ .good c) : decide (V.str (wordOf u) = V.str "good") = false := by
  refine decide_eq_false fun z => ?_
  have e : wordOf u = "good" := V.str.inj z
  cases u with
  | good c => exact hb c rfl
  | noPart => exact absurd (show ("no part" : Str) = "good" from e) (by decide +kernel)
  | wrongKind => exact absurd (show ("wrong kind" : Str) = "good" from e) (by decide +kernel)
  | far => exact absurd (show ("far" : Str) = "good" from e) (by decide +kernel)
  | long => exact absurd (show ("long" : Str) = "good" from e) (by decide +kernel)
theorem due_some {l : Recs} {D : Deed} {c : Cont} (h : due l D = .good c) : ∃ R, l.lookup D.part = some R ∧ act R.cont D = .good c := by
  unfold due at h
  split at h
  · rename_i R e
    exact ⟨R, e, h⟩
  · cases h
/-! ### both books say l -/
def Both (K : PySem.W.Frag) (H : Hp) (lr p r : Addr) (l : Recs) : Prop := ∃ kvs kvs2, PlainAt K H p r ∧ H r = some (.dK kvs) ∧ RecsAt H kvs l ∧ H lr = some (.dK kvs2) ∧ RecsAt H kvs2 l
theorem Both.mono {K : PySem.W.Frag} {H H' : Hp} {lr p r : Addr} {l : Recs} (h : Both K H lr p r l) (s : Same H H') : Both K H' lr p r l := by
  obtain ⟨kvs, kvs2, h1, h2, h3, h4, h5⟩ := h
  exact ⟨kvs, kvs2, (Stay.of s).plain h1, s _ _ h2, h3.mono (Tups.of s), s _ _ h4, h5.mono (Tups.of s)⟩
def Sl (a lr p : Addr) (σ : L2.St) : Prop := ∃ v3 v4 v5 v6 v7 v8 v9 v10 v11 v12 v13 v14 v15 : Option V, σ = [some (.ref a), some (.ref lr), some (.ref p), v3, v4, v5, v6, v7, v8, v9, v10, v11, v12, v13, v14, v15]
theorem cut_int {ns : List Int} {lo hi : Option Int} {i : Nat} {x : V} (h : (cutV (ns.map V.int) lo hi)[i]? = some x) : ∃ c, x = .int c := by
  have m := List.mem_of_getElem? h
  unfold cutV at m
  obtain ⟨c, _, e⟩ := List.mem_map.mp (List.mem_of_mem_drop (List.mem_of_mem_take m))
  exact ⟨c, e.symm⟩
def spLaw (K : PySem.W.Frag) : Sp := fun vs H Q _ => ∃ (a : Addr) (ns : List Int), vs = [.ref a] ∧ SqL K H a (ns.map V.int) ∧ ns.length ≤ 63 ∧ ∀ H', Q (.bl true) H'
end MK
/-! The law. -/
namespace MK
open PySem PySem.Spec PyProof.Rows L2
open He (ga ma)
abbrev lawN : List Str := ["_law_script", "_law_records", "_law_plain", "_law_name", "_law_record", "_law_cell_here", "_law_told_here", "_law_edit", "_law_word", "_law_new", "_law_choice", "_law_due_here", "_law_kind", "_law_parent", "_law_rank", "_law_old"]
theorem seq_cut {t u : TS} {D : Ends} {σ : L2.St} {H : Hp} (Z : L2.St → Hp → Prop) (h1 : ∀ D' : Ends, (∀ σ' H', Z σ' H' → D'.nx σ' H') → t D' σ H) (h2 : ∀ σ' H', Z σ' H' → u D σ' H') : tSeq t u D σ H := h1 _ h2
def RecFine (R : Rec) : Prop := R.Ok ∧ Lays R.kind ∧ Lays R.parent
def Rows (H0 : Hp) (lr : Addr) (H : Hp) (l : Recs) : Prop := Stay H0 H ∧ ∃ kvs, H lr = some (.dK kvs) ∧ RecsAt H kvs l ∧ ∀ p ∈ l, RecFine p.2
theorem rows_more {H0 H1 H2 : Hp} {lr t : Addr} {l : Recs} {kvs : List (Key × V)} {x : Str} {R : Rec} (q : Stay H0 H1) (hd : H1 lr = some (.dK kvs)) (hl : RecsAt H1 kvs l) (ok : ∀ p ∈ l, RecFine p.2) (s : Same H1 H2) (hR : RecAt H2 t R) (oR : RecFine R) (hx : x ∉ l.map (·.1)) :
    Rows H0 lr (upd H2 lr (.dK (putK kvs (.inr x) (.ref t)))) (l ++ [(x, R)]) := by
  have d := s _ _ hd
  have y : Stay H2 (upd H2 lr (.dK (putK kvs (.inr x) (.ref t)))) := Stay.put d rfl
  refine ⟨(q.trans (Stay.of s)).trans y, _, upd_same, ?_, fun p hp => ?_⟩
  · rw [← putR_new hx]
    exact recs_put (hl.mono ((Stay.of s).trans y).tups) (hR.mono y.tups)
  · rcases List.mem_append.mp hp with hp | hp
    · exact ok p hp
    · rw [List.mem_singleton.mp hp]
      exact oR
section
variable {P : Program} {w : World} {K : PySem.W.Frag} {mg : Str → Option Value} {base : Heap}
theorem scLaw : FnScope lawN ["_law_script"] (dfn "law" 48).scope := ⟨rfl, rfl, rfl, by decide +kernel, rfl, by decide +kernel, by decide +kernel⟩
/-- what the law calls -/
structure Calls (P : Program) (w : World) (K : PySem.W.Frag) (mg : Str → Option Value) (base : Heap) : Prop where
  cell : FnR P w K mg base CX0 1 (ga K "_law_cell") (spCell K)
  text : FnR P w K mg base CX0 2 (ga K "_law_text") spText
  table : FnR P w K mg base CX0 3 (ga K "_law_table") spTable
  draw : FnR P w K mg base CX0 3 (ga K "_law_deed") (spDraw K)
  made : FnR P w K mg base CX0 7 (ga K "_law_made") (spLawMade K)
  due : FnR P w K mg base CX0 2 (ga K "_law_due") spDue
  told : ∀ asked, FnR P w K mg base CX0 6 (ga K "_law_told") (spToldR K asked)
  so : FnR P w K mg base CX0 2 (ga K "_law_so") (spSo K)
  lay : FnR P w K mg base CX0 1 (ma K (ga K "Plain") "lay") (spLay K)
  pinit : FnR P w K mg base CX0 1 (ma K (ga K "Plain") "__init__") (spPInit K)
  tells : ∀ D : Deed, FnR P w K mg base CX0 1 (ma K (ga K D.cls) "told") (spTold K D.cls)
  about : FnR P w K mg base CX0 1 (ma K (ga K "PartEdit") "about") (spAbout K)
  edMade : FnR P w K mg base CX0 1 (ma K (ga K "Edit") "made") spMade
theorem fnok {d : He.DefD} {N ps : List Str} {k : Nat} {sp : Sp} {fd : FuncData} (F : FunD K d.name d.qual d.params d.body d.scope (d.dvs K) (d.kws K) (He.fAd K d.at_) fd) (S : FnScope N ps d.scope) (len : ∀ vs H Q E, sp vs H Q E → vs.length = ps.length)
    (hbody : ∀ (cdv : Value) (A : Around) (outer : List Env) (s : Shared) (H : Hp) (vs : List V) (Q : VK) (E : XK), Room k (A.deeper (envOfC d.qual d.scope s.heap.objs.size (He.fAd K d.at_) cdv)) → sp vs H Q E →
      ∃ t, PSs (cxOf CX0 P w K mg base N d.qual d.scope (He.fAd K d.at_) cdv A outer s H E).nox d.body t ∧ t { nx := fun _ H' => Q .non H', rt := Q } (start N vs) H) :
    FnOk P w K mg base CX0 (k + 1) (He.fAd K d.at_) fd ps sp :=
  F.ok S len fun cdv A outer s H vs Q E hr hsp => by
    obtain ⟨t, h, q⟩ := hbody cdv A outer s H vs Q E hr hsp
    exact ⟨t, h.nox, q⟩
theorem ok_law {fd : FuncData} (F : FunD K (dfn "law" 48).name (dfn "law" 48).qual (dfn "law" 48).params (dfn "law" 48).body (dfn "law" 48).scope ((dfn "law" 48).dvs K) ((dfn "law" 48).kws K) (He.fAd K (dfn "law" 48).at_) fd) (T : Txt K mg) (G : Calls P w K mg base) :
    FnOk P w K mg base CX0 8 (ga K "law") fd ["_law_script"] (spLaw K) := by
  refine fnok F scLaw (fun vs H Q E h => ?_) (fun cdv A outer s H vs Q E hr h => ?_)
  · obtain ⟨a, ns, rfl, _⟩ := h
    rfl
  · obtain ⟨a, ns, rfl, hS, hlen, k⟩ := h
    have CP := T.i "Plain"
    have hr1 : Room 1 _ := hr.mono (by decide)
    have hr2 : Room 2 _ := hr.mono (by decide)
    have hr3 : Room 3 _ := hr.mono (by decide)
    have hr6 : Room 6 _ := hr.mono (by decide)
    refine ⟨_, pss_cons (ps_set (i := 1) scLaw.nd rfl (Or.inl rfl) (pe_disp (pps_cons pe_str (pe_tup (pa_cons pe_str (pa_cons pe_str (pa_cons (pe_op op_modN (pe_callP G.cell hr1 rfl (T.g "_law_cell") (T.k "_law_cell") (fun _ => at0) (pa_cons (pv 0) (pa_cons pe_int pa_nil))) (pe_op op_add (pe_op op_pow pe_int pe_int) pe_int))
          (pa_cons (pe_callP G.text hr2 rfl (T.g "_law_text") (T.k "_law_text") (fun _ => at0) (pa_cons (pe_callP G.cell hr1 rfl (T.g "_law_cell") (T.k "_law_cell") (fun _ => at0) (pa_cons (pv 0) (pa_cons pe_int pa_nil))) pa_nil)) pa_nil))))) pps_nil) (by rfl) (by rfl) (fun z => by cases z) (by decide)))
      (pss_cons (ps_dput (hu_of hr) (pv 1) pe_str (pe_tup (pa_cons pe_str (pa_cons pe_str (pa_cons (pe_op op_modN (pe_callP G.cell hr1 rfl (T.g "_law_cell") (T.k "_law_cell") (fun _ => at0) (pa_cons (pv 0) (pa_cons pe_int pa_nil))) (pe_op op_add (pe_op op_pow pe_int pe_int) pe_int))
          (pa_cons (pe_callP G.text hr2 rfl (T.g "_law_text") (T.k "_law_text") (fun _ => at0) (pa_cons (pe_callP G.cell hr1 rfl (T.g "_law_cell") (T.k "_law_cell") (fun _ => at0) (pa_cons (pv 0) (pa_cons pe_int pa_nil))) pa_nil)) pa_nil))))) rfl)
      (pss_cons (ps_dput (hu_of hr) (pv 1) pe_str (pe_tup (pa_cons pe_str (pa_cons pe_str (pa_cons (pe_op op_modN (pe_callP G.cell hr1 rfl (T.g "_law_cell") (T.k "_law_cell") (fun _ => at0) (pa_cons (pv 0) (pa_cons pe_int pa_nil))) (pe_op op_add (pe_op op_pow pe_int pe_int) pe_int))
          (pa_cons (pe_callP G.table hr3 rfl (T.g "_law_table") (T.k "_law_table") (fun _ => at0) (pa_cons (pe_callP G.cell hr1 rfl (T.g "_law_cell") (T.k "_law_cell") (fun _ => at0) (pa_cons (pv 0) (pa_cons pe_int pa_nil))) pa_nil)) pa_nil))))) rfl)
      (pss_cons (ps_set (i := 2) scLaw.nd rfl (Or.inl rfl) (pe_makeP0 CP.mkr G.pinit hr2 rfl (T.g "Plain") pass0))
      (pss_cons (ps_lock (ps_for PassesOwn.never rfl (pi_items (pv 1)) (pg_tup rfl (pgs_cons (pg_name (i := 3) scLaw.nd rfl (Or.inl rfl)) (pgs_cons (pg_name (i := 4) scLaw.nd rfl (Or.inl rfl)) pgs_nil)))
        (pss_one (ps_expr (pe_methR (pv 2) CP.cl (T.m "Plain" "lay" "Plain") G.lay hr1 pass0 (pa_cons (pv 3) (pa_cons (pe_ix ix_tup (pv 4) pe_int (fun _ _ => rfl)) (pa_cons (pe_ix ix_tup (pv 4) pe_int (fun _ _ => rfl)) (pa_cons (pe_ix ix_tup (pv 4) pe_int (fun _ _ => rfl)) (pa_cons (pe_ix ix_tup (pv 4) pe_int (fun _ _ => rfl)) pa_nil))))))))))
      (pss_cons (ps_for PassesOwn.never rfl (pi_list (pe_slice sl_list (pv 0) (po_some pe_int) (po_some pe_int))) (pg_name (i := 5) scLaw.nd rfl (Or.inl rfl))
        (pss_cons (ps_set (i := 6) scLaw.nd rfl (Or.inl rfl) (pe_callP G.draw hr3 rfl (T.g "_law_deed") (T.k "_law_deed") (fun _ => at0) (pa_cons (pv 1) (pa_cons (pv 5) pa_nil))))
        (pss_cons (ps_set (i := 7) scLaw.nd rfl (Or.inl rfl) (pe_callP G.made hr rfl (T.g "_law_made") (T.k "_law_made") (fun _ => at0) (pa_cons (pv 6) pa_nil)))
        (pss_cons (ps_if (PW.pt (pw_or (pt_not (pt_val (pe_callB call_isi rfl (T.f "isinstance") (by decide +kernel) (pa_cons (pv 7) (pa_cons (pe_glob (v := .ref (ga K "Edit")) rfl (T.g "Edit") rfl) pa_nil)))))
            (pw_or (pt_cmpR (op_neD hr.units) (pe_dyn0 (CX := CX0) (k := 1) (m := "told") (E := fun _ _ _ _ => False) (pv 7) hr1 (fun _ => at0)) (pv 6) (nomark _))
            (pw_or (pt_cmpR op_ne (pe_dyn0 (CX := CX0) (k := 1) (m := "about") (E := fun _ _ _ _ => False) (pv 7) hr1 (fun _ => at0)) (pe_ix ix_tup (pv 6) pe_int (fun _ _ => rfl)) (nomark _))
            (pw_or1 (pt_cmp (pc_notN (pe_dyn0 (CX := CX0) (k := 1) (m := "made") (E := fun _ _ _ _ => False) (pv 7) hr1 (fun _ => at0))) rfl)))))) (pss_one (ps_ret pe_bl)) pss_nil)
        (pss_cons (ps_asg (pe_callP G.due hr2 rfl (T.g "_law_due") (T.k "_law_due") (fun _ => at0) (pa_cons (pv 1) (pa_cons (pv 6) pa_nil))) (pg_tup rfl (pgs_cons (pg_name (i := 8) scLaw.nd rfl (Or.inl rfl)) (pgs_cons (pg_name (i := 9) scLaw.nd rfl (Or.inl rfl)) pgs_nil))))
        (pss_cons (ps_set (i := 10) scLaw.nd rfl (Or.inl rfl) (pe_op op_modN (pv 5) pe_int))
        (pss_cons (ps_set (i := 11) scLaw.nd rfl (Or.inl rfl) (pe_tup (pa_cons (pv 8) (pa_cons (pe_ix ix_tup (pv 6) pe_int (fun _ _ => rfl)) (pa_cons (pv 10) pa_nil)))))
        (pss_cons (ps_if (pt_cmpR op_eq (pv 8) pe_str (nomark _)) (pss_one (ps_set (i := 11) scLaw.nd rfl (Or.inl rfl) (pe_tup (pa_cons (pv 8) (pa_cons pe_non (pa_cons pe_non pa_nil)))))) pss_nil)
        (pss_cons (ps_if (PW.pt (pw_or (pt_cmpR (op_neD hr.units) (pe_callP (G.told true) hr6 rfl (T.g "_law_told") (T.k "_law_told") (fun _ => at0) (pa_cons (pv 7) (pa_cons (pv 2) (pa_cons (pv 10) (pa_cons pe_bl pa_nil))))) (pv 11) (nomark _))
            (pw_or1 (pt_not (pt_val (pe_callP G.so hr2 rfl (T.g "_law_so") (T.k "_law_so") (fun _ => at0) (pa_cons (pv 2) (pa_cons (pv 1) pa_nil)))))))) (pss_one (ps_ret pe_bl)) pss_nil)
        (pss_cons (ps_if (pt_cmpR (op_neD hr.units) (pe_callP (G.told false) hr6 rfl (T.g "_law_told") (T.k "_law_told") (fun _ => at0) (pa_cons (pv 7) (pa_cons (pv 2) (pa_cons (pv 10) (pa_cons pe_bl pa_nil))))) (pv 11) (nomark _)) (pss_one (ps_ret pe_bl)) pss_nil)
        (pss_cons (ps_if (pt_cmpR op_eq (pv 8) pe_str (nomark _))
          (pss_cons (ps_asg (pe_dget (hu_of hr) (pv 1) (pe_ix ix_tup (pv 6) pe_int (fun _ _ => rfl)) (fun _ _ => rfl)) (pg_tup rfl (pgs_cons (pg_name (i := 12) scLaw.nd rfl (Or.inl rfl)) (pgs_cons (pg_name (i := 13) scLaw.nd rfl (Or.inl rfl)) (pgs_cons (pg_name (i := 14) scLaw.nd rfl (Or.inl rfl)) (pgs_cons (pg_name (i := 15) scLaw.nd rfl (Or.inl rfl)) pgs_nil))))))
            (pss_one (ps_dput (hu_of hr) (pv 1) (pe_ix ix_tup (pv 6) pe_int (fun _ _ => rfl)) (pe_tup (pa_cons (pv 12) (pa_cons (pv 13) (pa_cons (pv 14) (pa_cons (pv 9) pa_nil))))) rfl))) pss_nil)
        (pss_one (ps_if (pt_not (pt_val (pe_callP G.so hr2 rfl (T.g "_law_so") (T.k "_law_so") (fun _ => at0) (pa_cons (pv 2) (pa_cons (pv 1) pa_nil))))) (pss_one (ps_ret pe_bl)) pss_nil)))))))))))))
      (pss_one (ps_ret pe_bl))))))), ?_⟩
    have e9 : (10 : Int) ^ (9 : Int).toNat + 1 ≠ 0 := by decide +kernel
    -- the records
    refine seq_cut (fun σ' H' => ∃ (lr : Addr) (R1 : Rec), σ' = [some (.ref a), some (.ref lr), none, none, none, none, none, none, none, none, none, none, none, none, none, none] ∧ Rows H lr H' [("a", R1)]) (fun D' kD => ?_) ?_
    · refine fun lr nlr => ?_
      have q0 : Stay H (upd H lr (.dK [])) := Stay.of (same_new nlr)
      have hS0 := q0.sq hS
      refine ⟨_, rfl, a, ns, 0, rfl, hS0, fun i0 => ⟨_, _, rfl, rfl, ⟨by decide, by decide, by decide⟩, _, _, rfl, rfl, _, _, rfl, rfl, e9, ?_⟩⟩
      refine ⟨_, rfl, a, ns, 1, rfl, hS0, fun i1 => ⟨i1, rfl, fun z1 H1 hz1 s1 => ⟨by show 4 ≤ sizeLine; decide, fun t1 nt1 => ?_⟩⟩⟩
      have w1 := s1.trans (same_new (o := .tup [.str "chapter", .str "", .int (i0.fmod ((10 : Int) ^ (9 : Int).toNat + 1)), .str z1]) nt1)
      refine ⟨w1 _ _ upd_same, [(.inr "a", .ref t1)], rfl, by show 1 ≤ 15; decide, ?_⟩
      exact kD _ _ ⟨lr, ⟨"chapter", "", i0.fmod ((10 : Int) ^ (9 : Int).toNat + 1), .txt z1⟩, rfl, rows_more (l := []) q0 upd_same .nil (fun p hp => absurd hp List.not_mem_nil) w1 ⟨.str z1, upd_same, rfl⟩ ⟨⟨by show ¬ ("chapter" : Str) = "table"; decide +kernel, hz1⟩, by show Lays "chapter"; decide +kernel, by show Lays ""; decide +kernel⟩ List.not_mem_nil⟩
    rintro _ Ha ⟨lr, R1, rfl, qa, kva, da, la, oa⟩
    -- 'a.b'
    refine seq_cut (fun σ' H' => ∃ (R2 : Rec), σ' = [some (.ref a), some (.ref lr), none, none, none, none, none, none, none, none, none, none, none, none, none, none] ∧ Rows H lr H' [("a", R1), ("a.b", R2)]) (fun D' kD => ?_) ?_
    · refine ⟨_, rfl, a, ns, 2, rfl, qa.sq hS, fun i0 => ⟨_, _, rfl, rfl, ⟨by decide, by decide, by decide⟩, _, _, rfl, rfl, _, _, rfl, rfl, e9, ?_⟩⟩
      refine ⟨_, rfl, a, ns, 3, rfl, qa.sq hS, fun i1 => ⟨i1, rfl, fun z1 H1 hz1 s1 => ⟨by show 4 ≤ sizeLine; decide, fun t1 nt1 => ?_⟩⟩⟩
      have w1 := s1.trans (same_new (o := .tup [.str "para", .str "a", .int (i0.fmod ((10 : Int) ^ (9 : Int).toNat + 1)), .str z1]) nt1)
      refine ⟨_, rfl, lr, _, rfl, DPut.k (k := Sum.inr "a.b") (w1 _ _ da) (by rw [pd_len la]; show 1 < sizeLine; decide), ?_⟩
      exact kD _ _ ⟨⟨"para", "a", i0.fmod ((10 : Int) ^ (9 : Int).toNat + 1), .txt z1⟩, rfl, rows_more qa da la oa w1 ⟨.str z1, upd_same, rfl⟩ ⟨⟨by show ¬ ("para" : Str) = "table"; decide +kernel, hz1⟩, by show Lays "para"; decide +kernel, by show Lays "a"; decide +kernel⟩ (by show ("a.b" : Str) ∉ (["a"] : List Str); decide +kernel)⟩
    clear qa kva da la oa
    rintro _ Ha ⟨R2, rfl, qa, kva, da, la, oa⟩
    -- 't'
    refine seq_cut (fun σ' H' => ∃ (R3 : Rec), σ' = [some (.ref a), some (.ref lr), none, none, none, none, none, none, none, none, none, none, none, none, none, none] ∧ Rows H lr H' [("a", R1), ("a.b", R2), ("t", R3)]) (fun D' kD => ?_) ?_
    · refine ⟨_, rfl, a, ns, 4, rfl, qa.sq hS, fun i0 => ⟨_, _, rfl, rfl, ⟨by decide, by decide, by decide⟩, _, _, rfl, rfl, _, _, rfl, rfl, e9, ?_⟩⟩
      refine ⟨_, rfl, a, ns, 5, rfl, qa.sq hS, fun i1 => ⟨i1, rfl, fun b t H1 oT s1 hb => ⟨by show 4 ≤ sizeLine; decide, fun t1 nt1 => ?_⟩⟩⟩
      have w0 := same_new (o := .tup [.str "table", .str "", .int (i0.fmod ((10 : Int) ^ (9 : Int).toNat + 1)), .ref b]) nt1
      have w1 := s1.trans w0
      refine ⟨_, rfl, lr, _, rfl, DPut.k (k := Sum.inr "t") (w1 _ _ da) (by rw [pd_len la]; show 2 < sizeLine; decide), ?_⟩
      exact kD _ _ ⟨⟨"table", "", i0.fmod ((10 : Int) ^ (9 : Int).toNat + 1), .tab t⟩, rfl, rows_more qa da la oa w1 ⟨.ref b, upd_same, b, rfl, hb.mono (Tups.of w0)⟩ ⟨⟨rfl, oT⟩, by show Lays "table"; decide +kernel, by show Lays ""; decide +kernel⟩ (by show ("t" : Str) ∉ (["a", "a.b"] : List Str); decide +kernel)⟩
    clear qa kva da la oa
    rintro _ Ha ⟨R3, rfl, qa, kva, da, la, oa⟩
    have hl : ∃ l : Recs, l = [(("a" : Str), R1), (("a.b" : Str), R2), (("t" : Str), R3)] := ⟨_, rfl⟩
    obtain ⟨l, el⟩ := hl
    rw [← el] at la oa
    have oL : RecsOk l := ⟨by rw [el]; rfl, fun p hp => (oa p hp).1⟩
    have fL : Fine l := fun p hp => (oa p hp).2
    clear el
    -- the book
    refine seq_cut (fun σ' H' => ∃ (p r : Addr), σ' = [some (.ref a), some (.ref lr), some (.ref p), none, none, none, none, none, none, none, none, none, none, none, none, none] ∧ Same Ha H' ∧ PlainAt K H' p r ∧ H' r = some (.dK []) ∧ r ≠ lr) (fun D' kD => ?_) ?_
    · refine fun x dx hx hdx _ => ⟨x, dx, rfl, upd_same, fun r nr => ⟨rfl, ?_⟩⟩
      have nx : r ≠ x := fun z => by
        subst z
        rw [upd_same] at nr
        cases nr
      have b : But x (upd (upd Ha dx (.own x)) x (.ins (ga K "Plain") dx [])) (upd (upd (upd (upd Ha dx (.own x)) x (.ins (ga K "Plain") dx [])) r (.dK [])) x (.ins (ga K "Plain") dx [("records", .ref r)])) := (But.of (same_new nr)).upd
      have sA := made_same hx hdx b
      have nr0 : Ha r = none := (made_same hx hdx (But.of (Same.refl _))).free nr
      refine kD _ _ ⟨x, r, rfl, sA, ⟨dx, upd_same⟩, ?_, fun z => ?_⟩
      · rw [upd_ne nx, upd_same]
      · subst z
        rw [nr0] at da
        cases da
    rintro _ Hb ⟨p, r, rfl, sAb, hP, hr0, nrl⟩
    have qb := qa.trans (Stay.of sAb)
    have db := sAb _ _ da
    have lb := la.mono (Tups.of sAb)
    -- all is laid
    refine seq_cut (fun σ' H' => (∃ v3 v4, σ' = [some (.ref a), some (.ref lr), some (.ref p), v3, v4, none, none, none, none, none, none, none, none, none, none, none]) ∧ Stay H H' ∧ Both K H' lr p r l) (fun D' kD => ?_) ?_
    · refine ⟨lr, _, db, trivial, fun od => ⟨_, rfl, lr, od, kva, rfl, upd_same, ?_⟩⟩
      have yb : Stay Hb (upd Hb lr (.frz od (.dK kva))) := Stay.put db rfl
      refine for_items (fun i σ' Hi => (∃ v3 v4, σ' = [some (.ref a), some (.ref lr), some (.ref p), v3, v4, none, none, none, none, none, none, none, none, none, none, none]) ∧ Stay H Hi ∧ Hi lr = some (.frz od (.dK kva)) ∧ PlainAt K Hi p r ∧ RecsAt Hi kva l ∧ ∃ kv, Hi r = some (.dK kv) ∧ RecsAt Hi kv (l.take i))
        ⟨⟨none, none, rfl⟩, qb.trans yb, upd_same, yb.plain hP, lb.mono yb.tups, [], (upd_ne nrl).trans hr0, .nil⟩ (fun i σ' Hi _ z => z.2.2.1) ?_ ?_
      · rintro i ky v σ' Hi T' hi ⟨⟨v3, v4, rfl⟩, qi, di, pi, li, kv, hri, lki⟩ nT
        obtain ⟨⟨nm, R⟩, hnR, e1, b, e2, hR⟩ := pd_getL li hi
        dsimp only at e1 e2 hR
        subst e1 e2
        obtain ⟨dp, hp'⟩ := id pi
        obtain ⟨cv, hb, hcv⟩ := id hR
        have sT := same_new (o := .tup [.str nm, .ref b]) nT
        refine ⟨T', _, rfl, SqT.of upd_same, rfl, _, _, rfl, _, _, rfl, rfl, ?_⟩
        have hb' := sT _ _ hb
        refine ⟨_, rfl, p, dp, _, rfl, sT _ _ hp', lk_past (by decide +kernel), _, rfl, _, rfl, b, _, 0, _, rfl, rfl, SqT.of hb', atI_nat (j := 0) rfl, _, rfl, b, _, 1, _, rfl, rfl, SqT.of hb', atI_nat (j := 1) rfl, _, rfl, b, _, 2, _, rfl, rfl, SqT.of hb', atI_nat (j := 2) rfl, _, rfl, b, _, 3, _, rfl, rfl, SqT.of hb', atI_nat (j := 3) rfl, ?_⟩
        refine ⟨p, r, nm, kv, _, _, _, _, rfl, ⟨dp, sT _ _ hp'⟩, sT _ _ hri, by rw [pd_len lki, List.length_take]; have := recs_len la oL; have := pd_len la; omega, fun t nt => ?_⟩
        have sTt := sT.trans (same_new (o := .tup [.str R.kind, .str R.parent, .int R.rank, cv]) nt)
        have yr := Stay.put (r := r) (o := .dK (putK kv (.inr nm) (.ref t))) (sTt _ _ hri) rfl
        have yT := (Stay.of sTt).trans yr
        refine ⟨⟨_, _, rfl⟩, qi.trans yT, (upd_ne nrl.symm).trans (sTt _ _ di), yT.plain pi, li.mono yT.tups, _, upd_same, ?_⟩
        rw [← take_put oL.names hnR]
        exact recs_put (lki.mono yT.tups) ⟨cv, yr _ _ upd_same rfl, hcv.mono yT.tups⟩
      · rintro σ' Hi ⟨⟨v3, v4, rfl⟩, qi, di, pi, li, kv, hri, lki⟩
        have yl := Stay.put (r := lr) (o := .dK kva) di rfl
        refine ⟨di, kD _ _ ⟨⟨_, _, rfl⟩, qi.trans yl, kv, kva, yl.plain pi, (upd_ne nrl).trans hri, ?_, upd_same, li.mono yl.tups⟩⟩
        rw [pd_len la, List.take_length] at lki
        exact lki.mono yl.tups
    clear qa qb sAb hP hr0 db lb la
    rintro _ Hc ⟨⟨v3, v4, rfl⟩, qc, hB⟩
    have sc := qc.sq hS
    refine ⟨_, rfl, _, rfl, _, rfl, a, _, rfl, sc, fun ps nps => ⟨ps, rfl, ⟨_, SqL.of upd_same⟩, ?_⟩⟩
    refine for_list (K := K) (a := ps) (xs := cutV (ns.map V.int) (some 6) (some 46)) (fun i σ' Hi => Sl a lr p σ' ∧ Hi ps = some (.lst (cutV (ns.map V.int) (some 6) (some 46))) ∧ ∃ r l, r ≠ lr ∧ RecsOk l ∧ Fine l ∧ Both K Hi lr p r l)
      ⟨⟨_, _, _, _, _, _, _, _, _, _, _, _, _, rfl⟩, upd_same, r, l, nrl, oL, fL, hB.mono (same_new nps)⟩ (fun i σ' Hi _ z => SqL.of z.2.1) ?_ (fun σ' Hi z => k Hi)
    clear qc hB nrl oL fL sc
    rintro i x σ' H0 hx ⟨⟨v3, v4, v5, v6, v7, v8, v9, v10, v11, v12, v13, v14, v15, rfl⟩, hps, r, l, nrl, oL, fL, kvs, kvs2, hP, hr0, lr0, hlr, ll⟩
    obtain ⟨c, rfl⟩ := cut_int hx
    clear hx
    -- the deed
    refine ⟨_, rfl, _, rfl, lr, c, kvs2, l, rfl, hlr, ll, oL, fun D ta H1 oD s1 hT => ?_⟩
    refine ⟨_, rfl, ta, D, rfl, hT, oD, fun e H2 s2 ne hE => ?_⟩
    obtain ⟨dx, q, he, hq⟩ := id hE
    have C := T.ins D.cls cls_ins
    obtain ⟨m1, m2, m3, m4, m5, m6, m7, m8⟩ := edit_met (D := D)
    have mT : Meth K (ga K D.cls) "told" (ma K (ga K D.cls) "told") := T.met (D.cls, ("told", D.cls)) m6
    have mA : Meth K (ga K D.cls) "about" (ma K (ga K "PartEdit") "about") := T.met (D.cls, ("about", "PartEdit")) m1
    have mM : Meth K (ga K D.cls) "made" (ma K (ga K "Edit") "made") := T.met (D.cls, ("made", "Edit")) m2
    have isE : PySem.W.kitOne K (.ref (ga K D.cls)) (.ref (ga K "Edit")) = some true := T.isE D.cls (by
      cases D with
      | write p z => exact (by decide +kernel : (insN.take 5).contains "Write" = true)
      | splice p i n z => exact (by decide +kernel : (insN.take 5).contains "Splice" = true)
      | cell p r c z => exact (by decide +kernel : (insN.take 5).contains "Cell" = true)
      | addrow p i r => exact (by decide +kernel : (insN.take 5).contains "AddRow" = true)
      | cutrow p i => exact (by decide +kernel : (insN.take 5).contains "CutRow" = true))
    have lp := lays_part oD.1
    refine ⟨_, rfl, .ref e, _, .ref (ga K D.cls), .ref (ga K "Edit"), true, rfl, .own _, .base (.ins he C.cl C.ca T.cn T.ct C.cm), isE, true, rfl, iteF ?_⟩
    refine ⟨_, rfl, e, _, dx, _, _, _, rfl, he, C.cl, mT, flds_no (by decide +kernel), G.tells D, e, D, rfl, rfl, hE, fun a3 H3 s3 hT3 => ?_⟩
    have s13 := s2.trans s3
    refine ⟨_, rfl, _, _, hT3.dp, (hT.mono (Tups.of s13)).dp, (fit_deed oD).shaped, (fit_deed oD).shaped, _, rfl, if_not (by rw [(fit_deed oD).same]; rfl) ?_⟩
    have he3 := s3 _ _ he
    have hE3 : EditAt K H3 e D := EditAt.keep (fun o z => s3 _ _ z) (Tups.of s3) hE
    obtain ⟨qt, hqt, hqr⟩ := hT.mono (Tups.of s13)
    refine ⟨_, rfl, e, _, dx, _, _, _, rfl, he3, C.cl, mA, flds_no (by decide +kernel), G.about, e, D, rfl, hE3, _, rfl, ta, _, 1, _, rfl, rfl, SqT.of hqt, val_part, rfl, _, rfl, if_not (by rw [decide_eq_true rfl]; rfl) ?_⟩
    refine ⟨_, rfl, e, _, dx, _, _, _, rfl, he3, C.cl, mM, flds_no (by decide +kernel), G.edMade, e, rfl, _, rfl, if_not (by decide) ?_⟩
    -- what is due
    have s03 := s1.trans s13
    refine ⟨_, rfl, _, rfl, lr, ta, kvs2, l, D, rfl, oD, s03 _ _ hlr, ll.mono (Tups.of s03), oL, ⟨qt, hqt, hqr⟩, fun u qd H4 nv hu s4 hqd hN => ?_⟩
    refine ⟨qd, _, rfl, SqT.of hqd, rfl, _, _, rfl, _, _, rfl, rfl, ?_⟩
    refine ⟨_, rfl, _, _, rfl, rfl, by show (256 : Int) ≠ 0; decide, ?_⟩
    refine ⟨_, rfl, _, rfl, ta, _, 1, .str D.part, rfl, rfl, SqT.of (s4 _ _ hqt), val_part, _, rfl, by show 3 ≤ sizeLine; decide, fun q6 n6 => ?_⟩
    have s04 := (s03.trans s4).trans (same_new (o := .tup [.str (wordOf u), .str D.part, .int (c.fmod 256)]) n6)
    dsimp only [gName]
    refine if_join (fun σ' H' => ∃ qa : Addr, σ' = [some (.ref a), some (.ref lr), some (.ref p), v3, v4, some (.int c), some (.ref ta), some (.ref e), some (.str (wordOf u)), some nv, some (.int (c.fmod 256)), some (.ref qa), v12, v13, v14, v15] ∧ Same H4 H' ∧
      H' qa = some (.tup (ansV (.str D.part) (.int (c.fmod 256)) u))) ?_ fun D' kD => ?_
    rotate_left
    · refine ⟨_, rfl, rfl, _, rfl, ?_⟩
      rcases due_or u with ⟨cc, rfl⟩ | hb
      · refine if_yes word_good ⟨_, rfl, by show 3 ≤ sizeLine; decide, fun q7 n7 => kD _ _ ⟨q7, rfl, (same_new n6).trans (same_new n7), upd_same⟩⟩
      · exact if_not (word_bad hb) (kD _ _ ⟨q6, rfl, same_new n6, by rw [upd_same, ans_bad hb]⟩)
    clear s04
    rintro _ H5 ⟨qa, rfl, s5, hqa⟩
    have s05 := (s03.trans s4).trans s5
    have s35 := s4.trans s5
    have hE5 : EditAt K H5 e D := EditAt.keep (fun o z => s35 _ _ z) (Tups.of s35) hE3
    have P5 : PlainAt K H5 p r := (Stay.of s05).plain hP
    have fA := fit_ans (p := D.part) (ch := c.fmod 256) (u := u) lp
    -- asked
    refine ⟨_, rfl, _, rfl, _, rfl, e, p, r, .int (c.fmod 256), D, kvs, l, rfl, oD, hE5, P5, s05 _ _ hr0, lr0.mono (Tups.of s05), oL, fun u' q8 H8 hu' h8 z8 _ => ?_⟩
    obtain rfl : u = u' := hu.symm.trans hu'
    have s8 := z8 (.inl rfl)
    refine ⟨_, rfl, _, _, ans_dp h8, ans_dp (s8 _ _ hqa), fA.shaped, fA.shaped, _, rfl, if_not (by rw [fA.same]; rfl) ?_⟩
    have s08 := s05.trans s8
    refine ⟨_, rfl, _, rfl, p, r, lr, kvs, kvs2, l, rfl, (Stay.of s08).plain hP, s08 _ _ hr0, lr0.mono (Tups.of s08), s08 _ _ hlr, ll.mono (Tups.of s08), oL, fL, fun H9 s9 => ⟨true, rfl, iteF ?_⟩⟩
    have s09 := s08.trans s9
    have s89 := s8.trans s9
    have hE9 : EditAt K H9 e D := EditAt.keep (fun o z => s89 _ _ z) (Tups.of s89) hE5
    -- done
    refine ⟨_, rfl, _, rfl, _, rfl, e, p, r, .int (c.fmod 256), D, kvs, l, rfl, oD, hE9, (Stay.of s09).plain hP, s09 _ _ hr0, lr0.mono (Tups.of s09), oL, fun u' q10 H10 hu' h10 zs zd => ?_⟩
    obtain rfl : u = u' := hu.symm.trans hu'
    rcases due_or u with ⟨cc, rfl⟩ | hb
    · obtain ⟨R, hR, hact⟩ := due_some hu
      obtain ⟨kvs', b10, r10, l10⟩ := zd rfl cc rfl R hR
      have y10 : Stay H9 H10 := Stay.but b10 (s09 _ _ hr0)
      have yA := (Stay.of s09).trans y10
      refine ⟨_, rfl, _, _, ans_dp h10, ans_dp (y10 _ _ (s89 _ _ hqa) rfl), fA.shaped, fA.shaped, _, rfl, if_not (by rw [fA.same]; rfl) ?_⟩
      have hlr10 : H10 lr = some (.dK kvs2) := b10 _ _ nrl.symm (s09 _ _ hlr)
      have ll10 := ll.mono yA.tups
      obtain ⟨b, hv, cv, hb, hcv⟩ := recs_some ll10 hR
      have q0 := DGet.k (k := Sum.inr D.part) hlr10
      rw [hv] at q0
      have hT10 : H10 ta = some (.tup (D.vals qt)) := y10 _ _ ((s35.trans s89) _ _ hqt) rfl
      refine ⟨_, rfl, rfl, _, rfl, if_yes word_good ?_⟩
      refine ⟨_, rfl, _, rfl, ta, _, 1, .str D.part, rfl, rfl, SqT.of hT10, val_part, lr, _, rfl, q0, ?_⟩
      refine ⟨b, _, rfl, SqT.of hb, rfl, _, _, rfl, _, _, rfl, _, _, rfl, _, _, rfl, rfl, ?_⟩
      refine ⟨_, rfl, _, rfl, _, rfl, _, rfl, by show 4 ≤ sizeLine; decide, fun t nt => ?_⟩
      have st := same_new (o := .tup [.str R.kind, .str R.parent, .int R.rank, nv]) nt
      refine ⟨_, rfl, _, rfl, ta, _, 1, .str D.part, rfl, rfl, SqT.of (st _ _ hT10), val_part, lr, _, rfl, DPut.k (k := Sum.inr D.part) (st _ _ hlr10) (by rw [recs_len ll oL]; decide), ?_⟩
      have yt := Stay.put (r := lr) (o := .dK (putK kvs2 (.inr D.part) (.ref t))) (st _ _ hlr10) rfl
      have yS := (Stay.of st).trans yt
      have yAll := yA.trans yS
      have oL' := oL.put (x := D.part) hR (act_rec (oL.of hR) oD hact)
      have fL' : Fine (putR l D.part { R with cont := cc }) := fL.put (R := { R with cont := cc }) (show Lays R.kind ∧ Lays R.parent from Fine.of fL hR)
      have hN' : ContAt H4 nv cc := hN
      have y4 : Stay H4 H10 := ((Stay.of s5).trans (Stay.of s89)).trans y10
      have rE := (upd_ne (o := .dK (putK kvs2 (.inr D.part) (.ref t))) nrl).trans (st _ _ r10)
      have lE1 := l10.mono yS.tups
      have lE2 := recs_put (x := D.part) (R := { R with cont := cc }) (a := t) (ll10.mono yS.tups) ⟨nv, yt _ _ upd_same rfl, hN'.mono (y4.trans yS).tups⟩
      refine ⟨_, rfl, _, rfl, p, r, lr, kvs', _, _, rfl, yAll.plain hP, rE, lE1, upd_same, lE2, oL', fL', fun H11 s11 => ⟨true, rfl, iteF ?_⟩⟩
      exact ⟨⟨_, _, _, _, _, _, _, _, _, _, _, _, _, rfl⟩, s11 _ _ (yAll _ _ hps rfl), r, _, nrl, oL', fL', kvs', _, (Stay.of s11).plain (yAll.plain hP), s11 _ _ rE, lE1.mono (Tups.of s11), s11 _ _ upd_same, lE2.mono (Tups.of s11)⟩
    · have s10 := zs (.inr hb)
      refine ⟨_, rfl, _, _, ans_dp h10, ans_dp (s10 _ _ (s89 _ _ hqa)), fA.shaped, fA.shaped, _, rfl, if_not (by rw [fA.same]; rfl) ?_⟩
      refine ⟨_, rfl, rfl, _, rfl, if_not (word_bad hb) ?_⟩
      have s010 := s09.trans s10
      refine ⟨_, rfl, _, rfl, p, r, lr, kvs, kvs2, l, rfl, (Stay.of s010).plain hP, s010 _ _ hr0, lr0.mono (Tups.of s010), s010 _ _ hlr, ll.mono (Tups.of s010), oL, fL, fun H11 s11 => ⟨true, rfl, iteF ?_⟩⟩
      have s011 := s010.trans s11
      exact ⟨⟨_, _, _, _, _, _, _, _, _, _, _, _, _, rfl⟩, s011 _ _ hps, r, l, nrl, oL, fL, kvs, kvs2, (Stay.of s011).plain hP, s011 _ _ hr0, lr0.mono (Tups.of s011), s011 _ _ hlr, ll.mono (Tups.of s011)⟩
end
end MK
/-! The end: all that the law calls, the law. -/
namespace MK
open PySem PySem.Spec PyProof.Rows L2
open He (ga ma)
section
variable {P : Program} {w : World} {K : PySem.W.Frag} {mg : Str → Option Value} {base : Heap}
theorem ref_imp {CX : CXT} {k : Nat} {f : Addr} {Z Z' : Deed → Prop} (F : FnR P w K mg base CX k f (spRefuse K Z)) (h : ∀ D, Z' D → Z D) : FnR P w K mg base CX k f (spRefuse K Z') := F.imp fun vs H Q E z => by
  obtain ⟨e, p, r, D, kvs, l, R, ch, hz, rest⟩ := z
  exact ⟨e, p, r, D, kvs, l, R, ch, h D hz, rest⟩
theorem deed_imp {CX : CXT} {k : Nat} {f : Addr} {Z Z' : Deed → Prop} (F : FnR P w K mg base CX k f (spDeed K Z)) (h : ∀ D, Z' D → Z D) : FnR P w K mg base CX k f (spDeed K Z') := F.imp fun vs H Q E z => by
  obtain ⟨e, p, r, D, kvs, l, R, c, hz, rest⟩ := z
  exact ⟨e, p, r, D, kvs, l, R, c, h D hz, rest⟩
theorem calls (c : He.SaysD [] defs K) (T : Txt K mg) : Calls P w K mg base := by
  have whole := ok_whole (P := P) (w := w) (base := base) (c.def_ 0 (d := dfn "is_whole" 13) rfl) T
  have of_ := ok_of (P := P) (w := w) (base := base) (c.def_ 1 (d := dfn "is_of" 14) rfl) T
  have name := ok_name (c.def_ 2 (d := dfn "is_name" 15) rfl) T of_
  have text := ok_text (P := P) (w := w) (base := base) (c.def_ 3 (d := dfn "is_text" 16) rfl) T
  have rank := ok_rank (c.def_ 4 (d := dfn "is_rank" 17) rfl) T whole
  have row := ok_row (c.def_ 5 (d := dfn "is_row" 21) rfl) T text
  have cells := ok_cells (c.def_ 6 (d := dfn "is_cells" 22) rfl) T row
  have cell := ok_cell (P := P) (w := w) (base := base) (c.def_ 7 (d := dfn "_law_cell" 36) rfl) T
  have stream := ok_stream (P := P) (w := w) (base := base) (c.def_ 8 (d := dfn "_law_stream" 37) rfl) T
  have ltext := ok_ltext (c.def_ 9 (d := dfn "_law_text" 38) rfl) T stream
  have ltable := ok_ltable (c.def_ 10 (d := dfn "_law_table" 39) rfl) T stream ltext
  have place := ok_place (P := P) (w := w) (base := base) (c.def_ 11 (d := dfn "_law_place" 41) rfl) T
  have draw := ok_draw (c.def_ 12 (d := dfn "_law_deed" 42) rfl) T stream ltext place
  have err := ok_err (P := P) (w := w) (base := base) (c.def_ 19 (d := dErr) rfl) T
  have made := ok_made (P := P) (w := w) (base := base) (c.def_ 20 (d := dMade) rfl) T
  have parti := ok_parti (c.def_ 23 (d := dPart) rfl) T name
  have about := ok_about (P := P) (w := w) (base := base) (c.def_ 24 (d := dAbout) rfl) T
  have pinit := ok_pinit (P := P) (w := w) (base := base) (c.def_ 49 (d := dme "Plain" "__init__" "Plain.__init__" 34 0 []) rfl) T
  have has := ok_has (P := P) (w := w) (base := base) (c.def_ 50 (d := dme "Plain" "has" "Plain.has" 34 1 []) rfl) T
  have state := ok_state (P := P) (w := w) (base := base) (c.def_ 51 (d := dme "Plain" "state" "Plain.state" 34 2 []) rfl) T
  have kind := ok_kind (c.def_ 52 (d := dme "Plain" "kind_of" "Plain.kind_of" 34 3 []) rfl) T state
  have cont := ok_cont (c.def_ 53 (d := dme "Plain" "content_of" "Plain.content_of" 34 6 []) rfl) T state
  have names := ok_names (P := P) (w := w) (base := base) (c.def_ 54 (d := dme "Plain" "names" "Plain.names" 34 7 []) rfl) T
  have lay := ok_lay (P := P) (w := w) (base := base) (c.def_ 55 (d := dme "Plain" "lay" "Plain.lay" 34 12 []) rfl) T
  have laid := ok_laid (c.def_ 25 (d := dLaid) rfl) T state lay
  -- Write
  have wi := ok_writei (c.def_ 26 (d := dWrite) rfl) T parti text
  have tl1 := ok_told1 (P := P) (w := w) (base := base) (c.def_ 27 (d := dTold "Write" "Write.told" 27) rfl) T
  have rf1 := ok_ref1 (c.def_ 28 (d := dRef "Write" "Write.refuse" 27 2) rfl) T kind err
  have dd1 := ok_deed1 (c.def_ 29 (d := dDeed "Write" "Write.deed" 27 3) rfl) T laid
  -- Splice
  have si := ok_splicei (c.def_ 30 (d := dSplice) rfl) T wi rank
  have tl2 := ok_told2 (P := P) (w := w) (base := base) (c.def_ 31 (d := dTold "Splice" "Splice.told" 28) rfl) T
  have ou2 := ok_out2 (P := P) (w := w) (base := base) (c.def_ 32 (d := dOut "Splice" "Splice.outcome" 28 2) rfl) T
  have rf2 := ok_ref2 (c.def_ 33 (d := dRef "Splice" "Splice.refuse" 28 3) rfl) T kind cont ou2 err
  have dd2 := ok_deed2 (c.def_ 34 (d := dDeed "Splice" "Splice.deed" 28 4) rfl) T laid cont ou2
  -- tables
  have ci := ok_celli (c.def_ 37 (d := dCell) rfl) T parti rank text
  have tl3 := ok_told3 (P := P) (w := w) (base := base) (c.def_ 38 (d := dTold "Cell" "Cell.told" 30) rfl) T
  have fa3 := ok_far3 (P := P) (w := w) (base := base) (c.def_ 39 (d := dFar "Cell" "Cell.is_far" 30) rfl) T
  have ou3 := ok_out3 (P := P) (w := w) (base := base) (c.def_ 40 (d := dOut "Cell" "Cell.outcome" 30 3) rfl) T
  have ai := ok_addi (c.def_ 41 (d := dAdd) rfl) T parti rank cells
  have tl4 := ok_told4 (P := P) (w := w) (base := base) (c.def_ 42 (d := dTold "AddRow" "AddRow.told" 31) rfl) T
  have fa4 := ok_far4 (P := P) (w := w) (base := base) (c.def_ 43 (d := dFar "AddRow" "AddRow.is_far" 31) rfl) T
  have ou4 := ok_out4 (P := P) (w := w) (base := base) (c.def_ 44 (d := dOut "AddRow" "AddRow.outcome" 31 3) rfl) T
  have ki := ok_cuti (c.def_ 45 (d := dCut) rfl) T parti rank
  have tl5 := ok_told5 (P := P) (w := w) (base := base) (c.def_ 46 (d := dTold "CutRow" "CutRow.told" 32) rfl) T
  have fa5 := ok_far5 (P := P) (w := w) (base := base) (c.def_ 47 (d := dFar "CutRow" "CutRow.is_far" 32) rfl) T
  have ou5 := ok_out5 (P := P) (w := w) (base := base) (c.def_ 48 (d := dOut "CutRow" "CutRow.outcome" 32 3) rfl) T
  have GF : ∀ D : Deed, D.isTab → FnR P w K mg base CX0 1 (ma K (ga K D.cls) "is_far") (spFar K D.cls) := fun D h => by
    cases D with
    | write p z => exact h.elim
    | splice p i n z => exact h.elim
    | cell p r c z => exact fa3
    | addrow p i r => exact fa4
    | cutrow p i => exact fa5
  have GO : ∀ D : Deed, D.isTab → FnR P w K mg base CX0 1 (ma K (ga K D.cls) "outcome") (spOut K D.cls) := fun D h => by
    cases D with
    | write p z => exact h.elim
    | splice p i n z => exact h.elim
    | cell p r c z => exact ou3
    | addrow p i r => exact ou4
    | cutrow p i => exact ou5
  have rf3 := ok_ref3 (c.def_ 35 (d := dRef "TableEdit" "TableEdit.refuse" 29 0) rfl) T kind cont GF GO err
  have dd3 := ok_deed3 (c.def_ 36 (d := dDeed "TableEdit" "TableEdit.deed" 29 3) rfl) T laid cont GO
  have GR : ∀ D : Deed, FnR P w K mg base (L2.CX P w) 3 (ma K (ga K D.up) "refuse") (spRefuse K fun D' => D' = D) := fun D => by
    cases D with
    | write p z => exact ref_imp rf1 fun D' h => by rw [h]; rfl
    | splice p i n z => exact ref_imp rf2 fun D' h => by rw [h]; rfl
    | cell p r c z => exact ref_imp rf3 fun D' h => by rw [h]; trivial
    | addrow p i r => exact ref_imp rf3 fun D' h => by rw [h]; trivial
    | cutrow p i => exact ref_imp rf3 fun D' h => by rw [h]; trivial
  have GD : ∀ D : Deed, FnR P w K mg base CX0 3 (ma K (ga K D.up) "deed") (spDeed K fun D' => D' = D) := fun D => by
    cases D with
    | write p z => exact deed_imp dd1 fun D' h => by rw [h]; rfl
    | splice p i n z => exact deed_imp dd2 fun D' h => by rw [h]; rfl
    | cell p r c z => exact deed_imp dd3 fun D' h => by rw [h]; trivial
    | addrow p i r => exact deed_imp dd3 fun D' h => by rw [h]; trivial
    | cutrow p i => exact deed_imp dd3 fun D' h => by rw [h]; trivial
  have need := ok_need (c.def_ 21 (d := dNeed) rfl) T about has GR err
  have on := ok_on (c.def_ 22 (d := dOn) rfl) T need GD
  have rows := ok_rows (P := P) (w := w) (base := base) (c.def_ 14 (d := dfn "_law_rows_due" 44) rfl) T
  exact {
    cell := cell
    text := ltext
    table := ltable
    draw := draw
    made := ok_lmade (c.def_ 13 (d := dfn "_law_made" 43) rfl) T ((ok_writeI wi).mono (by decide)) si ci ai ki
    due := ok_due (c.def_ 15 (d := dfn "_law_due" 45) rfl) T rows
    told := fun asked => ok_told (c.def_ 16 (d := dfn "_law_told" 46) rfl) T need on asked
    so := ok_so (c.def_ 17 (d := dfn "_law_so" 47) rfl) T names state
    lay := lay
    pinit := pinit
    tells := fun D => by
      cases D with
      | write p z => exact tl1
      | splice p i n z => exact tl2
      | cell p r c z => exact tl3
      | addrow p i r => exact tl4
      | cutrow p i => exact tl5
    about := about
    edMade := made }
end
theorem ends {P : Program} {w : World} {K : PySem.W.Frag} {h : Heap} {mg : Str → Option Value} {f : Addr} (X : K.In h) (G : h.Ns mainGlobals mg) (hfa : mg ("law" : Str) = some (.ref f)) (e : factsB K = true) (c : He.SaysD [] defs K) :
    ∃ fd : FuncData, (∀ (s : Shared) (v : Value), BindsTo s fd ⟨[v], []⟩ [("_law_script", v)]) ∧ ∀ base : Heap, K.In base → base.Ns mainGlobals mg → FnOk P w K mg base CX0 8 f fd ["_law_script"] (spLaw K) := by
  have T := txt_of X G e
  obtain ⟨fd, F⟩ := c.def_ 18 (d := dfn "law" 48) rfl
  have eq := hfa.symm.trans (T.g "law")
  cases eq
  have b := FunD.bindsA (ps := ["_law_script"]) F fun _ _ _ _ _ _ us hl => match us, hl with | [_], _ => rfl
  exact ⟨fd, fun s v => b s [v] rfl, fun base _ _ => ok_law F T (calls c T)⟩
end MK
open PySem PySem.W PySem.Calls PyProof.Rows
theorem PySem.Challenge.cw_manyleaf_k24_contents_edited_holds : PySem.Challenge.rw_manyleaf_k24_contents_edited.Holds := by
  w_on; o_law
  refine HandSHeadRun.head_any (r := MK.R) (q := view MK.R.prog [48]) (H := MK.hookX 5) (ob := MK.ob) (M := 8000) (loose := MK.loose) (d := HandSHeadRun.topDef MK.R.prog 48) (kwd := []) MK.ob_eq
    (by kernel_rfl) (fun s => by kernel_rfl) MK.run (by kernel_rfl) (by kernel_rfl) (by kernel_rfl) (by rfl) (by first | assumption | decide +kernel) (by decide +kernel) ⟨rfl, rfl, rfl, rfl, rfl, by decide +kernel⟩ ?hw ?hc
  case hw => w_witness2
  case hc =>
    refine L2.walk_ofE (l := PySem.Challenge.rw_manyleaf_k24_contents_edited) (n := 63) (k := 8) (x := "_law_script") (CX := L2.CX0) rfl (by decide) (by kernel_rfl) ⟨rfl, by decide, by decide⟩ ?F (fun _ _ _ _ z => z)
    intro w mg fa h Y G hmg0
    obtain ⟨K, KX, e, c⟩ := Y
    have hmg : mg ("law" : PySem.Str) = some (.ref fa) := by
      have e : (HandSHeadRun.topDef MK.R.prog 48).name = ("law" : PySem.Str) := by kernel_rfl
      rw [← e]
      exact hmg0
    obtain ⟨fd, hb, hF⟩ := MK.ends (P := (PySem.Challenge.rw_manyleaf_k24_contents_edited).prog) (w := w) KX G hmg e c
    exact ⟨K, fd, MK.spLaw K, KX, hb, fun H a ns hl _ hS => ⟨a, ns, rfl, hS, hl, fun _ => rfl⟩, hF⟩
