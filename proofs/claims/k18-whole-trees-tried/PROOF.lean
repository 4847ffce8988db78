import PyProof.Rows.All
import Wide.All
import OpenK.AllK
import Wide.FinOn
import HandS.ForMost
import HandS.ForExc
import HandS.TryMany
import HandS.ExcBuiltin
import HandS.ExcIs
import HandS.ExcInit
import HandS.ExcSuper
import HandS.HotCalls
import HandS.Property
import HandS.IsInst
import HandS.More
import HandS.Rev
import HandS.FStr
import HandS.Flow
import HandS.Small
import HandS.Lambda
import HandS.Nested
import HandS.CallLocal
import HandS.OwnEq
import HandS.EndTab
import HandS.HeadNt
import HandS.HeadHook4
import HandS.HeadWalk
import HandS.GenList
import HandS.Star
import HandS.Wide
import HandS.Walk
import KE.SortData
import KE.KEqNest
import PySem.Challenge.RW_modesdown_k18_whole_trees_tried
import KE.KWithOwn
import HandS.Finally
import HandS.GenCall
import KE.KOpsOwn
import HandS.RaiseMore
import KE.KUnpackStar
import HandS.TupAny
import HandS.Style
import HandS.Head0
import HandS.Head1
import HandS.Head2
import KE.KStateDown
set_option Elab.async false
set_option linter.all false
set_option maxRecDepth 100000
set_option maxHeartbeats 0
namespace K18
open PySem PySem.Spec PyProof.Rows L2
def top (i : Nat) : Stmt := PySem.Challenge.pw_modesdown_k18_whole_trees_tried.main.body.getD i (.Pass ⟨0, 0, 0, 0⟩)
abbrev s_NoEntry_init : Stmt := inClass (top 9) 0
abbrev s_is_name : Stmt := top 14
abbrev s_is_integer : Stmt := top 15
abbrev s_is_path : Stmt := top 16
abbrev s_names_of : Stmt := top 17
abbrev s_number_of : Stmt := top 22
abbrev s_Mode_init : Stmt := inClass (top 23) 1
abbrev s_Mode_number : Stmt := inClass (top 23) 5
abbrev s_Mode_eq : Stmt := inClass (top 23) 19
abbrev s_size_of : Stmt := top 26
abbrev s_copied : Stmt := top 27
abbrev s_found_below : Stmt := top 28
abbrev s_joined : Stmt := top 29
abbrev s_Entry_init : Stmt := inClass (top 30) 0
abbrev s_Entry_mode : Stmt := inClass (top 30) 1
abbrev s_Entry_set_mode : Stmt := inClass (top 30) 2
abbrev s_Entry_owner : Stmt := inClass (top 30) 3
abbrev s_Entry_group : Stmt := inClass (top 30) 4
abbrev s_Entry_form : Stmt := inClass (top 30) 5
abbrev s_Entry_eq : Stmt := inClass (top 30) 7
abbrev s_Holder_init : Stmt := inClass (top 31) 0
abbrev s_Holder_names : Stmt := inClass (top 31) 1
abbrev s_Holder_put : Stmt := inClass (top 31) 2
abbrev s_Holder_contains : Stmt := inClass (top 31) 3
abbrev s_Holder_getitem : Stmt := inClass (top 31) 4
abbrev s_Folder_init : Stmt := inClass (top 33) 0
abbrev s_TreeTrial_init : Stmt := inClass (top 34) 0
abbrev s_TreeTrial_enter : Stmt := inClass (top 34) 1
abbrev s_TreeTrial_exit : Stmt := inClass (top 34) 2
abbrev s_Tree_init : Stmt := inClass (top 35) 1
abbrev s_Tree_entry : Stmt := inClass (top 35) 3
abbrev s_Tree_entries : Stmt := inClass (top 35) 4
abbrev s_Tree_rows : Stmt := inClass (top 35) 5
abbrev s_Tree_put : Stmt := inClass (top 35) 6
abbrev s_Tree_take_out : Stmt := inClass (top 35) 7
abbrev s_Tree_size : Stmt := inClass (top 35) 9
abbrev s_Tree_trial : Stmt := inClass (top 35) 11
abbrev s_Tree_attempt : Stmt := inClass (top 35) 12
abbrev s_Tree_setitem : Stmt := inClass (top 35) 14
abbrev s_Tree_eq : Stmt := inClass (top 35) 18
abbrev s_law_pen : Stmt := top 37
abbrev s_law_draw : Stmt := top 38
abbrev s_law_pick : Stmt := top 39
abbrev s_law_drawn_mode : Stmt := top 40
abbrev s_law_drawn_rows : Stmt := top 41
abbrev s_law_made_entry : Stmt := top 42
abbrev s_law_made_tree : Stmt := top 43
abbrev s_law_told_rows : Stmt := top 44
abbrev s_law_less : Stmt := top 45
abbrev s_law_one_deed : Stmt := top 46
abbrev s_law_deeds : Stmt := top 47
abbrev s_law_attempt : Stmt := top 48
abbrev s_law : Stmt := top 49
/-! ### callables by their names -/
structure Ca (P : Program) (w : World) (K : PySem.W.Frag) (mg : Str → Option Value) (base : Heap) (CX : CXT) (k : Nat) (x : Str) (sp : Sp) : Prop where
  ex : ∃ (f : Addr) (fd : FuncData) (ps : List Str), FnOk P w K mg base CX k f fd ps sp ∧ mg x = some (.ref f) ∧ PySem.W.keepIn K (.ref f) = true ∧ Binds K fd ps []
structure Me (P : Program) (w : World) (K : PySem.W.Frag) (mg : Str → Option Value) (base : Heap) (CX : CXT) (k : Nat) (C : Addr) (m : Str) (sp : Sp) : Prop where
  ex : ∃ (f : Addr) (fd : FuncData) (ps : List Str), Cls K C ∧ Meth K C m f ∧ FnOk P w K mg base CX k f fd ps sp ∧ Binds K fd ps []
structure Ma (P : Program) (w : World) (K : PySem.W.Frag) (mg : Str → Option Value) (base : Heap) (CX : CXT) (k : Nat) (x : Str) (C : Addr) (sp : Sp) : Prop where
  ex : ∃ (f : Addr) (fd : FuncData) (ps : List Str), Mk K C f ∧ FnOk P w K mg base CX k f fd ps sp ∧ mg x = some (.ref C) ∧ Binds K fd ps []
structure Pr (P : Program) (w : World) (K : PySem.W.Frag) (mg : Str → Option Value) (base : Heap) (k : Nat) (C : Addr) (x : Str) (sp : Sp) : Prop where
  ex : ∃ (p g : Addr) (fd : FuncData) (ps : List Str), Cls K C ∧ PropOf K C x p g ∧ FnOk P w K mg base CX0 k g fd ps sp ∧ Binds K fd ps []
def tCa (sp : Sp) (E : XK) (t : TA) : TE := fun σ H Q => t σ H fun vs H1 => sp vs H1 Q E
def tMe (C : Addr) (m : Str) (sp : Sp) (E : XK) (ta : TE) (t : TA) : TE := fun σ H Q => ta σ H fun x H1 => ∃ a dx fs, x = .ref a ∧ H1 a = some (.ins C dx fs) ∧ fs.lookup m = none ∧ t σ H1 fun vs H2 => sp (x :: vs) H2 Q E
def tMa (C : Addr) (sp : Sp) (E : XK) (t : TA) : TE := fun σ H Q => t σ H fun vs H1 => ∀ x dx, H1 x = none → H1 dx = none → dx ≠ x →
  sp (.ref x :: vs) (upd (upd H1 dx (.own x)) x (.ins C dx [])) (fun v H2 => v = .non ∧ Q (.ref x) H2) E
def tPr (C : Addr) (sp : Sp) (ta : TE) : TE := fun σ H Q => ta σ H fun x H1 => ∃ a dx fs, x = .ref a ∧ H1 a = some (.ins C dx fs) ∧ sp [.ref a] H1 Q E0
theorem pe_imp {X : Cx} {e : Expr} {t u : TE} (h : PE X e t) (k : ∀ σ H Q, u σ H Q → t σ H Q) : PE X e u := ⟨fun pins s σ H Q I q => h.run pins s σ H Q I (k σ H Q q)⟩
section
variable {X : Cx} {CX : CXT} {k j : Nat} {C : Addr} {x m : Str} {sp : Sp} {E : XK} {p pos apos : Pos} {e o : Expr} {es : List Expr} {ta : TE} {t : TA}
theorem app_nil_sp (sp : Sp) (Q : VK) (E : XK) : (fun (vs : List V) (H1 : Hp) => sp (vs ++ []) H1 Q E) = fun vs H1 => sp vs H1 Q E := by
  funext vs H1; rw [List.append_nil]
theorem pe_ca (c : Ca X.prog X.w X.K X.mg X.base CX k x sp) (hr : Room j X.A) (hk : k ≤ j) (hx : Passes CX X E) (hg : Gl X x) (ha : PA X (e :: es) t)
    (hdb : (x == ("__debug__" : Str)) = false := by decide) (he : starEach (e :: es) X.env = (false, eval e X.env) :: starEach es X.env := by rfl) (hpl : (backTo pos (starEach es X.env)).any (·.1) = false := by rfl) :
    PE X (.Call (.Name x p) (e :: es) [] pos) (tCa sp E t) := by
  obtain ⟨f, fd, ps, F, hm, kp, b⟩ := c.ex
  refine pe_imp (pe_call F (hr.mono hk) hg hm kp b .nil hx ha hdb he hpl) fun σ H Q q => ?_
  show t σ H _
  rw [app_nil_sp]
  exact q
theorem pe_me {pl : Sem Bool} (c : Me X.prog X.w X.K X.mg X.base CX k C m sp) (hr : Room j X.A) (hk : k ≤ j) (hx : Passes CX X E) (he : PE X o ta) (ha : PA X (e :: es) t)
    (hst : starEach (e :: es) X.env = (false, eval e X.env) :: starEach es X.env := by rfl) (hpl : (backTo pos (starEach es X.env)).any (·.1) = false := by rfl)
    (ht : eval (.Call (.Attribute o m apos) (e :: es) [] pos) X.env = (do
      let ov ← eval o X.env
      standAt apos.atName
      let (f, first) ← holding [ov] (getMethod ov m pl)
      callWith pos f first (backTo pos (starEach (e :: es) X.env)) (backToKw pos (keywordEach [] X.env))) := by rfl) :
    PE X (.Call (.Attribute o m apos) (e :: es) [] pos) (tMe C m sp E ta t) := by
  obtain ⟨f, fd, ps, hc, hm, F, b⟩ := c.ex
  refine pe_imp (pe_meth (pl := pl) he hc hm F (hr.mono hk) b .nil hx ha hst hpl ht) fun σ H Q q => ?_
  have e1 : (tMe C m sp E ta t) = tMeth C m sp [] E ta t := by
    funext σ H Q
    show (ta σ H fun x H1 => ∃ a dx fs, x = .ref a ∧ H1 a = some (.ins C dx fs) ∧ fs.lookup m = none ∧ t σ H1 fun vs H2 => sp (x :: vs) H2 Q E) = (ta σ H fun x H1 => ∃ a dx fs, x = .ref a ∧ H1 a = some (.ins C dx fs) ∧ fs.lookup m = none ∧ t σ H1 fun vs H2 => sp (x :: (vs ++ [])) H2 Q E)
    simp only [List.append_nil]
  rw [e1] at q
  exact q
theorem pe_me0 {pl : Sem Bool} (c : Me X.prog X.w X.K X.mg X.base CX k C m sp) (hr : Room j X.A) (hk : k ≤ j) (hx : Passes CX X E) (he : PE X o ta)
    (ht : eval (.Call (.Attribute o m apos) [] [] pos) X.env = (do
      let ov ← eval o X.env
      standAt apos.atName
      let (f, first) ← holding [ov] (getMethod ov m pl)
      callWith pos f first (backTo pos (starEach [] X.env)) (backToKw pos (keywordEach [] X.env))) := by rfl) :
    PE X (.Call (.Attribute o m apos) [] [] pos) (tMe C m sp E ta tNil) := by
  obtain ⟨f, fd, ps, hc, hm, F, b⟩ := c.ex
  exact pe_imp (pe_meth0 (pl := pl) he hc hm F (hr.mono hk) b .nil hx ht) fun σ H Q q => q
theorem pe_ma (c : Ma X.prog X.w X.K X.mg X.base CX k x C sp) (hr : Room j X.A) (hk : k + 1 ≤ j) (hx : Passes CX X E) (hg : Gl X x) (ha : PA X (e :: es) t)
    (hdb : (x == ("__debug__" : Str)) = false := by decide) (he : starEach (e :: es) X.env = (false, eval e X.env) :: starEach es X.env := by rfl) (hpl : (backTo pos (starEach es X.env)).any (·.1) = false := by rfl) :
    PE X (.Call (.Name x p) (e :: es) [] pos) (tMa C sp E t) := by
  obtain ⟨f, fd, ps, M, F, hm, b⟩ := c.ex
  refine pe_imp (pe_make M F (hr.mono hk) hg hm b .nil hx ha hdb he hpl) fun σ H Q q => ?_
  have e1 : (tMa C sp E t) = tMake C sp [] E t := by
    funext σ H Q
    show (t σ H fun vs H1 => ∀ x dx, H1 x = none → H1 dx = none → dx ≠ x → sp (.ref x :: vs) (upd (upd H1 dx (.own x)) x (.ins C dx [])) (fun v H2 => v = .non ∧ Q (.ref x) H2) E) = (t σ H fun vs H1 => ∀ x dx, H1 x = none → H1 dx = none → dx ≠ x → sp (.ref x :: (vs ++ [])) (upd (upd H1 dx (.own x)) x (.ins C dx [])) (fun v H2 => v = .non ∧ Q (.ref x) H2) E)
    simp only [List.append_nil]
  rw [e1] at q
  exact q
theorem pe_pr (c : Pr X.prog X.w X.K X.mg X.base k C x sp) (hr : Room j X.A) (hk : k + 1 ≤ j) (he : PE X o ta) (hab : attributeBase o x X.env (eval o X.env) = eval o X.env) :
    PE X (.Attribute o x pos) (tPr C sp ta) := by
  obtain ⟨p, g, fd, ps, hc, hp, F, b⟩ := c.ex
  exact pe_imp (pe_prop he hc hp F (hr.mono hk) b .nil (pass0 (X := X.nox)) hab) fun σ H Q q => q
end
end K18
namespace K18
open PySem PySem.Spec PyProof.Rows L2
/-! ### a def of the module under its name -/
def Dn (K : PySem.W.Frag) (mg : Str → Option Value) (x : Str) (st : Stmt) : Prop := ∃ (f : Addr) (fd : FuncData), Fun K x x st f fd ∧ mg x = some (.ref f)
abbrev BindsOf (x qual : Str) (st : Stmt) (ps : List Str) : Prop := ∀ (kV doc pm : Value) (an : Option Addr) (cdv ct : Value) (us : List Value), us.length = ps.length → bindArgs (PySem.W.fnOf x qual (defArgs st) (defBody st) (defScope st) .none kV doc pm an cdv ct) ⟨us, []⟩ = pure (ps.zip us)
section
variable {P : Program} {w : World} {K : PySem.W.Frag} {mg : Str → Option Value} {base : Heap}
theorem ca_ok {x : Str} {st : Stmt} {N ps : List Str} {k : Nat} {sp : Sp} (D : Dn K mg x st) (S : FnScope N ps (defScope st)) (hb : BindsOf x x st ps) (len : ∀ vs H Q E, sp vs H Q E → vs.length = ps.length)
    (hbody : ∀ (f : Addr) (cdv : Value) (A : Around) (outer : List Env) (s : Shared) (H : Hp) (vs : List V) (Q : VK) (E : XK), Room k (A.deeper (envOfC x (defScope st) s.heap.objs.size f cdv)) → sp vs H Q E →
      ∃ t, PSs (cxOf CX0 P w K mg base N x (defScope st) f cdv A outer s H E).nox (defBody st) t ∧ t { nx := fun _ H' => Q .non H', rt := Q } (start N vs) H) : Ca P w K mg base CX0 (k + 1) x sp := by
  obtain ⟨f, fd, F, hm⟩ := D
  exact ⟨f, fd, ps, F.ok S len (hbody f), hm, F.kp, F.binds hb⟩
theorem ca_okX {x : Str} {st : Stmt} {N ps : List Str} {k : Nat} {sp : Sp} (D : Dn K mg x st) (S : FnScope N ps (defScope st)) (hb : BindsOf x x st ps) (len : ∀ vs H Q E, sp vs H Q E → vs.length = ps.length)
    (hbody : ∀ (f : Addr) (cdv : Value) (A : Around) (outer : List Env) (s : Shared) (H : Hp) (vs : List V) (Q : VK) (E : XK), Room k (A.deeper (envOfC x (defScope st) s.heap.objs.size f cdv)) → sp vs H Q E →
      ∃ t, PSs (cxOf (L2.CX P w) P w K mg base N x (defScope st) f cdv A outer s H E) (defBody st) t ∧ t { nx := fun _ H' => Q .non H', rt := Q } (start N vs) H) : Ca P w K mg base (L2.CX P w) (k + 1) x sp := by
  obtain ⟨f, fd, F, hm⟩ := D
  exact ⟨f, fd, ps, F.okX S len (hbody f), hm, F.kp, F.binds hb⟩
end
/-! ### what the module's names are -/
def letters : Str := "abcdefghijklmnopqrstuvwxyz"
structure Bt (mg : Str → Option Value) : Prop where
  isi : mg "isinstance" = none
  str : mg "str" = none
  int : mg "int" = none
  bool : mg "bool" = none
  len : mg "len" = none
  all : mg "all" = none
  tuple : mg "tuple" = none
  list : mg "list" = none
  sorted : mg "sorted" = none
  sum : mg "sum" = none
  reversed : mg "reversed" = none
  range : mg "range" = none
  abs : mg "abs" = none
  repr : mg "repr" = none
  keyE : mg "KeyError" = none
  super : mg "super" = none
  letters : ∃ t, mg "LETTERS" = some (.str letters t)
  longest : ∃ t, mg "LONGEST_NAME" = some (.int 8 t)
  greatest : ∃ t, mg "GREATEST" = some (.int 511 t)
  most : ∃ t, mg "MOST_ENTRIES" = some (.int 60 t)
/-- a name: 1 to 8 letters -/
def NmOk (z : Str) : Prop := 1 ≤ z.length ∧ z.length ≤ 8 ∧ ∀ c ∈ z.cps.toList, 97 ≤ c ∧ c ≤ 122
theorem letters_all : letters.cps.toList = List.range' 97 26 := by decide +kernel
theorem mem_letters {c : Nat} (h : 97 ≤ c ∧ c ≤ 122) : c ∈ letters.cps.toList := by
  rw [letters_all, List.mem_range'_1]
  omega
theorem small_line {n : Nat} (h : n ≤ 1000000) : n ≤ sizeLine := by rw [sizeLine_eq]; omega
theorem isi_str {K : PySem.W.Frag} : PySem.W.kitOne K (.type "str") (.type "str") = some true := kit_ty (by decide +kernel)
theorem isi_ref {K : PySem.W.Frag} {C D : Addr} : True := trivial
def spIsName : Sp := fun vs H Q _ => ∃ z, vs = [.str z] ∧ NmOk z ∧ ∀ H', Same H H' → Q (.bl true) H'
section
variable {P : Program} {w : World} {K : PySem.W.Frag} {mg : Str → Option Value} {base : Heap}
theorem sc_is_name : FnScope ["thing", "sign"] ["thing"] (defScope s_is_name) := ⟨rfl, rfl, rfl, by decide +kernel, rfl, by decide +kernel, by decide +kernel⟩
theorem ca_is_name (B : Bt mg) (D : Dn K mg "is_name" s_is_name) : Ca P w K mg base CX0 1 "is_name" spIsName := by
  obtain ⟨tL, eL⟩ := B.letters
  obtain ⟨t8, e8⟩ := B.longest
  refine ca_ok D sc_is_name (fun _ _ _ _ _ _ us hl => match us, hl with | [_], _ => rfl) (fun vs H Q E h => ?_) (fun f cdv A outer s H vs Q E hr h => ?_)
  · obtain ⟨z, rfl, _⟩ := h
    rfl
  · obtain ⟨z, rfl, ⟨h1, h8, hc⟩, k⟩ := h
    refine ⟨_, pss_cons (ps_if (PW.pt (pw_or (pt_not (pt_val (pe_callB call_isi rfl B.isi boot_isinstance (pa_cons (pv 0) (pa_cons (pe_bltn (v := .ty "str") rfl B.str boot_str rfl) pa_nil)))))
        (pw_or1 (pt_not (pt_chain op_le op_le pe_int (pe_callB call_len_str rfl B.len boot_len (pa_cons (pv 0) pa_nil)) (pe_glob (v := .int 8) rfl e8 ⟨_, rfl⟩)))))) (pss_one (ps_ret pe_bl)) pss_nil)
      (pss_one (ps_ret (pe_callB (cr_all rfl) rfl B.all boot_all (pa_cons (pe_lc (own := [("sign", 1)]) (g := gName 1) (tt := tYes) rfl sc_is_name.nd (pi_str (pv 0)) (blkOk_by (own := [("sign", 1)]) (N := ["thing", "sign"]) (sc := defScope s_is_name) (by decide +kernel))
        (fun _ _ _ _ _ => pg_name (i := 1) sc_is_name.nd rfl (Or.inl rfl)) (fun _ _ _ _ _ => pts_nil) (fun _ _ _ _ _ => pe_cmpR op_in_sign (pv 1) (pe_glob (v := .str letters) rfl eL ⟨_, rfl⟩) (by rfl))) pa_nil)))), ?_⟩
    refine ⟨_, rfl, .str z, .ty "str", .type "str", .type "str", true, rfl, .ty _, .base (.str z), isi_str, true, rfl, ?_⟩
    refine iteF ⟨_, rfl, z, rfl, small_line (by omega), _, _, rfl, rfl, true, congrArg V.bl (decide_eq_true (show (1 : Int) ≤ (z.length : Int) by omega)), ?_⟩
    refine iteT ⟨_, _, rfl, rfl, true, congrArg V.bl (decide_eq_true (show (z.length : Int) ≤ 8 by omega)), iteF ?_⟩
    refine ⟨_, rfl, z, rfl, fun D hD => ?_⟩
    refine lc_it walk_str (fun i H2 => Same H H2 ∧ H D = none ∧ H2 D = some (.lst ((List.replicate i true).map V.bl))) ⟨?_, hD, upd_same⟩ (fun _ _ _ _ => trivial) ?_ ?_
    · exact fun b o e => by rw [upd_ne (ne_of_none e hD)]; exact e
    · rintro i x H2 H3 hi ⟨s1, d0, d1⟩ ⟨rfl, c, hcc, rfl⟩
      refine ⟨rfl, _, rfl, c, letters, rfl, rfl, _, d1, ?_, ?_, d0, ?_⟩
      · rw [List.length_map, List.length_replicate]
        have : i < z.length := hi
        exact Nat.lt_of_lt_of_le (show i < 9 by omega) (small_line (by decide))
      · exact fun b o e => by rw [upd_ne (ne_of_none e d0)]; exact s1 b o e
      · have hm : c ∈ letters.cps.toList := mem_letters (hc c (Array.mem_toList_iff.mpr (Array.mem_of_getElem? hcc)))
        rw [decide_eq_true hm, upd_same, List.replicate_succ', List.map_append]
        rfl
    · rintro H2 ⟨s1, d0, d1⟩
      refine ⟨D, _, rfl, SqL.of d1, ?_⟩
      have e : (List.replicate z.cps.size true).all id = true := by simp
      rw [e]
      exact k H2 s1
end
/-! ### paths as texts -/
def slash : Str := "/"
theorem tl_slash : TL.tl slash = 47 :: [] := by decide +kernel
theorem len_slash : slash.length = 1 := by decide +kernel
theorem slash_kind : slash.cps.all (· < 256) = true := by decide +kernel
def pj (p : List Str) : Str := Txt.join slash p
theorem pj_nil : pj [] = "" := by
  show Txt.join slash [] = _
  rw [TL.join_eq]
  rfl
theorem pj_one (n : Str) : pj [n] = n := by
  show Txt.join slash [n] = _
  rw [TL.join_eq]
  rfl
theorem NmOk.noslash {z : Str} (h : NmOk z) : 47 ∉ TL.tl z := fun m => by
  have := (h.2.2 47 m).1
  omega
theorem split_pj {p : List Str} (hne : p ≠ []) (h : ∀ n ∈ p, NmOk n) : Txt.split (pj p) slash = p :=
  TL.split_join tl_slash slash_kind hne fun n hn => (h n hn).noslash
theorem joinL_snoc (S : List Nat) (q : List Nat) : ∀ (ps : List (List Nat)), ps ≠ [] → TL.joinL S (ps ++ [q]) = TL.joinL S ps ++ (S ++ q)
  | [], h => absurd rfl h
  | [p], _ => rfl
  | p :: r :: t, _ => by
    show p ++ (S ++ TL.joinL S ((r :: t) ++ [q])) = p ++ (S ++ TL.joinL S (r :: t)) ++ (S ++ q)
    rw [joinL_snoc S q (r :: t) (by simp)]
    simp [List.append_assoc]
theorem pj_snoc {p : List Str} (n : Str) (hne : p ≠ []) : pj (p ++ [n]) = pj p ++ slash ++ n := by
  refine TL.ext_tl ?_
  rw [TL.tl_append, TL.tl_append]
  show TL.tl (Txt.join slash (p ++ [n])) = TL.tl (Txt.join slash p) ++ _ ++ _
  rw [TL.join_eq, TL.join_eq, TL.tl_join, TL.tl_join, List.map_append, List.map_cons, List.map_nil, joinL_snoc _ _ _ (by simpa using hne), List.append_assoc]
theorem joinL_len (S : List Nat) (m : Nat) : ∀ (ps : List (List Nat)), (∀ p ∈ ps, p.length ≤ m) → (TL.joinL S ps).length ≤ (m + S.length) * ps.length
  | [], _ => Nat.zero_le _
  | [p], h => by
    have := h p (List.mem_singleton.mpr rfl)
    show p.length ≤ (m + S.length) * 1
    omega
  | p :: r :: t, h => by
    have h1 := h p List.mem_cons_self
    have ih := joinL_len S m (r :: t) fun q hq => h q (List.mem_cons_of_mem _ hq)
    show (p ++ (S ++ TL.joinL S (r :: t))).length ≤ _
    rw [List.length_append, List.length_append]
    rw [show (p :: r :: t).length = (r :: t).length + 1 from rfl, Nat.mul_succ]
    omega
theorem pj_len {p : List Str} (h : ∀ n ∈ p, NmOk n) : (pj p).length ≤ 9 * p.length := by
  rw [TL.len_tl]
  show (TL.tl (Txt.join slash p)).length ≤ _
  rw [TL.join_eq, TL.tl_join]
  have := joinL_len (TL.tl slash) 8 (p.map TL.tl) fun q hq => by
    obtain ⟨n, hn, rfl⟩ := List.mem_map.mp hq
    have := (h n hn).2.1
    rw [TL.len_tl] at this
    exact this
  rw [List.length_map, tl_slash] at this
  exact this
theorem joinL_pos (S : List Nat) : ∀ (ps : List (List Nat)), ps ≠ [] → (∀ p ∈ ps, 1 ≤ p.length) → 1 ≤ (TL.joinL S ps).length
  | [], h, _ => absurd rfl h
  | [p], _, h => h p (List.mem_singleton.mpr rfl)
  | p :: r :: t, _, h => by
    show 1 ≤ (p ++ (S ++ TL.joinL S (r :: t))).length
    rw [List.length_append]
    have := h p List.mem_cons_self
    omega
theorem pj_ne {p : List Str} (hne : p ≠ []) (h : ∀ n ∈ p, NmOk n) : pj p ≠ "" := fun e => by
  have h1 : 1 ≤ (pj p).length := by
    rw [TL.len_tl]
    show 1 ≤ (TL.tl (Txt.join slash p)).length
    rw [TL.join_eq, TL.tl_join]
    refine joinL_pos _ _ (by simpa using hne) fun q hq => ?_
    obtain ⟨n, hn, rfl⟩ := List.mem_map.mp hq
    have := (h n hn).1
    rw [TL.len_tl] at this
    exact this
  rw [e] at h1
  exact absurd h1 (by decide)
theorem pj_eq_empty {p : List Str} (h : ∀ n ∈ p, NmOk n) : decide (V.str (pj p) = V.str "") = decide (p = []) := by
  by_cases e : p = []
  · subst e
    rw [pj_nil, decide_eq_true rfl, decide_eq_true rfl]
  · rw [decide_eq_false e, decide_eq_false fun z => pj_ne e h (by injection z)]
/-! ### numbers, paths -/
def spIsInt : Sp := fun vs H Q _ => ∃ n lo hi : Int, vs = [.int n, .int lo, .int hi] ∧ lo ≤ n ∧ n ≤ hi ∧ Q (.bl true) H
def spIsPath : Sp := fun vs H Q _ => ∃ p, vs = [.str (pj p)] ∧ (∀ n ∈ p, NmOk n) ∧ p.length ≤ 100 ∧ ∀ H', Same H H' → Q (.bl true) H'
def spNamesOf : Sp := fun vs H Q _ => ∃ p, vs = [.str (pj p)] ∧ (∀ n ∈ p, NmOk n) ∧ p.length ≤ 100 ∧ ∀ a H', Same H H' → H a = none → H' a = some (.tup (p.map V.str)) → Q (.ref a) H'
section
variable {P : Program} {w : World} {K : PySem.W.Frag} {mg : Str → Option Value} {base : Heap}
theorem sc_is_integer : FnScope ["thing", "low", "high"] ["thing", "low", "high"] (defScope s_is_integer) := ⟨rfl, rfl, rfl, by decide +kernel, rfl, by decide +kernel, by decide +kernel⟩
theorem ca_is_integer (B : Bt mg) (D : Dn K mg "is_integer" s_is_integer) : Ca P w K mg base CX0 1 "is_integer" spIsInt := by
  refine ca_ok D sc_is_integer (fun _ _ _ _ _ _ us hl => match us, hl with | [_, _, _], _ => rfl) (fun vs H Q E h => ?_) (fun f cdv A outer s H vs Q E hr h => ?_)
  · obtain ⟨n, lo, hi, rfl, _⟩ := h
    rfl
  · obtain ⟨n, lo, hi, rfl, h1, h2, k⟩ := h
    refine ⟨_, pss_one (ps_ret (pe_and (pe_callB call_isi rfl B.isi boot_isinstance (pa_cons (pv 0) (pa_cons (pe_bltn (v := .ty "int") rfl B.int boot_int rfl) pa_nil)))
      (pe_and (pe_not (pe_callB call_isi rfl B.isi boot_isinstance (pa_cons (pv 0) (pa_cons (pe_bltn (v := .ty "bool") rfl B.bool boot_bool rfl) pa_nil))))
      (pe_one (pe_chain op_le op_le (pv 1) (pv 0) (pv 2)))))), ?_⟩
    refine ⟨_, rfl, .int n, .ty "int", .type "int", .type "int", true, rfl, .ty _, .base (.int n), kit_ty (by decide +kernel), true, rfl, iteT ?_⟩
    refine ⟨_, rfl, .int n, .ty "bool", .type "int", .type "bool", false, rfl, .ty _, .base (.int n), kit_ty (by decide +kernel), false, rfl, true, rfl, iteT ?_⟩
    refine ⟨_, rfl, _, rfl, _, _, rfl, rfl, true, congrArg V.bl (decide_eq_true h1), iteT ⟨_, rfl, _, _, rfl, rfl, ?_⟩⟩
    show Q (V.bl (decide (n ≤ hi))) H
    rw [decide_eq_true h2]
    exact k
theorem sc_is_path : FnScope ["thing", "part"] ["thing"] (defScope s_is_path) := ⟨rfl, rfl, rfl, by decide +kernel, rfl, by decide +kernel, by decide +kernel⟩
theorem ca_is_path (B : Bt mg) (N : Ca P w K mg base CX0 1 "is_name" spIsName) (D : Dn K mg "is_path" s_is_path) : Ca P w K mg base CX0 2 "is_path" spIsPath := by
  refine ca_ok D sc_is_path (fun _ _ _ _ _ _ us hl => match us, hl with | [_], _ => rfl) (fun vs H Q E h => ?_) (fun f cdv A outer s H vs Q E hr h => ?_)
  · obtain ⟨p, rfl, _⟩ := h
    rfl
  · obtain ⟨p, rfl, hp, hl, k⟩ := h
    refine ⟨_, pss_one (ps_ret (pe_and (pe_callB call_isi rfl B.isi boot_isinstance (pa_cons (pv 0) (pa_cons (pe_bltn (v := .ty "str") rfl B.str boot_str rfl) pa_nil)))
      (pe_one (pe_or (pe_cmpR op_eq (pv 0) pe_str (nomark _)) (pe_one (pe_callB (cr_all rfl) rfl B.all boot_all (pa_cons (pe_lc (own := [("part", 1)]) (g := gName 1) (tt := tYes) rfl sc_is_path.nd (pi_list (pe_split (pv 0) pe_str)) (blkOk_by (own := [("part", 1)]) (N := ["thing", "part"]) (sc := defScope s_is_path) (by decide +kernel))
        (fun _ _ _ _ _ => pg_name (i := 1) sc_is_path.nd rfl (Or.inl rfl)) (fun _ _ _ _ _ => pts_nil) (fun _ _ _ _ _ => pe_ca N hr (by decide) pass0 rfl (pa_cons (pv 1) pa_nil))) pa_nil))))))), ?_⟩
    refine ⟨_, rfl, .str (pj p), .ty "str", .type "str", .type "str", true, rfl, .ty _, .base (.str _), isi_str, true, rfl, iteT ?_⟩
    refine ⟨_, rfl, rfl, decide (p = []), congrArg V.bl (pj_eq_empty hp), ?_⟩
    by_cases e : p = []
    · rw [decide_eq_true e]
      exact iteT (k H fun _ _ z => z)
    rw [decide_eq_false e]
    refine iteF ?_
    have hlen := pj_len hp
    refine ⟨_, rfl, ⟨_, rfl⟩, _, _, rfl, rfl, by decide +kernel, small_line (by omega), fun L hL => ?_⟩
    have es : Txt.split (pj p) "/" = p := split_pj e hp
    rw [es]
    refine ⟨L, rfl, ⟨_, SqL.of upd_same⟩, fun D hD => ?_⟩
    have nLD : L ≠ D := ne_of_none upd_same hD
    have hDn : H D = none := by rw [upd_ne (Ne.symm nLD)] at hD; exact hD
    refine lc_it (walk_list (K := K) (a := L) (xs := p.map V.str)) (fun i H2 => Same H H2 ∧ H2 L = some (.lst (p.map V.str)) ∧ H2 D = some (.lst ((List.replicate i true).map V.bl))) ⟨?_, ?_, upd_same⟩ (fun _ _ _ q => SqL.of q.2.1) ?_ ?_
    · exact fun b o e => by rw [upd_ne (ne_of_none e hDn), upd_ne (ne_of_none e hL)]; exact e
    · rw [upd_ne nLD, upd_same]
    · rintro i x H2 H3 hi ⟨s1, l1, d1⟩ ⟨rfl, hx⟩
      rw [List.getElem?_map] at hx
      obtain ⟨n, hn, rfl⟩ := Option.map_eq_some_iff.mp hx
      refine ⟨rfl, _, rfl, n, rfl, hp n (List.mem_of_getElem? hn), fun H4 s4 => ⟨_, s4 _ _ d1, ?_, ?_, ?_, ?_⟩⟩
      · rw [List.length_map, List.length_replicate]
        rw [List.length_map] at hi
        exact Nat.lt_of_lt_of_le (show i < 101 by omega) (small_line (by decide))
      · exact fun b o e => by rw [upd_ne (ne_of_none e hDn)]; exact s4 _ _ (s1 _ _ e)
      · rw [upd_ne nLD]; exact s4 _ _ l1
      · rw [upd_same, List.replicate_succ', List.map_append]
        rfl
    · rintro H2 ⟨s1, l1, d1⟩
      refine ⟨D, _, rfl, SqL.of d1, ?_⟩
      have e : (List.replicate (p.map V.str).length true).all id = true := by simp
      rw [e]
      exact k H2 s1
theorem sc_names_of : FnScope ["path"] ["path"] (defScope s_names_of) := ⟨rfl, rfl, rfl, by decide +kernel, rfl, by decide +kernel, by decide +kernel⟩
theorem ca_names_of (B : Bt mg) (D : Dn K mg "names_of" s_names_of) : Ca P w K mg base CX0 1 "names_of" spNamesOf := by
  refine ca_ok D sc_names_of (fun _ _ _ _ _ _ us hl => match us, hl with | [_], _ => rfl) (fun vs H Q E h => ?_) (fun f cdv A outer s H vs Q E hr h => ?_)
  · obtain ⟨p, rfl, _⟩ := h
    rfl
  · obtain ⟨p, rfl, hp, hl, k⟩ := h
    refine ⟨_, pss_one (ps_ret (pe_ifExp (pt_cmpR op_eq (pv 0) pe_str (nomark _)) (pe_tup pa_nil) (pe_callTy call_tuple_of rfl B.tuple boot_tuple (pa_cons (pe_split (pv 0) pe_str) pa_nil)))), ?_⟩
    refine ⟨_, rfl, rfl, decide (p = []), congrArg V.bl (pj_eq_empty hp), ?_⟩
    by_cases e : p = []
    · rw [decide_eq_true e]
      subst e
      exact iteT ⟨Nat.zero_le _, fun a ha => k a _ (fun b o e => by rw [upd_ne (ne_of_none e ha)]; exact e) ha upd_same⟩
    rw [decide_eq_false e]
    refine iteF ?_
    have hlen := pj_len hp
    refine ⟨_, rfl, ⟨_, rfl⟩, _, _, rfl, rfl, by decide +kernel, small_line (by omega), fun L hL => ?_⟩
    have es : Txt.split (pj p) "/" = p := split_pj e hp
    rw [es]
    refine ⟨L, _, rfl, .inl ⟨SqL.of upd_same, fun a ha => ?_⟩⟩
    have nLa : L ≠ a := ne_of_none upd_same ha
    have han : H a = none := by rw [upd_ne (Ne.symm nLa)] at ha; exact ha
    exact k a _ (fun b o e => by rw [upd_ne (ne_of_none e han), upd_ne (ne_of_none e hL)]; exact e) han upd_same
end
end K18
/-! super().m(..) in a method of the text -/
namespace K18
open PySem PySem.Spec PyProof.Rows L2 NdefX
/-- a method of the text that captures its class's cell -/
structure SFun (K : PySem.W.Frag) (main x qual : Str) (st : Stmt) (f : Addr) (fd : FuncData) (D : Addr) : Prop where
  ex : ∃ (oc : Value) (od : Option Addr) (kV doc pm : Value) (an : Option Addr) (c : Addr) (ct : Value) (osl : Array (Option Value)) (cc : Addr),
    fd = PySem.W.fnX x qual (defArgs st) (defBody st) (defScope st) [("__class__", cc)] .none kV doc pm an (.ref c) ct ∧ K.lookup f = some ⟨oc, od, .func fd, osl⟩ ∧ PySem.W.codeIn K (.ref c) qual = true ∧
    (∃ (ccl : Value) (cdd : Option Addr) (vs : Array Value) (ccs : Array (Option Value)) (file : Str) (tf : Tok), K.lookup c = some ⟨ccl, cdd, .fields vs, ccs⟩ ∧ vs[2]? = some (.str file tf) ∧ (main == file) = true) ∧
    (∃ (cl : Value) (cld : Option Addr) (csl : Array (Option Value)), K.lookup cc = some ⟨cl, cld, .cell (some (.ref D)), csl⟩)
  kp : PySem.W.keepIn K (.ref f) = true
  hD : ∃ cdD, PySem.W.clsIn K D = some cdD
/-- what the running body must be for super() -/
structure SupX (X : Cx) (D : Addr) : Prop where
  ex : ∃ (f c cc : Addr) (fd : FuncData) (ar : Arg) (oc : Value) (od : Option Addr) (osl : Array (Option Value)), X.env.func = some f ∧ X.env.code = .ref c ∧ X.K.lookup f = some ⟨oc, od, .func fd, osl⟩ ∧ (fd.params.posonlyargs ++ fd.params.args).head? = some ar ∧ X.N[0]? = some ar.arg ∧ X.env.scope.names.lookup ar.arg = some .local ∧
    (∃ (ccl : Value) (cdd : Option Addr) (vs : Array Value) (ccs : Array (Option Value)) (file : Str) (tf : Tok), X.K.lookup c = some ⟨ccl, cdd, .fields vs, ccs⟩ ∧ vs[2]? = some (.str file tf) ∧ ((X.prog.main.file : Str) == file) = true) ∧
    X.env.cells.lookup ("__class__" : Str) = some cc ∧ (∃ (cl : Value) (cld : Option Addr) (csl : Array (Option Value)), X.K.lookup cc = some ⟨cl, cld, .cell (some (.ref D)), csl⟩)
  hD : ∃ cdD, PySem.W.clsIn X.K D = some cdD
  ks : X.env.scope.names.lookup ("super" : Str) = some .globalImplicit
  kc : X.env.scope.names.lookup ("__class__" : Str) = some .free
  top : (X.prog.main.scope.names.lookup ("super" : Str)).isSome = false
  mg : X.mg "super" = none
/-- what the class C of the receiver answers above D -/
structure SupM (K : PySem.W.Frag) (C D : Addr) (m : Str) (f2 : Addr) : Prop where
  sub : PySem.W.mroIn K C (.ref D) = some true
  at_ : PySem.W.ks_superIn K C D m = some (some (.ref f2))
  ty : PySem.W.typeIn K (.ref f2) = some (.type "function")
  fn : PySem.W.fnIn K f2 = true
  op : PySem.W.nsIn K cStatics "thirdparty.any" = some none
/-- a block within the body, where the code that runs is the body's -/
structure PSA (X : Cx) (body rest : List Stmt) (t : TS) : Prop where
  run : ∀ (pins : List (Addr × Obj)) (s : Shared) (σ : L2.St) (H : Hp) (D : Ends), Inv X pins σ H s → t D σ H → _root_.PySem.wpAt (model X.prog X.w) X.A (.func body X.env) (execs rest X.env) (SP X pins D) X.xe s
theorem psa_of {X : Cx} {body rest : List Stmt} {t : TS} (h : PSs X rest t) : PSA X body rest t := ⟨fun pins s σ H D I q => wpAt_of_wpAny (h.run pins s σ H D I q)⟩
theorem psa_cons {X : Cx} {body rest : List Stmt} {st : Stmt} {t u : TS} (h1 : ∀ (pins : List (Addr × Obj)) (s : Shared) (σ : L2.St) (H : Hp) (D : Ends), Inv X pins σ H s → t D σ H → _root_.PySem.wpAt (model X.prog X.w) X.A (.func body X.env) (exec st X.env) (SP X pins D) X.xe s) (h2 : PSs X rest u) : PSA X body (st :: rest) (tSeq t u) := by
  refine ⟨fun pins s σ H D I h => ?_⟩
  refine ks_wpAt_execs_cons (ks_wpAt_mono (h1 pins s σ H { D with nx := u D } I h) (fun f s1 q => ?_) fun _ _ x => x)
  cases f with
  | next =>
    obtain ⟨σ', H', I', q⟩ := q
    exact wpAt_of_wpAny (h2.run pins s1 σ' H' D I' q)
  | ret v => exact q
  | brk => exact q
  | cont => exact q
section
variable {X : Cx} {D : Addr} {pins : List (Addr × Obj)} {σ : L2.St} {H : Hp} {s : Shared}
theorem blocal {D : Addr} {cd : ClassData} {K : PySem.W.Frag} {h : Heap} (X : K.In h) (hD : PySem.W.clsIn K D = some cd) : ∃ oD, h.get? D = some oD ∧ oD.data = .cls cd := by
  unfold PySem.W.clsIn at hD
  split at hD
  · rename_i c d cd' sl ho
    cases hD
    exact ⟨_, X _ _ ho, rfl⟩
  · cases hD
theorem boot_super8 : bootBuiltins "super" = some (.type "super") := by kernel_rfl
/-- super() -/
theorem sup_base {body : List Stmt} {p0 p1 : Pos} {attr : Str} {whole : Sem Value} {Q : Value → Shared → Prop} {a C : Addr} (S : SupX X D) (I : Inv X pins σ H s) (h0 : σ[0]? = some (some (.ref a))) (e : ∃ oa od, PySem.W.InstAt s.heap a oa C od) (hsub : PySem.W.mroIn X.K C (.ref D) = some true) (hat : (attr == ("__class__" : Str)) = false)
    (h : ∀ so h', h'.get? so = some (PySem.W.ks_superObj D a C) → (∀ b o, s.heap.get? b = some o → h'.get? b = some o) → s.heap.objs.size ≤ so → Q (.ref so) { s with heap := h' }) :
    _root_.PySem.wpAt (model X.prog X.w) X.A (.func body X.env) (attributeBase (.Call (.Name "super" p0) [] [] p1) attr X.env whole) Q X.xe s := by
  obtain ⟨f, c, cc, fd, ar, oc, od, osl, hfu, hco, lf, hp, hN, hka, ⟨ccl, cdd, vs, ccs, file, tf, lc, hvs, hfile⟩, hcl, ⟨cl, cld, csl, lcc⟩⟩ := S.ex
  obtain ⟨cdD, hcd⟩ := S.hD
  have X1 := I.kIn
  obtain ⟨oD, hD1, hD2⟩ := blocal X1 hcd
  obtain ⟨oa, oda, IA⟩ := e
  obtain ⟨hh, g, d, t, os⟩ := s
  refine ks_wpAt_super_base S.ks S.kc hat hfu (X1 _ _ lf) rfl hp hco (X1 _ _ lc) rfl hvs hfile S.top ?_
  obtain ⟨mb, g1, g2⟩ := I.mod.blt
  refine PySem.W.ks_loadName_global I.ok.kind S.ks (Calls.loadGlobal_builtin (by rw [I.ok.glob]; exact I.mod.glob.keeps I.bk) S.mg (by rw [I.ok.blt]; exact g1.keeps I.bk) ((g2 "super" (by decide)).trans boot_super8) ⟨rfl, ?_⟩)
  refine wpAny_loadName_free I.ok.kind S.kc hcl ⟨_, X1 _ _ lcc, rfl⟩ ?_
  obtain ⟨m, hn, hl⟩ := I.loc
  obtain ⟨u, r, l⟩ := hl 0 ar.arg (.ref a) hN h0 (.inl hka)
  obtain rfl : u = Value.ref a := r
  rcases l with ⟨_, hm⟩ | ⟨hk, _⟩
  · refine wpAny_loadName_local I.ok.kind hka hn hm ?_
    refine ks_wpAny_isType_cls hD1 hD2 ⟨rfl, ?_⟩
    refine ks_wpAny_call_super hD1 hD2 IA.at_ IA.cls (fun c e => ?_) (PySem.W.looks_mroIn X1 hsub) (fun h' e k => ?_)
    · have := IA.no
      unfold PySem.W.notCls at this
      rw [e] at this
      exact Bool.noConfusion this
    · exact h _ h' e k (Nat.le_refl _)
  · have hka' : X.env.kindOf ar.arg = some .local := hka
    rw [hka'] at hk
    rcases hk with hk | hk <;> cases hk
/-- the found method, bound -/
theorem sup_meth {C f2 so a : Addr} {name : Str} {pl : Sem Bool} {Q : Value × List Value → Shared → Prop} (I : Inv X pins σ H s) (hso : s.heap.get? so = some (PySem.W.ks_superObj D a C)) (e : ∃ oa od, PySem.W.InstAt s.heap a oa C od) (M : SupM X.K C D name f2) (hn : (name == ("__class__" : Str)) = false)
    (h : ∀ q s', H q = none → Inv X pins σ (upd H q (.met f2 a)) s' → Q (.ref q, []) s') : wpAny (model X.prog X.w) X.A (getMethod (.ref so) name pl) Q X.xe s := by
  have X1 := I.kIn
  obtain ⟨oa, oda, IA⟩ := e
  obtain ⟨hh, g, d, t, os⟩ := s
  have hm := M.at_
  cases hc : PySem.W.clsIn X.K C with
  | none => unfold PySem.W.ks_superIn at hm; rw [hc] at hm; cases hm
  | some cd =>
    unfold PySem.W.ks_superIn at hm
    rw [hc] at hm
    obtain ⟨of, hof, hofc⟩ : ∃ of, hh.get? f2 = some of ∧ of.cls = .type "function" := by
      have ht' : (X.K.lookup f2).map (·.cls) = some (.type "function") := M.ty
      cases z : X.K.lookup f2 with
      | none => rw [z] at ht'; cases ht'
      | some of => rw [z] at ht'; exact ⟨of, X1 _ _ z, Option.some.inj ht'⟩
    refine ks_wpAny_getMethod_super hso (PySem.W.looks_opaque X1 M.op) (l₀ := cd.mro) ?_ rfl X1 hm hof hofc (PySem.W.ks_ne X1 IA hc) hn ?_
    · exact fun A Q E s k q => wpAny_bind ((PySem.W.looks_clsIn X1 hc) A _ E s k (wpAny_pure q))
    · refine h _ _ (I.hok.fresh (Nat.le_refl _)) ?_
      exact I.laid (s := ⟨hh, g, d, t, os⟩) (t' := t + 1) (a := hh.objs.size) (o := .met f2 a) (fun b u z => Heap.get?_push_of_some _ z) (Nat.le_refl _) (show (hh.push (PySem.W.methodObj (.ref f2) (.ref a))).get? hh.objs.size = some (PySem.W.methodObj (.ref f2) (.ref a)) from Heap.get?_push_size hh rfl)
end
/-- the method that super() finds above D from the class C -/
structure Su (P : Program) (w : World) (K : PySem.W.Frag) (mg : Str → Option Value) (base : Heap) (CX : CXT) (k : Nat) (C D : Addr) (m : Str) (sp : Sp) : Prop where
  ex : ∃ (f : Addr) (fd : FuncData) (ps : List Str), SupM K C D m f ∧ FnOk P w K mg base CX k f fd ps sp ∧ Binds K fd ps []
def tSup (C : Addr) (sp : Sp) (E : XK) (t : TA) : TS := fun De σ H => ∃ a dx fs, σ[0]? = some (some (.ref a)) ∧ H a = some (.ins C dx fs) ∧ ∀ q f2, H q = none → t σ (upd H q (.met f2 a)) fun vs H1 => H1 q = some (.met f2 a) ∧ sp (.ref a :: vs) H1 (fun _ H2 => De.nx σ H2) E
section
variable {X : Cx} {CX : CXT} {k j : Nat} {C D : Addr} {m : Str} {sp : Sp} {E : XK} {p0 p1 pos apos pos' : Pos} {e : Expr} {es : List Expr} {body rest : List Stmt} {t : TA} {u : TS}
theorem inst_of {pins : List (Addr × Obj)} {σ : L2.St} {H : Hp} {s : Shared} {a C dx : Addr} {fs : List (Str × V)} (I : Inv X pins σ H s) (e : H a = some (.ins C dx fs)) : ∃ oa od, PySem.W.InstAt s.heap a oa C od := by
  obtain ⟨mA, O, _⟩ := ins_get I.hok e
  obtain ⟨od, J, _⟩ := O.look
  exact ⟨_, _, J⟩
theorem psa_sup {pl : Sem Bool} (S : SupX X D) (c : Su X.prog X.w X.K X.mg X.base CX k C D m sp) (hr : Room j X.A) (hk : k ≤ j) (hx : Passes CX X E) (ha : PA X (e :: es) t) (h2 : PSs X rest u) (hat : (m == ("__class__" : Str)) = false := by decide)
    (hst : starEach (e :: es) X.env = (false, eval e X.env) :: starEach es X.env := by rfl) (hpl : (backTo pos (starEach es X.env)).any (·.1) = false := by rfl)
    (hsw : swapsWith (.Call (.Attribute (.Call (.Name "super" p0) [] [] p1) m apos) (e :: es) [] pos) none pos'.line X.env = pure false := by rfl)
    (he : eval (.Call (.Attribute (.Call (.Name "super" p0) [] [] p1) m apos) (e :: es) [] pos) X.env = (do
      let ov ← attributeBase (.Call (.Name "super" p0) [] [] p1) m X.env (eval (.Call (.Name "super" p0) [] [] p1) X.env)
      standAt apos.atName
      let (f, first) ← holding [ov] (getMethod ov m pl)
      callWith pos f first (backTo pos (starEach (e :: es) X.env)) []) := by rfl) :
    PSA X body (.Expr (.Call (.Attribute (.Call (.Name "super" p0) [] [] p1) m apos) (e :: es) [] pos) pos' :: rest) (tSeq (tSup C sp E t) u) := by
  obtain ⟨f2, fd, ps, M, F, b⟩ := c.ex
  refine psa_cons (fun pins s σ H De I h => ?_) h2
  obtain ⟨a, dx, fs, h0, ea, q⟩ := h
  refine ks_wpAt_Expr_any (ks_wpAt_MethodCall (pl := pl) ?_ he) I.quiet hsw
  refine sup_base S I h0 (inst_of I ea) M.sub hat fun so h' eso kp _ => ?_
  have I1 : Inv X pins σ H { s with heap := h' } := I.kept (t' := s.toks) kp
  refine sup_meth I1 eso (inst_of I1 ea) M hat fun p s2 hp I2 => ?_
  refine PySem.W.callWith_of (P := PySem.W.MethP X.K p f2 (.ref a)) ?_ (PySem.W.keeps_M M.fn) ?_
  · rw [hst]
    show (((false || (backTo pos (starEach es X.env)).any (·.1))) || false) = false
    rw [hpl]; rfl
  have hrun := ha.run pos pins s2 σ _ _ I2 (q p f2 hp)
  rw [hst] at hrun ⊢
  refine Calls.evalArgs_plain (thn hrun fun us s3 ⟨vs, H3, I3, r, hm, q3⟩ => ⟨met_P I3 hm, ?_⟩)
  refine wpAny_call (call_met I3 hm ?_)
  have r2 : Vals (V.ref a :: vs) (Value.ref a :: us) := .cons rfl r
  have hl : (Value.ref a :: us ++ []).length = ps.length := by
    rw [List.append_nil, ← r2.length]; exact F.len _ _ _ _ q3
  refine codeAny_mono (F.run X.A X.stack s3 H3 ⟨Value.ref a :: us, []⟩ (Value.ref a :: us) (V.ref a :: vs) _ E (hr.mono hk) I3.env0 (by have z := b s3 (Value.ref a :: us) I3.kIn hl; rw [List.append_nil] at z; exact z) r2 q3) fun r s' hq => ?_
  cases r with
  | error e => exact hx pins σ H3 s3 e s' I3 hq
  | ok fl =>
    cases fl with
    | ret u =>
      obtain ⟨v, H', I', _, q'⟩ := I3.after hq
      exact ⟨σ, H', I', q'⟩
    | next => exact False.elim hq
    | brk => exact False.elim hq
    | cont => exact False.elim hq
theorem psa_sup0 {pl : Sem Bool} (S : SupX X D) (c : Su X.prog X.w X.K X.mg X.base CX k C D m sp) (hr : Room j X.A) (hk : k ≤ j) (hx : Passes CX X E) (h2 : PSs X rest u) (hat : (m == ("__class__" : Str)) = false := by decide)
    (hsw : swapsWith (.Call (.Attribute (.Call (.Name "super" p0) [] [] p1) m apos) [] [] pos) none pos'.line X.env = pure false := by rfl)
    (he : eval (.Call (.Attribute (.Call (.Name "super" p0) [] [] p1) m apos) [] [] pos) X.env = (do
      let ov ← attributeBase (.Call (.Name "super" p0) [] [] p1) m X.env (eval (.Call (.Name "super" p0) [] [] p1) X.env)
      standAt apos.atName
      let (f, first) ← holding [ov] (getMethod ov m pl)
      callWith pos f first (backTo pos (starEach [] X.env)) []) := by rfl) :
    PSA X body (.Expr (.Call (.Attribute (.Call (.Name "super" p0) [] [] p1) m apos) [] [] pos) pos' :: rest) (tSeq (tSup C sp E tNil) u) := by
  obtain ⟨f2, fd, ps, M, F, b⟩ := c.ex
  refine psa_cons (fun pins s σ H De I h => ?_) h2
  obtain ⟨a, dx, fs, h0, ea, q⟩ := h
  refine ks_wpAt_Expr_any (ks_wpAt_MethodCall (pl := pl) ?_ he) I.quiet hsw
  refine sup_base S I h0 (inst_of I ea) M.sub hat fun so h' eso kp _ => ?_
  have I1 : Inv X pins σ H { s with heap := h' } := I.kept (t' := s.toks) kp
  refine sup_meth I1 eso (inst_of I1 ea) M hat fun p s2 hp I3 => ?_
  obtain ⟨hm, q3⟩ := q p f2 hp
  refine PySem.W.callWith_M0 (met_P I3 hm) M.fn ?_
  refine wpAny_call (call_met I3 hm ?_)
  have r2 : Vals [V.ref a] [Value.ref a] := .cons rfl .nil
  have hl : ([Value.ref a] ++ []).length = ps.length := by
    rw [List.append_nil, ← r2.length]; exact F.len _ _ _ _ q3
  refine codeAny_mono (F.run X.A X.stack s2 _ ⟨[Value.ref a], []⟩ [Value.ref a] [V.ref a] _ E (hr.mono hk) I3.env0 (by have z := b s2 [Value.ref a] I3.kIn hl; rw [List.append_nil] at z; exact z) r2 q3) fun r s' hq => ?_
  cases r with
  | error e => exact hx pins σ _ s2 e s' I3 hq
  | ok fl =>
    cases fl with
    | ret u =>
      obtain ⟨v, H', I', _, q'⟩ := I3.after hq
      exact ⟨σ, H', I', q'⟩
    | next => exact False.elim hq
    | brk => exact False.elim hq
    | cont => exact False.elim hq
end
/-! ### a body with super() keeps its promise -/
section
variable {P : Program} {w : World} {K : PySem.W.Frag} {mg : Str → Option Value} {base : Heap} {CX : CXT} {x qual : Str} {st : Stmt} {f D : Addr} {fd : FuncData} {N ps : List Str} {k : Nat} {sp : Sp}
abbrev nfS (x qual : Str) (st : Stmt) (c cc : Addr) : NF := ⟨x, qual, defArgs st, defBody st, defScope st, [("__class__", cc)], c⟩
theorem sfn_ok (F : SFun K P.main.file x qual st f fd D) (S : NScope N ps ["__class__"] (defScope st)) (hks : (defScope st).names.lookup ("super" : Str) = some .globalImplicit) (htop : (P.main.scope.names.lookup ("super" : Str)).isSome = false) (hmg : mg "super" = none)
    (hpar : ∃ ar, ((defArgs st).posonlyargs ++ (defArgs st).args).head? = some ar ∧ N[0]? = some ar.arg ∧ (defScope st).names.lookup ar.arg = some .local)
    (len : ∀ vs H Q E, sp vs H Q E → vs.length = ps.length)
    (hbody : ∀ (c cc : Addr) (A : Around) (outer : List Env) (s : Shared) (H : Hp) (vs : List V) (Q : VK) (E : XK), Room k (A.deeper (envF (nfS x qual st c cc) f s.heap.objs.size)) → SupX (ncx CX P w K mg base N (nfS x qual st c cc) f A outer s H E) D → sp vs H Q E →
      ∃ t, PSA (ncx CX P w K mg base N (nfS x qual st c cc) f A outer s H E) (defBody st) (defBody st) t ∧ t { nx := fun _ H' => Q .non H', rt := Q } (startF N vs [some (.ref D)]) H) :
    FnOk P w K mg base CX (k + 1) f fd ps sp := by
  obtain ⟨oc, od, kV, doc, pm, an, c, ct, osl, cc, rfl, lk, hcd, hfile, hcell⟩ := F.ex
  refine ⟨len, fun A outer s H args us vs Q E hr e0 hb r hsp => ?_⟩
  have hl := len _ _ _ _ hsp
  have KX : K.In s.heap := e0.mod.kin.keeps fun b o e => (e0.bs b o e).1
  have lim : s.heap.NoLimit := e0.mod.nolimit.keeps fun b o e => (e0.bs b o e).1
  refine ks_codeAny_call_defAt (body := defBody st) (binds := ps.zip us) hr.depth (KX _ _ lk) rfl lim (PySem.W.codeRec_of KX hcd) rfl hb S.nocell (fun ⟨n, _⟩ hy => S.par n (List.of_mem_zip hy).1) (fun h₁ hns kp => ?_) S.co S.gen S.kind
  show _root_.PySem.wpAt _ (A.deeper (envF (nfS x qual st c cc) f s.heap.objs.size)) (.func (defBody st) (envF (nfS x qual st c cc) f s.heap.objs.size)) (execs (defBody st) (envF (nfS x qual st c cc) f s.heap.objs.size)) _ _ _
  have SX : SupX (ncx CX P w K mg base N (nfS x qual st c cc) f A outer s H E) D := by
    obtain ⟨ar, a1, a2, a3⟩ := hpar
    exact ⟨⟨f, c, cc, _, ar, oc, od, osl, rfl, rfl, lk, a1, a2, a3, hfile, rfl, hcell⟩, F.hD, hks, S.frk _ List.mem_cons_self, htop, hmg⟩
  obtain ⟨t, ht, hq⟩ := hbody c cc A outer s H vs Q E (hr.deeper _) SX hsp
  have C : CellsAt (nfS x qual st c cc).cl ["__class__"] [some (.ref D)] s.heap H := by
    obtain ⟨cl, cld, csl, lcc⟩ := hcell
    have hb1 := e0.bs _ _ (e0.mod.kin _ _ lcc)
    have hcl : ∀ y c', ([(("__class__" : Str), cc)] : List (Str × Addr)).lookup y = some c' → c' = cc ∧ y = "__class__" := fun y c' e => by
      have hm := PySem.mem_of_lookup e
      rcases List.mem_singleton.mp hm with z
      injection z with z1 z2
      exact ⟨z2, z1⟩
    refine ⟨rfl, fun y c' e => ?_, fun y z c' e1 e2 => ?_, fun i y e => ?_⟩
    · obtain ⟨rfl, _⟩ := hcl y c' e
      exact ⟨hb1.2, _, ⟨_, hb1.1, rfl⟩⟩
    · exact (hcl y c' e1).2.trans (hcl z c' e2).2.symm
    · match i, e with
      | 0, e =>
        obtain rfl : ("__class__" : Str) = y := Option.some.inj e
        exact ⟨cc, rfl, fun v ev => ⟨.ref D, by
          obtain rfl : V.ref D = v := Option.some.inj (Option.some.inj ev)
          exact ⟨rfl, ⟨_, hb1.1, rfl⟩⟩⟩⟩
  have I : Inv (ncx CX P w K mg base N (nfS x qual st c cc) f A outer s H E) [] (startF N vs [some (.ref D)]) H { s with heap := h₁, toks := s.toks + (ps.zip us).length } := inv_startN S hr.hd e0 hl r C hns kp
  refine ks_wpAt_mono (ht.run [] _ (startF N vs [some (.ref D)]) H _ I hq) (fun fl s' hs => ?_) fun e s' hs => hs
  have fin : ∀ {σ' : L2.St} {H' : Hp} {v : V} {u : Value}, Inv (ncx CX P w K mg base N (nfS x qual st c cc) f A outer s H E) [] σ' H' s' → L2.RelV v u → Q v H' → CE outer P w H s Q u s' :=
    fun {σ' H' v u} J rv q => ⟨v, H', J.os, J.bare, J.base, J.hok, rv, q⟩
  cases fl with
  | ret u =>
    obtain ⟨v, σ', H', J, rv, q⟩ := hs
    exact fin J rv q
  | next =>
    obtain ⟨σ', H', J, q⟩ := hs
    exact fin (v := V.non) (u := Value.none) J rfl q
  | brk =>
    obtain ⟨_, _, _, q⟩ := hs
    exact False.elim q
  | cont =>
    obtain ⟨_, _, _, q⟩ := hs
    exact False.elim q
end
end K18
/-! super().__init__() that reaches an init of the interpreter's own -/
namespace PySem
namespace K18X
open PySem.W PySem.Calls PyProof.Rows
/-- the wrapper of the interpreter's init id (class T) bound to x -/
abbrev bwI (id : String) (x : Addr) : Obj := { cls := .type "method-wrapper", dict := none, data := .fields #[.builtin id, .ref x], slots := #[] }
structure WdF (id T : String) : Prop where
  ty : typeOf (.builtin id) = pure (.type "wrapper_descriptor")
  nac : (kfb_private% "nameAndClass") (Value.builtin id) = (pure (("__init__" : Str), Value.type T) : Sem (Str × Value))
  got : (kfb_private% "checkInstance") = (kfb_private% "checkInstance")
theorem wd_object : WdF "object.__init__" "object" := ⟨by show builtinType _ = _; rw [builtinType_eq_fast]; kernel_rfl, by kernel_rfl, rfl⟩
theorem wd_ve : WdF "ValueError.__init__" "ValueError" := ⟨by show builtinType _ = _; rw [builtinType_eq_fast]; kernel_rfl, by kernel_rfl, rfl⟩
section
variable {prog : Program} {w : World} {M : Model} {A : Around} {E : Value → Shared → Prop} {h : Heap} {g : Array GenState} {d : Drawn} {t : Nat} {os : OsState} {id T : String}
theorem run_wd {x C : Addr} {P : Fin → Shared → Prop} (wd : WdF id T) (hin : W.Looks M h (isInstance (.ref x) (.type T)) true) (hq : P (.done (.ret (.ref h.objs.size))) ⟨h.push (bwI id x), g, d, t, os⟩) :
    wpAny M A (Builtin.«wrapper_descriptor.__get__» ⟨[.builtin id, .ref x, .ref C], []⟩) P E ⟨h, g, d, t, os⟩ := by
  unfold Builtin.«wrapper_descriptor.__get__»
  refine wpAny_bind (wpAny_of_eq (a := (.builtin id, some (.ref x), some (.ref C))) (by first | rfl | kernel_rfl) ?_)
  show wpAny M A ((kfb_private% "checkInstance") (.builtin id) (.ref x) >>= fun _ => newFields "method-wrapper" [.builtin id, .ref x] >>= fun r => ret r) P E _
  refine wpAny_bind ?_
  show wpAny M A ((kfb_private% "nameAndClass") (.builtin id) >>= _) _ E _
  refine wpAny_bind (wpAny_of_eq wd.nac ?_)
  show wpAny M A (isInstance (.ref x) (.type T) >>= _) _ E _
  refine wpAny_bind (hin.at ?_)
  refine KFB.if_not rfl ?_
  refine wpAny_pure ?_
  exact wpAny_bind (wpAny_newObj_type (wpAny_pure hq))
theorem super_ga {so D x C : Addr} {l₀ l : List Value} {K : Frag} {name : Str} {tk : Tok} {Q : Fin → Shared → Prop} (wd : WdF id T)
    (hso : h.get? so = some { cls := .type "super", dict := none, data := .fields #[.ref D, .ref x, .ref C], slots := #[] }) (hno : W.Looks (model prog w) h (opaqueClassAbove (.ref C)) none)
    (hC : W.Looks (model prog w) h (mroOf (.ref C)) l₀) (hl : (l₀.dropWhile (· != .ref D)).drop 1 = l) (X : K.In h)
    (hf : alongIn K name l = some (some (.builtin id))) (hxC : x ≠ C) (hn : (name == ("__class__" : Str)) = false) (hin : W.Looks (model prog w) h (isInstance (.ref x) (.type T)) true)
    (hq : Q (.done (.ret (.ref h.objs.size))) ⟨h.push (bwI id x), g, d, t, os⟩) :
    wpAny (model prog w) A (Builtin.«super.__getattribute__» ⟨[.ref so, .str name tk], []⟩) Q E ⟨h, g, d, t, os⟩ := by
  have hlk := ESX.slot_wd.lookup
  have hne : (Value.ref x == Value.ref C) = false := by simp [hxC]
  have hTf := wd.ty
  have hTi : Shared.TypeIs ⟨h, g, d, t, os⟩ (.builtin id) "wrapper_descriptor" := wd.ty
  have hdt : ({ cls := .type "super", dict := none, data := .fields #[.ref D, .ref x, .ref C], slots := #[] } : Obj).data = .fields #[.ref D, .ref x, .ref C] := rfl
  have f0 : (#[.ref D, .ref x, .ref C] : Array Value)[0]? = some (.ref D) := rfl
  have f1 : (#[.ref D, .ref x, .ref C] : Array Value)[1]? = some (.ref x) := rfl
  have f2 : (#[.ref D, .ref x, .ref C] : Array Value)[2]? = some (.ref C) := rfl
  unfold Builtin.«super.__getattribute__»
  repeat (first
    | (with_reducible refine wpAny_field hso hdt f0 ?_) | (with_reducible refine wpAny_field hso hdt f1 ?_) | (with_reducible refine wpAny_field hso hdt f2 ?_)
    | (with_reducible refine ks_wpAny_notOpaque hno ?_)
    | (with_reducible refine Looks.at hC ?_; rw [hl])
    | (refine ks_forIn_along X (fun _ _ => rfl) rfl ?_ hf)
    | (with_reducible refine wpAny_call_entry ESX.slot_wd hTi ESX.entry_wd ?_ (ESX.args_wd _ _ _))
    | (with_reducible refine run_wd wd hin ?_)
    | (with_reducible refine ⟨_, rfl, ?_⟩)
    | (simp only [hn, hne, Bool.or_false, Bool.false_eq_true, if_false])
    | wp_step
    | dsimp only)
  all_goals exact hq
theorem getMethod_super {so D x C : Addr} {l₀ l : List Value} {K : Frag} {name : Str} {pl : Sem Bool} {Q : Value × List Value → Shared → Prop} (wd : WdF id T)
    (hso : h.get? so = some { cls := .type "super", dict := none, data := .fields #[.ref D, .ref x, .ref C], slots := #[] }) (hno : W.Looks (model prog w) h (opaqueClassAbove (.ref C)) none)
    (hC : W.Looks (model prog w) h (mroOf (.ref C)) l₀) (hl : (l₀.dropWhile (· != .ref D)).drop 1 = l) (X : K.In h)
    (hf : alongIn K name l = some (some (.builtin id))) (hxC : x ≠ C) (hn : (name == ("__class__" : Str)) = false) (hin : W.Looks (model prog w) h (isInstance (.ref x) (.type T)) true)
    (hq : Q (.ref h.objs.size, []) ⟨h.push (bwI id x), g, d, t + 1, os⟩) :
    wpAny (model prog w) A (getMethod (.ref so) name pl) Q E ⟨h, g, d, t, os⟩ := by
  have hlk := F.ks_slot_super_ga.lookup
  have hcan := F.ks_canon_super_ga
  have hT : ∀ t', (⟨h, g, d, t', os⟩ : Shared).TypeIs (.ref so) "super" := fun _ => ⟨_, hso, rfl⟩
  unfold getMethod
  refine wpAny_bind (wpAny_specialOf (hT _) hlk ?_)
  show wpAny _ _ (if (Manifest.canonical "super.__getattribute__" != "object.__getattribute__") = true then _ else _) _ _ _
  rw [if_pos hcan]
  unfold getAttr getAttrBy
  refine wpAny_bind (wpAny_bind (wpAny_mkText (wpAny_holding (wpAny_bind (wpAny_typeOf (hT _) (wpAny_bind (wpAny_of_eq hlk ?_)))))))
  show wpAny _ _ (getAttrByItsOwn (.ref so) (.str name t) (.type "super") (.builtin "super.__getattribute__") true false) _ _ _
  unfold getAttrByItsOwn hookBefore callGetattribute boundAndCalled
  refine wpAny_bind (wpAny_of_eq (show (if onTheHeap (.type "super") then typeLookup (.type "super") "__getattr__" else pure none) = pure none from rfl) ?_)
  refine wpAny_bind (wpAny_attempt (wpAny_holding ?_))
  show wpAny _ _ (bindSpecial (.builtin "super.__getattribute__") (.ref so) >>= _) _ _ _
  refine wpAny_bind (wpAny_of_eq (F.ks_slot_super_ga.bind _) ?_)
  refine wpAny_mono (Q := fun v s' => v = .ref h.objs.size ∧ s' = ⟨h.push (bwI id x), g, d, t + 1, os⟩) (E := fun _ _ => False)
    (wpAny_call_entry F.ks_slot_super_ga (hT _) F.ks_entry_super_ga (super_ga wd hso hno hC hl X hf hxC hn hin ⟨_, rfl, rfl, rfl⟩) (F.ks_gaArgs_super _ _)) (fun v s' hv => ?_) fun _ _ z => z.elim
  obtain ⟨rfl, rfl⟩ := hv
  exact wpAny_pure (wpAny_pure hq)
end
section
variable {prog : Program} {w : World} {M : Model} {A : Around} {E : Value → Shared → Prop} {s : Shared} {id : String}
theorem callWith_bw {pos : Pos} {u x : Addr} {first : List Value} {args : List (Bool × Sem Value)} {Q : Value → Shared → Prop} (hplain : args.any (·.1) = false)
    (h : wpAny M A (evalArgs (.ref u) true args []) (fun a s₁ => s₁.heap.get? u = some (bwI id x) ∧ wpAny M A (call (.ref u) (first ++ a.pos) a.kw) Q E s₁) E s) : wpAny M A (callWith pos (.ref u) first args []) Q E s := by
  unfold callWith
  refine wpAny_bind (wpAny_holding (wpAny_mono h (fun a s₁ h₁ => wpAny_bind (wpAny_standAt ?_)) fun _ _ x => x))
  obtain ⟨ho, hcall⟩ := h₁
  simp only [hplain, List.any_nil, Bool.or_false]
  refine wpAny_bind (m := keeperOf (.ref u)) ?_
  unfold keeperOf
  refine wpAny_bind (wpAny_load ho ?_)
  simp only [bwI, show (Value.type "method-wrapper" != Value.type "method") = true by decide, show (Value.type "method-wrapper" == Value.type "builtin_function_or_method" || Value.type "method-wrapper" == Value.type "method-wrapper") = true by decide, if_true]
  refine wpAny_pure ?_
  exact wpAny_bind (wpAny_mono hcall (fun r s₂ hr => wpAny_bind (wpAny_holding (wpAny_point (wpAny_pure hr)))) fun _ _ x => x)
end
section
variable {prog : Program} {w : World} {A : Around} {E : Value → Shared → Prop} {h : Heap} {g : Array GenState} {d : Drawn} {t : Nat} {os : OsState}
theorem entry_oi : entryFor table "object.__init__" = some Builtin.«object.__init__» := entryFor_of_tree (by kernel_rfl)
theorem plain_oi : plainId "object.__init__" = true := by decide +kernel
/-- object.__init__ bound to an instance of a class of the text, called without arguments -/
theorem call_bw_object {u e C : Addr} {oe : Obj} {Q : Value → Shared → Prop} (he : h.get? e = some oe) (hcls : oe.cls = .ref C) (hu : h.get? u = some (bwI "object.__init__" e))
    (hch : ∀ Q' : Unit → Shared → Prop, Q' () ⟨h, g, d, t, os⟩ → wpAny (model prog w) A.in1 (checkBoundCall "object.__init__" ⟨[.ref e], []⟩) Q' E ⟨h, g, d, t, os⟩)
    (hq : Q .none ⟨h, g, d, t, os⟩) :
    wpAny (model prog w) A (call (.ref u) []) Q E ⟨h, g, d, t, os⟩ := by
  refine wpAny_call (codeAny_of_tree ?_)
  show wpAny _ A.in1 (callAny (.ref u) ⟨[], []⟩) _ _ _
  simp only [callAny]
  refine wpAny_bind (wpAny_load hu ?_)
  simp only [bwI, show (Value.type "method-wrapper" == Value.type "method" || Value.type "method-wrapper" == Value.type "builtin_function_or_method" || Value.type "method-wrapper" == Value.type "method-wrapper") = true by decide, if_true]
  refine W.KFB.if_so (by decide) ?_
  refine wpAny_bind (hch _ ?_)
  refine wpAny_bind (wpAny_pure (wpAny_pure ?_))
  refine ⟨Code.quiet_builtin _ (by decide +kernel), codeAny_builtin entry_oi ?_⟩
  rw [Around.under_plainId plain_oi _]
  unfold Builtin.«object.__init__»
  exact wpAny_pure hq
end
section
variable {M : Model} {A : Around} {E : Value → Shared → Prop} {s : Shared}
theorem check_oi {e : Addr} {Q : Unit → Shared → Prop} (hq : Q () s) : wpAny M A (checkBoundCall "object.__init__" ⟨[.ref e], []⟩) Q E s := by
  refine wpAny_of_eq (a := ()) ?_ hq
  kernel_rfl
end
end K18X
end PySem
namespace K18
open PySem PySem.Spec PyProof.Rows L2 NdefX
/-- what the class C of the receiver answers above D: an init of the interpreter's own -/
structure SupB (K : PySem.W.Frag) (C D : Addr) (id T : String) : Prop where
  sub : PySem.W.mroIn K C (.ref D) = some true
  at_ : PySem.W.ks_superIn K C D "__init__" = some (some (.builtin id))
  ins : PySem.W.mroIn K C (.type T) = some true
  op : PySem.W.nsIn K cStatics "thirdparty.any" = some none
section
variable {X : Cx} {D : Addr} {pins : List (Addr × Obj)} {σ : L2.St} {H : Hp} {s : Shared} {id T : String}
theorem sup_bw {C so a : Addr} {pl : Sem Bool} {Q : Value × List Value → Shared → Prop} (wd : K18X.WdF id T) (I : Inv X pins σ H s) (hso : s.heap.get? so = some (PySem.W.ks_superObj D a C)) (e : ∃ oa od, PySem.W.InstAt s.heap a oa C od) (M : SupB X.K C D id T)
    (h : ∀ q s', s'.heap.get? q = some (K18X.bwI id a) → Inv X pins σ H s' → Q (.ref q, []) s') : wpAny (model X.prog X.w) X.A (getMethod (.ref so) "__init__" pl) Q X.xe s := by
  have X1 := I.kIn
  obtain ⟨oa, oda, IA⟩ := e
  obtain ⟨hh, g, d, t, os⟩ := s
  have hm := M.at_
  cases hc : PySem.W.clsIn X.K C with
  | none => unfold PySem.W.ks_superIn at hm; rw [hc] at hm; cases hm
  | some cd =>
    unfold PySem.W.ks_superIn at hm
    rw [hc] at hm
    refine K18X.getMethod_super wd hso (PySem.W.looks_opaque X1 M.op) (l₀ := cd.mro) ?_ rfl X1 hm (PySem.W.ks_ne X1 IA hc) (by decide) (IA.type.andThen (PySem.W.looks_mroIn X1 M.ins)) ?_
    · exact fun A Q E s k q => wpAny_bind ((PySem.W.looks_clsIn X1 hc) A _ E s k (wpAny_pure q))
    · exact h _ _ (Heap.get?_push_size hh rfl) (I.kept (t' := t + 1) fun b u z => Heap.get?_push_of_some _ z)
end
/-- super().__init__() where it is object.__init__ -/
def tSupO (C : Addr) : TS := fun De σ H => ∃ a dx fs, σ[0]? = some (some (.ref a)) ∧ H a = some (.ins C dx fs) ∧ De.nx σ H
/-- super().__init__(e) of an exception that is made: ValueError.__init__ -/
def tSupV (C : Addr) (t : TE) : TS := fun De σ H => ∃ a, σ[0]? = some (some (.ref a)) ∧ H a = some (exo a C none) ∧ t σ H fun _ H1 => H1 = H ∧ De.nx σ H1
section
variable {X : Cx} {C D : Addr} {p0 p1 pos apos pos' : Pos} {body rest : List Stmt} {u : TS}
theorem psa_supO {pl : Sem Bool} (S : SupX X D) (M : SupB X.K C D "object.__init__" "object") (h2 : PSs X rest u)
    (hsw : swapsWith (.Call (.Attribute (.Call (.Name "super" p0) [] [] p1) "__init__" apos) [] [] pos) none pos'.line X.env = pure false := by rfl)
    (he : eval (.Call (.Attribute (.Call (.Name "super" p0) [] [] p1) "__init__" apos) [] [] pos) X.env = (do
      let ov ← attributeBase (.Call (.Name "super" p0) [] [] p1) "__init__" X.env (eval (.Call (.Name "super" p0) [] [] p1) X.env)
      standAt apos.atName
      let (f, first) ← holding [ov] (getMethod ov "__init__" pl)
      callWith pos f first (backTo pos (starEach [] X.env)) []) := by rfl) :
    PSA X body (.Expr (.Call (.Attribute (.Call (.Name "super" p0) [] [] p1) "__init__" apos) [] [] pos) pos' :: rest) (tSeq (tSupO C) u) := by
  refine psa_cons (fun pins s σ H De I h => ?_) h2
  obtain ⟨a, dx, fs, h0, ea, q⟩ := h
  refine ks_wpAt_Expr_any (ks_wpAt_MethodCall (pl := pl) ?_ he) I.quiet hsw
  refine sup_base S I h0 (inst_of I ea) M.sub (by decide) fun so h' eso kp _ => ?_
  have I1 : Inv X pins σ H { s with heap := h' } := I.kept (t' := s.toks) kp
  refine sup_bw K18X.wd_object I1 eso (inst_of I1 ea) M fun p s2 hp I3 => ?_
  refine K18X.callWith_bw (id := "object.__init__") (x := a) rfl ?_
  refine PyProof.Rows.evalArgs_nil3 ⟨hp, ?_⟩
  obtain ⟨mA, O, _⟩ := ins_get I3.hok ea
  obtain ⟨od, J, _⟩ := O.look
  exact K18X.call_bw_object J.at_ J.cls hp (fun Q' q' => K18X.check_oi q') ⟨σ, H, I3, q⟩
theorem exo_inst {pins : List (Addr × Obj)} {σ : L2.St} {H : Hp} {s : Shared} {a C : Addr} (I : Inv X pins σ H s) (e : H a = some (exo a C none)) : ∃ oa od, PySem.W.InstAt s.heap a oa C od := by
  obtain ⟨t1, ho⟩ := exo_at I.hok e
  exact ⟨_, none, ⟨ho, rfl, rfl, True.intro⟩⟩
theorem plain_vi : plainId "ValueError.__init__" = true := by decide +kernel
theorem psa_supV {pl : Sem Bool} {x : Str} {j : Nat} {p2 : Pos} (S : SupX X D) (M : SupB X.K C D "ValueError.__init__" "ValueError") (OC : OexC X.K C) (h2 : PSs X rest u)
    (hsw : swapsWith (.Call (.Attribute (.Call (.Name "super" p0) [] [] p1) "__init__" apos) [.Constant (.str x) j p2] [] pos) none pos'.line X.env = pure false := by rfl)
    (he : eval (.Call (.Attribute (.Call (.Name "super" p0) [] [] p1) "__init__" apos) [.Constant (.str x) j p2] [] pos) X.env = (do
      let ov ← attributeBase (.Call (.Name "super" p0) [] [] p1) "__init__" X.env (eval (.Call (.Name "super" p0) [] [] p1) X.env)
      standAt apos.atName
      let (f, first) ← holding [ov] (getMethod ov "__init__" pl)
      callWith pos f first (backTo pos (starEach [.Constant (.str x) j p2] X.env)) []) := by rfl) :
    PSA X body (.Expr (.Call (.Attribute (.Call (.Name "super" p0) [] [] p1) "__init__" apos) [.Constant (.str x) j p2] [] pos) pos' :: rest) (tSeq (tSupV C (tC (.str x))) u) := by
  refine psa_cons (fun pins s σ H De I h => ?_) h2
  obtain ⟨a, h0, ea, _, q⟩ := h
  refine ks_wpAt_Expr_any (ks_wpAt_MethodCall (pl := pl) ?_ he) I.quiet hsw
  refine sup_base S I h0 (exo_inst I ea) M.sub (by decide) fun so h' eso kp _ => ?_
  have I1 : Inv X pins σ H { s with heap := h' } := I.kept (t' := s.toks) kp
  refine sup_bw K18X.wd_ve I1 eso (exo_inst I1 ea) M fun p s2 hp I3 => ?_
  refine K18X.callWith_bw (id := "ValueError.__init__") (x := a) rfl ?_
  show wpAny _ _ (evalArgs _ true ((false, eval (.Constant (.str x) j p2) X.env) :: []) []) _ _ _
  refine Calls.evalArgs_plain (Calls.spliced_cons ?_)
  refine Calls.Constant_str ?_
  refine Calls.spliced_nil ⟨hp, ?_⟩
  have I4 := I3.tok (s2.toks + 1)
  obtain ⟨nm, q1, N, bs, bm, sn, sub, ab, col, dd, k0, k1, k2, k3, k5, hC, hbm⟩ := OC.cls
  obtain ⟨t1, ho⟩ := exo_at I4.hok ea
  obtain ⟨hh, g, d, t, os⟩ := s2
  refine wpAny_call (codeAny_of_tree ?_)
  show wpAny _ X.A.in1 (callAny (.ref p) ⟨[.str x t], []⟩) _ _ _
  simp only [callAny]
  refine wpAny_bind (wpAny_load hp ?_)
  simp only [K18X.bwI, show (Value.type "method-wrapper" == Value.type "method" || Value.type "method-wrapper" == Value.type "builtin_function_or_method" || Value.type "method-wrapper" == Value.type "method-wrapper") = true by decide, if_true]
  refine PySem.W.KFB.if_so (by decide) ?_
  refine wpAny_bind (ESX.check_bound F.excBase_ValueError (I4.kIn _ _ hC) ho rfl ?_)
  refine wpAny_bind (wpAny_pure (wpAny_pure ?_))
  refine ⟨Code.quiet_builtin _ (by decide +kernel), codeAny_builtin F.excBase_ValueError.initEntry ?_⟩
  rw [Around.under_plainId F.excBase_ValueError.init.plain _]
  have fin : ∀ h' t2 tk, (∀ b o, b ≠ a → hh.get? b = some o → h'.get? b = some o) → h'.get? a = some (HandSPX.excO C t2) → Inv X pins σ H ⟨h', g, d, tk, os⟩ := fun h' t2 tk k hx => by
    have J := I4.write (t' := tk) (x := a) (e := a) (o := exo a C none) (by rw [ea]; exact True.intro) (.inl rfl) k ⟨_, hx⟩ (exo_ok hx)
    have eu : upd H a (exo a C none) = H := by
      funext b
      by_cases hb : b = a
      · rw [hb, upd_same, ea]
      · rw [upd_ne hb]
    rw [eu] at J
    exact J
  have go : ∀ h' t1, (∀ b o, b ≠ a → hh.get? b = some o → h'.get? b = some o) → h'.get? a = some (HandSPX.excO C t1) → ∀ tk, SP X pins De .next ⟨h', g, d, tk, os⟩ := fun h' t2 k hx tk => ⟨σ, H, fin h' t2 tk k hx, q⟩
  wp_walk
  refine go _ hh.objs.size (fun b o hb ho => ?_) ?_ _
  · rw [Heap.get?_update_other _ _ (Ne.symm hb)]
    exact Heap.get?_push_of_some _ ho
  · rw [Heap.get?_update_self _ (Heap.get?_push_of_some _ ho) rfl]
    rfl
end
end K18
/-! with cm as y: body, where the body may raise; cm's __exit__ lets the exception on -/
namespace K18
open PySem PySem.Spec PyProof.Rows L2
/-! ### a def that may be called while an exception is handled: it neither raises nor ends a range -/
abbrev RoomH := L2H.RoomH
structure FnQ (P : Program) (w : World) (K : PySem.W.Frag) (mg : Str → Option Value) (base : Heap) (k : Nat) (f : Addr) (fd : FuncData) (ps : List Str) (sp : Sp) : Prop where
  len : ∀ vs H Q E, sp vs H Q E → vs.length = ps.length
  run : ∀ (A : Around) (outer : List Env) (s : Shared) (H : Hp) (args : Args) (us : List Value) (vs : List V) (Q : VK) (E : XK), RoomH k A → Env0 P w K mg base A outer s H → BindsTo s fd args (ps.zip us) → Vals vs us → sp vs H Q E →
    codeAny (model P w) A (.call (.ref f) args) (CR CX0 outer P w H s Q E) s
def cxQ (P : Program) (w : World) (K : PySem.W.Frag) (mg : Str → Option Value) (base : Heap) (N : List Str) (qual : Str) (scope : Scope) (f : Addr) (cd : Value) (A : Around) (outer : List Env) (s : Shared) (H : Hp) (E : XK) : Cx :=
  { (cxOf CX0 P w K mg base N qual scope f cd A outer s H E) with calm := false, xe := fun _ _ => False }
section
variable {P : Program} {w : World} {K : PySem.W.Frag} {mg : Str → Option Value} {base : Heap} {N ps : List Str}
theorem fnq_ok {x qual : Str} {st : Stmt} {f : Addr} {fd : FuncData} {k : Nat} {sp : Sp} (F : Fun K x qual st f fd) (S : FnScope N ps (defScope st)) (len : ∀ vs H Q E, sp vs H Q E → vs.length = ps.length)
    (hbody : ∀ (cdv : Value) (A : Around) (outer : List Env) (s : Shared) (H : Hp) (vs : List V) (Q : VK) (E : XK), sp vs H Q E →
      ∃ t, PSs (cxQ P w K mg base N qual (defScope st) f cdv A outer s H E) (defBody st) t ∧ t { nx := fun _ H' => Q .non H', rt := Q } (start N vs) H) :
    FnQ P w K mg base (k + 1) f fd ps sp := by
  obtain ⟨oc, od, kV, doc, pm, an, cdv, ct, osl, rfl, lk, hcd⟩ := F.ex
  refine ⟨len, fun A outer s H args us vs Q E hr e0 hb r hsp => ?_⟩
  have hl := len _ _ _ _ hsp
  have KX : K.In s.heap := e0.mod.kin.keeps fun b o e => (e0.bs b o e).1
  have lim : s.heap.NoLimit := e0.mod.nolimit.keeps fun b o e => (e0.bs b o e).1
  have hkind : ∀ y ∈ ps.zip us, (defScope st).names.lookup y.1 = some .local ∨ ((defScope st).names.lookup y.1 = some .cell ∧ ((cellsFrom (s.heap.objs.size + 1) (defScope st).names []).lookup y.1).isSome = true) := fun ⟨n, v⟩ hy => by
    rcases S.par n (List.of_mem_zip hy).1 with q | q
    · exact .inl q
    · exact .inr ⟨q, PySem.W.cellsFrom_some _ _ _ (.inl q)⟩
  refine codeAny_call_function hr.depth (KX _ _ lk) rfl S.co S.gen rfl (PySem.W.codeRec_of KX hcd) (hb _ _ _ _ ?_)
  refine wpAny_newFunctionEnv_cells S.kind hkind fun env he s1 x => ?_
  subst he
  refine ⟨lim.keeps x.toInCall.keep, codeAny_func ?_⟩
  obtain ⟨t, ht, hq⟩ := hbody cdv A outer s H vs Q E hsp
  have e1 : Env0 P w K mg base { A with handled := none } outer s H := ⟨e0.frames, e0.mod, e0.bs, e0.bsz, e0.funs, e0.frf, e0.hok, e0.bare⟩
  have I0 : Inv (cxOf CX0 P w K mg base N qual (defScope st) f cdv { A with handled := none } outer s H E) [] (start N vs) H s1 := inv_start S rfl e1 hl r x
  have I : Inv (cxQ P w K mg base N qual (defScope st) f cdv A outer s H E) [] (start N vs) H s1 :=
    ⟨⟨I0.ok.mod, I0.ok.kind, I0.ok.glob, I0.ok.blt, I0.ok.above, I0.ok.inj, I0.ok.has, I0.ok.cab, fun z => Bool.noConfusion (show false = true from z), Around.frames_deeper e0.frames, I0.ok.stk, I0.ok.exf, I0.ok.bs, I0.ok.bsz, I0.ok.noex, I0.ok.exfs, I0.ok.funs, I0.ok.frf⟩,
      I0.os, I0.bare, I0.base, I0.loc, I0.cell, I0.free, I0.freeC, I0.pin, I0.hok, I0.len⟩
  refine wpAny_mono (ht.run [] s1 (start N vs) H _ I hq) (fun fl s' hs => ?_) fun e s' hs => False.elim hs
  have fin : ∀ {σ' : L2.St} {H' : Hp} {v : V} {u : Value}, Inv (cxQ P w K mg base N qual (defScope st) f cdv A outer s H E) [] σ' H' s' → RelV v u → Q v H' → CE outer P w H s Q u s' :=
    fun {σ' H' v u} J rv q => ⟨v, H', J.os, J.bare, J.base, J.hok, rv, q⟩
  cases fl with
  | ret u =>
    obtain ⟨v, σ', H', J, rv, q⟩ := hs
    exact fin J rv q
  | next =>
    obtain ⟨σ', H', J, q⟩ := hs
    exact fin (v := V.non) (u := Value.none) J rfl q
  | brk =>
    obtain ⟨_, _, _, q⟩ := hs
    exact False.elim q
  | cont =>
    obtain ⟨_, _, _, q⟩ := hs
    exact False.elim q
end
end K18
namespace PySem.W
open PySem PySem.Calls PyProof.Rows
section
variable {prog : Program} {w : World} {M : Model} {A : Around} {E : Value → Shared → Prop} {s : Shared} {env : Env} {K : Frag} {x C fe fx : Addr} {ox : Obj} {od : Option Obj} {pos : Pos}
/-- with, where the body may raise: X1 is what is wanted where the body's exception arrives -/
theorem kx_core {b : Value → Sem Unit} {bdy : Sem Flow} {Q : Flow → Shared → Prop} {X1 : Value → Shared → Prop} (X : K.In s.heap) (I : InstAt s.heap x ox C od) (he : findIn K (.ref C) "__enter__" = some (some (.ref fe))) (hfe : isFn K (.ref fe) = true) (hx : findIn K (.ref C) "__exit__" = some (some (.ref fx))) (hfx : isFn K (.ref fx) = true)
    (h : wpAny (model prog w) A (call (.ref fe) [.ref x]) (fun v s₂ => wpAny (model prog w) A (b v) (fun _ s₃ => wpAny (model prog w) A bdy (fun f s₄ => wpAny (model prog w) A (call (.ref fx) [.ref x, .none, .none, .none]) (fun _ s₅ => Q f s₅) E s₄) X1 s₃) X1 s₂) E s)
    (hX : ∀ e s', X1 e s' → wpAny (model prog w) A (noteFrame e env) (fun _ s₂ => wpAny (model prog w) A (setFlight e none) (fun _ s₃ => wpAny (model prog w) A (typeOf e) (fun te s₄ => wpAny (model prog w) A (tracebackOf e) (fun tb s₅ =>
      wpAny (model prog w) A (run (.call (.ref fx) ⟨[.ref x, te, e, tb], []⟩) (some e)) (fun fl s₆ => fl = .ret .none ∧ wpAny (model prog w) A (passOn "with" e env) Q E s₆) E s₅) E s₄) E s₃) E s₂) E s') :
    wpAny (model prog w) A (withItem false pos env (pure (.ref x)) (some b) bdy) Q E s := by
  obtain ⟨cd, hcd, ae⟩ := kw_along he
  obtain ⟨cd', hcd', ax⟩ := kw_along hx
  cases hcd.symm.trans hcd'
  obtain ⟨hh, g, d, tt, os⟩ := s
  have L1 : Looks (model prog w) hh (specialOnItsLine (.ref x) "__enter__") (some (.ref fe), cd.mro) := kw_special X I hcd ae
  have L2 : Looks (model prog w) hh (specialOnItsLine (.ref x) "__exit__") (some (.ref fx), cd.mro) := kw_special X I hcd ax
  have L3 : Looks (model prog w) hh (bindSpecial (.ref fe) (.ref x)) (.ref fe, [.ref x]) := bind_fn X _ (beq_iff_eq.mp hfe)
  have L4 : Looks (model prog w) hh (bindSpecial (.ref fx) (.ref x)) (.ref fx, [.ref x]) := bind_fn X _ (beq_iff_eq.mp hfx)
  have L5 : Looks (model prog w) hh (aMethodOfAnotherBuiltinTypeStops (.ref fe) cd.mro) () := Looks.of_pure rfl
  have L6 : Looks (model prog w) hh (aMethodOfAnotherBuiltinTypeStops (.ref fx) cd.mro) () := Looks.of_pure rfl
  unfold withItem
  refine wpAny_bind (wpAny_pure ?_)
  refine wpAny_bind (wpAny_standAt ?_)
  simp only [Bool.false_eq_true, if_false]
  (repeat ((fail_if_success (with_reducible show wpAny _ _ (call _ _) _ _ _)); (fail_if_success (with_reducible show wpAny _ _ (Sem.attempt _) _ _ _)); first | with_reducible refine wpAny_standAt ?_ | lk))
  refine wpAny_mono h (fun v s₂ h₂ => ?_) fun _ _ z => z
  (repeat ((fail_if_success (with_reducible show wpAny _ _ (call _ _) _ _ _)); (fail_if_success (with_reducible show wpAny _ _ (Sem.attempt _) _ _ _)); first | with_reducible refine wpAny_standAt ?_ | lk))
  refine wpAny_attempt (kw_held ?_)
  show wpAny _ _ (b v >>= fun _ => bdy) _ _ _
  have hErr : ∀ e s', X1 e s' → wpAny (model prog w) A (do
      noteFrame e env
      setFlight e none
      standAt pos
      holding [e] do
        let te ← typeOf e
        let tb ← tracebackOf e
        let r ← withItem.marked e (.call (.ref fx) ⟨[.ref x] ++ [te, e, tb], []⟩)
        let swallow ← match r with
          | .none => pure false
          | .bool b => pure b
          | _ => do pure ((← withItem.marked e (.call (.type "bool") ⟨[r], []⟩)) == .bool true)
        if swallow then rule "with.exit-swallows"; setFlight e none; pure .next else passOn "with" e env) Q E s' := fun e s' z => by
    refine wpAny_bind (wpAny_mono (hX e s' z) (fun _ s3 h3 => ?_) fun _ _ z => z)
    refine wpAny_bind (wpAny_mono h3 (fun _ s4 h4 => ?_) fun _ _ z => z)
    refine wpAny_bind (wpAny_standAt (wpAny_holding ?_))
    refine wpAny_bind (wpAny_mono h4 (fun te s5 h5 => ?_) fun _ _ z => z)
    refine wpAny_bind (wpAny_mono h5 (fun tb s6 h6 => ?_) fun _ _ z => z)
    unfold withItem.marked
    refine wpAny_bind (wpAny_bind (wpAny_mono h6 (fun fl s7 h7 => ?_) fun _ _ z => z))
    obtain ⟨rfl, h7⟩ := h7
    refine wpAny_pure ?_
    refine wpAny_bind (wpAny_pure ?_)
    exact h7
  refine wpAny_bind (wpAny_mono h₂ (fun _ s₃ h₃ => wpAny_mono h₃ (fun f s₄ h₄ => ?_) fun e s₄ z => ?_) fun e s₃ z => ?_)
  · (repeat ((fail_if_success (with_reducible show wpAny _ _ (call _ _) _ _ _)); (fail_if_success (with_reducible show wpAny _ _ (Sem.attempt _) _ _ _)); first | with_reducible refine wpAny_standAt ?_ | lk))
    refine wpAny_mono h₄ (fun _ s₅ h₅ => ?_) fun _ _ z => z
    (repeat ((fail_if_success (with_reducible show wpAny _ _ (call _ _) _ _ _)); (fail_if_success (with_reducible show wpAny _ _ (Sem.attempt _) _ _ _)); first | with_reducible refine wpAny_standAt ?_ | lk))
    exact h₅
  · exact hErr e s₄ z
  · exact hErr e s₃ z
end
end PySem.W
namespace K18
open PySem PySem.Spec PyProof.Rows L2
/-- a context manager's class: its __enter__, its __exit__ as it is called behind the body, and as it is called with an exception -/
structure Wi (P : Program) (w : World) (K : PySem.W.Frag) (mg : Str → Option Value) (base : Heap) (k : Nat) (C : Addr) (spE spX spQ : Sp) : Prop where
  ex : ∃ (fe fx : Addr) (fde fdx : FuncData) (pse psx : List Str), PySem.W.findIn K (.ref C) "__enter__" = some (some (.ref fe)) ∧ PySem.W.isFn K (.ref fe) = true ∧ PySem.W.findIn K (.ref C) "__exit__" = some (some (.ref fx)) ∧ PySem.W.isFn K (.ref fx) = true ∧
    FnOk P w K mg base CX0 k fe fde pse spE ∧ Binds K fde pse [] ∧ FnOk P w K mg base CX0 k fx fdx psx spX ∧ FnQ P w K mg base k fx fdx psx spQ ∧ Binds K fdx psx []
/-- what is wished of an exception of the body -/
def wWith (x : Addr) (spQ : Sp) (Wout : WX) : WX := fun cls d σ H => ∃ vc, RelV vc cls ∧ ∀ e T, H e = none → (T = V.non ∨ ∃ t, T = V.ref t ∧ H t = none) → spQ [.ref x, vc, .ref e, T] H (fun r H2 => r = .non ∧ Wout cls d σ H2) E0
def dWith (x : Addr) (spX : Sp) (D : Ends) : Ends where
  nx := fun σ H => spX [.ref x, .non, .non, .non] H (fun _ H2 => D.nx σ H2) E0
  rt := fun v H => spX [.ref x, .non, .non, .non] H (fun _ H2 => D.rt v H2) E0
  bk := fun σ H => spX [.ref x, .non, .non, .non] H (fun _ H2 => D.bk σ H2) E0
  ct := fun σ H => spX [.ref x, .non, .non, .non] H (fun _ H2 => D.ct σ H2) E0
def tWith (C : Addr) (i : Nat) (spE spX spQ : Sp) (tc : TE) (tb : WX → TS) (Wout : WX) : TS := fun D σ H => tc σ H fun m H1 => ∃ x dx fs, m = .ref x ∧ H1 x = some (.ins C dx fs) ∧
  spE [.ref x] H1 (fun v H2 => tb (wWith x spQ Wout) (dWith x spX D) (σ.set i (some v)) H2) E0
section
variable {X : Cx} {k j i : Nat} {C : Addr} {spE spX spQ : Sp} {ctx : Expr} {y : Str} {py pos : Pos} {body : List Stmt} {tc : TE} {tb : WX → TS} {Wout : WX}
/-- a promise's call with the values -/
theorem run_sp {pins : List (Addr × Obj)} {σ : L2.St} {H : Hp} {s : Shared} {f : Addr} {fd : FuncData} {ps : List Str} {sp : Sp} {us : List Value} {vs : List V} {Q : VK} {Ex : Value → Shared → Prop} (F : FnOk X.prog X.w X.K X.mg X.base CX0 k f fd ps sp) (hr : Room k X.A) (hb : Binds X.K fd ps []) (I : Inv X pins σ H s) (r : Vals vs us) (h : sp vs H Q E0) :
    wpAny (model X.prog X.w) X.A (call (.ref f) us) (EP X pins σ Q) Ex s := by
  have hl : (us ++ []).length = ps.length := by rw [List.append_nil, ← r.length]; exact F.len _ _ _ _ h
  refine wpAny_call (codeAny_mono (F.run X.A X.stack s H ⟨us, []⟩ us vs Q E0 hr I.env0 (by have z := hb s us I.kIn hl; rw [List.append_nil] at z; exact z) r h) fun r s' hq => ?_)
  cases r with
  | error e => exact False.elim hq
  | ok fl =>
    cases fl with
    | ret u => exact I.after hq
    | next => exact False.elim hq
    | brk => exact False.elim hq
    | cont => exact False.elim hq
theorem kwx_exec {Q : Flow → Shared → Prop} {s : Shared} {A : Around} {prog : Program} {w : World} {env : Env} {E : Value → Shared → Prop}
    (h : wpAny (model prog w) A (eval ctx env) (fun v s₁ => wpAny (model prog w) A (withItem false ctx.pos env (pure v) (some (assign (.Name y py) env)) (execs body env)) Q E s₁) E s) : wpAny (model prog w) A (exec (.With [⟨ctx, some (.Name y py)⟩] body pos) env) Q E s := by
  rw [arm_exec_With]
  refine wpAny_bind (wpAny_standAt ?_)
  rw [arm_withItems_cons, arm_withItems_nil]
  unfold withItem
  refine wpAny_bind (wpAny_mono h (fun v s₁ h₁ => ?_) fun _ _ z => z)
  unfold withItem at h₁
  exact h₁
theorem tb_of {M : Model} {A : Around} {E : Value → Shared → Prop} {s : Shared} {a T : Addr} {oe oT : Obj} {vs ts : Array Value} {Q : Value → Shared → Prop} (he : s.heap.get? a = some oe) (hd : oe.data = .fields vs) (h1 : vs[1]? = some (.ref T)) (hT : s.heap.get? T = some oT) (hdT : oT.data = .fields ts) (h3 : 3 < ts.size)
    (q : ∀ v, (v = Value.none ∨ v = .ref T) → Q v s) : wpAny M A (tracebackOf (.ref a)) Q E s := by
  unfold tracebackOf
  refine wpAny_bind (wpAny_field he hd h1 ?_)
  have e1 : ts[1]? = some ts[1] := Array.getElem?_eq_getElem (by omega)
  refine wpAny_bind (wpAny_field hT hdT e1 ?_)
  split
  · exact wpAny_pure (q _ (.inl rfl))
  · exact wpAny_pure (q _ (.inr rfl))
theorem ps_with (wi : Wi X.prog X.w X.K X.mg X.base k C spE spX spQ) (hr : Room j X.A) (hk : k ≤ j) (hs : X.stack = X.env :: X.outer) (hf : X.env.frame = some X.env.locals) (hex : X.ex = []) (hN : X.N.Nodup) (hi : X.N[i]? = some y) (hy : Loc X.env.scope y) (hfn : X.fn y = true ∨ X.env.scope.names.lookup y = some .local) (tk : Takes X Wout) (hc : PE X ctx tc)
    (hb : ∀ (W : WX) (pn : List (Addr × Obj)) (xe : Value → Shared → Prop), Takes (X.tr pn xe) W → PassesOwn (model X.prog X.w) X.A X.env xe → PSs (X.tr pn xe) body (tb W)) :
    PS X (.With [⟨ctx, some (.Name y py)⟩] body pos) (tWith C i spE spX spQ tc tb Wout) := by
  obtain ⟨fe, fx, fde, fdx, pse, psx, h1, h2, h3, h4, Fe, be, Fx, Fq, bx⟩ := wi.ex
  have hr := hr.mono hk
  refine ⟨fun pins s σ H D I h => ?_⟩
  have ok := I.ok
  have hfr : X.A.frames = some (X.env :: X.outer) := by rw [ok.frames, hs]
  refine kwx_exec (thn (hc.run pins s σ H _ I h) fun u s1 ⟨m, H1, I1, rm, x, dx, fs, em, ex, q1⟩ => ?_)
  subst em
  obtain rfl : u = Value.ref x := rm
  obtain ⟨oa, od, IA⟩ := inst_of I1 ex
  obtain ⟨xe, hxe⟩ : ∃ xe : Value → Shared → Prop, xe = fun e s' => wpAny (model X.prog X.w) X.A (noteFrame e X.env) (fun _ s₂ => wpAny (model X.prog X.w) X.A (setFlight e none) (fun _ s₃ => wpAny (model X.prog X.w) X.A (typeOf e) (fun te s₄ => wpAny (model X.prog X.w) X.A (tracebackOf e) (fun tb s₅ =>
      wpAny (model X.prog X.w) X.A (run (.call (.ref fx) ⟨[.ref x, te, e, tb], []⟩) (some e)) (fun fl s₆ => fl = .ret .none ∧ wpAny (model X.prog X.w) X.A (PySem.passOn "with" e X.env) (SP X pins D) X.xe s₆) X.xe s₅) X.xe s₄) X.xe s₃) X.xe s₂) X.xe s' := ⟨_, rfl⟩
  refine PySem.W.kx_core (X1 := xe) I1.kIn IA h1 h2 h3 h4 ?_ (fun e s' z => by rw [hxe] at z; exact z)
  have ru : Vals [V.ref x] [Value.ref x] := .cons rfl .nil
  refine thn (run_sp Fe hr be I1 ru q1) fun v s2 ⟨vV, H2, I2, rv, q2⟩ => ?_
  refine wpAny_assign_Name ?_
  have tkB : Takes (X.tr (X.pn ++ pins) xe) (wWith x spQ Wout) := fun u s' xx => by
    show xe u s'
    rw [hxe]
    obtain ⟨a, B, sI, pins', σ', H', cls, d, rfl, J', nb, up, sky, na, os, ag, vc, rvc, hw⟩ := xx
    have J : Inv X pins σ' H' sI := J'.ofTry ok
    have sky' : Sky B (X.env :: X.outer) a (Zc cls d) X.env.locals s'.heap := by rw [← hs]; exact sky
    refine Sky.land Zc.steady hfr hf sky' fun h3 fl3 up3 => ?_
    have J3 : Inv X pins σ' H' { s' with heap := h3 } := J.landed nb fl3.1 (up.trans up3) os ag
    obtain ⟨k1, k2, k3, oe, vs, T, oT, ts, he3, hz, hd, hv1, hnT, hTe, hT, hdT, ht3⟩ := id fl3
    have nT : H' T = none := (J.inGround nb).gone hnT
    have notFr : ∀ (b : Addr) (o : Obj) (fv : Array Value), h3.get? b = some o → o.data = .fields fv → b ∉ frs (X.env :: X.outer) := fun b o fv e dd hm => by
      obtain ⟨_, o', e', hnf⟩ := k3.mem hm
      have eo : o = o' := Option.some.inj (e.symm.trans e')
      rw [← eo] at hnf
      exact hnf _ dd
    have locF : X.env.locals ∈ frs (X.env :: X.outer) := List.mem_filterMap.mpr ⟨X.env, List.mem_cons_self, hf⟩
    have fsF : ∀ b, b ∈ X.fs → b ∈ frs (X.env :: X.outer) := fun b hm => by
      obtain ⟨e, he, q⟩ := List.mem_filterMap.mp hm
      exact List.mem_filterMap.mpr ⟨e, List.mem_cons_of_mem _ he, q⟩
    have fa := notFr a oe vs he3 hd
    have fT := notFr T oT ts hT hdT
    have S3 : Inv (X.suite a ((a, oe) :: (T, oT) :: (X.pn ++ pins))) [] σ' H' { s' with heap := h3 } :=
      ⟨J3.ok.suite _ _, J3.os, J3.bare, J3.base, J3.loc, J3.cell, J3.free, J3.freeC, fun p hp => by
        rw [List.append_nil] at hp
        rcases List.mem_cons.mp hp with z | hp
        · rw [z]
          exact ⟨he3, na, fun z2 => fa (by rw [show a = X.env.locals from z2]; exact locF), fun z2 => fa (fsF _ z2), fun v z2 => by
            have z3 : oe.data = .cell v := z2
            rw [hd] at z3
            cases z3⟩
        · rcases List.mem_cons.mp hp with z | hp
          · rw [z]
            exact ⟨hT, nT, fun z2 => fT (by rw [show T = X.env.locals from z2]; exact locF), fun z2 => fT (fsF _ z2), fun v z2 => by
              have z3 : oT.data = .cell v := z2
              rw [hdT] at z3
              cases z3⟩
          · exact J3.pin p hp, J3.hok, J3.len⟩
    refine wpAny_typeOf_ref he3 ?_
    rw [hz.1]
    refine tb_of he3 hd hv1 hT hdT (Array.getElem?_eq_some_iff.mp ht3).1 fun tbv htb => ?_
    obtain ⟨vT, rT, hvT⟩ : ∃ vT, RelV vT tbv ∧ (vT = V.non ∨ ∃ t, vT = V.ref t ∧ H' t = none) := by
      rcases htb with z | z
      · exact ⟨.non, z, .inl rfl⟩
      · exact ⟨.ref T, z, .inr ⟨T, rfl, nT⟩⟩
    have hsp := hw a vT na hvT
    have r4 : Vals [V.ref x, vc, V.ref a, vT] [Value.ref x, cls, Value.ref a, tbv] := .cons rfl (.cons rvc (.cons rfl (.cons rT .nil)))
    have hl : ([Value.ref x, cls, Value.ref a, tbv] ++ []).length = psx.length := by
      rw [List.append_nil, ← r4.length]; exact Fq.len _ _ _ _ hsp
    refine wpAny_run (codeAny_mono (Fq.run (X.A.mark (some (.ref a))) X.stack { s' with heap := h3 } H' ⟨[Value.ref x, cls, Value.ref a, tbv], []⟩ [Value.ref x, cls, Value.ref a, tbv] _ _ E0 ⟨hr.dp, hr.un⟩ S3.env0 (by have z := bx { s' with heap := h3 } [Value.ref x, cls, Value.ref a, tbv] S3.kIn hl; rw [List.append_nil] at z; exact z) r4 hsp) fun r s6 hq => ?_) (fun z => ref_ne_byPass a (Option.some.inj z))
    cases r with
    | error e => exact False.elim hq
    | ok fl =>
      cases fl with
      | next => exact False.elim hq
      | brk => exact False.elim hq
      | cont => exact False.elim hq
      | ret u =>
        obtain ⟨v6, H6, S6, r6, e6, q6⟩ := S3.after hq
        subst e6
        obtain rfl : u = Value.none := r6
        refine ⟨rfl, ?_⟩
        have J6 : Inv X pins σ' H6 s6 := ⟨ok, S6.os, S6.bare, S6.base, S6.loc, S6.cell, S6.free, S6.freeC, fun p hp => S6.pin p (List.mem_append_left _ (List.mem_cons_of_mem _ (List.mem_cons_of_mem _ hp))), S6.hok, S6.len⟩
        have pa := S6.pin (a, oe) (List.mem_append_left _ List.mem_cons_self)
        have pT := S6.pin (T, oT) (List.mem_append_left _ (List.mem_cons_of_mem _ List.mem_cons_self))
        have ga : s6.heap.get? a = some oe := pa.1
        have gT : s6.heap.get? T = some oT := pT.1
        have na6 : H6 a = none := pa.2.1
        have nT6 : H6 T = none := pT.2.1
        have far : ∀ b o, sI.heap.get? b = some o → b ≠ a ∧ b ≠ T := fun b o e => by
          by_cases hb : b ∈ frs X.stack
          · rw [hs] at hb
            exact ⟨fun z => fa (by rw [← z]; exact hb), fun z => fT (by rw [← z]; exact hb)⟩
          · have q := nb b o e hb
            exact ⟨fun z => by
              rw [z, k2] at q
              exact (nomatch q), fun z => by
              rw [z, hnT] at q
              cases q⟩
        have far0 : ∀ b o, X.s_0.heap.get? b = some o → b ≠ a ∧ b ≠ T := fun b o e => by
          obtain ⟨o', q⟩ := J.base.there b o e (by rw [hex]; simp)
          exact far b o' q
        have farP : ∀ p ∈ X.pn ++ pins, p.1 ≠ a ∧ p.1 ≠ T := fun p hp => far p.1 p.2 (J.pin p hp).1
        obtain ⟨G, g1, g2⟩ := restrict s6.heap fun b => !(decide (b = a) || decide (b = T))
        have gIn : ∀ b o, G.get? b = some o → s6.heap.get? b = some o ∧ b ≠ a ∧ b ≠ T := fun b o e => by
          cases q : (!(decide (b = a) || decide (b = T))) with
          | false =>
            rw [g2 b q] at e
            cases e
          | true =>
            rw [g1 b q] at e
            simp only [Bool.not_eq_true', Bool.or_eq_false_iff, decide_eq_false_iff_not] at q
            exact ⟨e, q.1, q.2⟩
        have gOf : ∀ b o, b ≠ a → b ≠ T → s6.heap.get? b = some o → G.get? b = some o := fun b o h1 h2 e => by
          rw [g1 b (by simp [h1, h2])]
          exact e
        have I6 : Inv X pins σ' H6 { s6 with heap := G } := J6.less (fun b o e => (gIn b o e).1) gOf ⟨oe, vs, ga, hd⟩ ⟨oT, ts, gT, hdT⟩ na6 nT6 far0 farP
        have B6in : ∀ b o, (PySem.W.hideAll G (frs X.stack)).get? b = some o → s6.heap.get? b = some o := fun b o e => (gIn b o (PySem.W.of_hideAll _ e)).1
        have Bno : ∀ b, (b = a ∨ b = T) → (PySem.W.hideAll G (frs X.stack)).get? b = none := fun b hb => by
          cases q : (PySem.W.hideAll G (frs X.stack)).get? b with
          | none => rfl
          | some o =>
            obtain ⟨_, n1, n2⟩ := gIn b o (PySem.W.of_hideAll _ q)
            rcases hb with z | z
            · exact absurd z n1
            · exact absurd z n2
        have fl6 : HandSPX.FlyingZ (PySem.W.hideAll G (frs X.stack)) (X.env :: X.outer) a (Zc cls d) s6.heap := by
          refine ⟨B6in, Bno a (.inl rfl), ?_, oe, vs, T, oT, ts, ga, hz, hd, hv1, Bno T (.inr rfl), hTe, gT, hdT, ht3⟩
          have ff := funFrames_none (B := PySem.W.hideAll G (frs X.stack)) J6.stack fun b hb => PySem.W.hideAll_none _ hb
          rw [← hs]
          exact ff
        unfold PySem.passOn
        refine wpAny_bind (wpAny_field ga hd hv1 ?_)
        rw [if_neg (show ¬ ((Value.ref T == Value.none) = true) from by simp)]
        have goOn : wpAny (model X.prog X.w) X.A (setFlight (.ref a) X.env.frame) (fun _ s7 => wpAny (model X.prog X.w) X.A (throw (.ref a) : Sem Flow) (SP X pins D) X.xe s7) X.xe s6 := by
          rw [hf]
          refine HandSPX.setFlight_upZ fl6 fun h7 hh7 up7 => wpAny_throw (tk _ _ ?_)
          refine ⟨a, PySem.W.hideAll G (frs X.stack), { s6 with heap := G }, pins, σ', H6, cls, d, rfl, I6, fun b o e hb => PySem.W.hideAll_get _ e hb, ?_, .inr (.inr (by rw [← hs] at hh7; exact hh7)), na6, rfl, J6.bare, q6⟩
          exact Heap.UpToSlots.trans (Heap.UpToSlots.of_keeps fun b o e => (gIn b o e).1) up7
        first
          | exact wpAny_bind (wpAny_pure (wpAny_bind goOn))
          | exact wpAny_bind goOn
  refine store_ok I2 hN hi hy rv (fun s3 I3 => ?_) hfn
  have RB := (hb (wWith x spQ Wout) (X.pn ++ pins) xe tkB (by rw [hxe]; exact PassesOwn.looking)).run [] s3 _ H2 (dWith x spX D) (I3.toTry _) q2
  refine wpAny_mono RB (fun f s4 hsp => ?_) fun e s4 z => z
  have rx : Vals [V.ref x, V.non, V.non, V.non] [Value.ref x, Value.none, Value.none, Value.none] := .cons rfl (.cons rfl (.cons rfl (.cons rfl .nil)))
  cases f with
  | next =>
    obtain ⟨σ4, H4, I4, q4⟩ := hsp
    exact thn (run_sp (Ex := X.xe) Fx hr bx (I4.ofTry ok) rx q4) fun _ s5 ⟨_, H5, I5, _, q5⟩ => ⟨σ4, H5, I5, q5⟩
  | brk =>
    obtain ⟨σ4, H4, I4, q4⟩ := hsp
    exact thn (run_sp (Ex := X.xe) Fx hr bx (I4.ofTry ok) rx q4) fun _ s5 ⟨_, H5, I5, _, q5⟩ => ⟨σ4, H5, I5, q5⟩
  | cont =>
    obtain ⟨σ4, H4, I4, q4⟩ := hsp
    exact thn (run_sp (Ex := X.xe) Fx hr bx (I4.ofTry ok) rx q4) fun _ s5 ⟨_, H5, I5, _, q5⟩ => ⟨σ4, H5, I5, q5⟩
  | ret u =>
    obtain ⟨v4, σ4, H4, I4, r4, q4⟩ := hsp
    exact thn (run_sp (Ex := X.xe) Fx hr bx (I4.ofTry ok) rx q4) fun _ s5 ⟨_, H5, I5, _, q5⟩ => ⟨v4, σ4, H5, I5, r4, q5⟩
end
end K18
/-! a generator def whose consumer does more than fill a list: the two share the tracked heap -/
namespace K18
open PySem PySem.Spec PyProof.Rows L2 GenW
/-- what the two sides agree on: pa, the consumer's own objects; YP, what is promised at a yield; RH, what the consumer does to what is tracked -/
structure Pact where
  pa : List Addr
  YP : List V → V → Hp → Prop
  RH : List V → V → Hp → Hp → Prop
/-- an object that is pinned -/
structure PinAt (X : Cx) (H : Hp) (h : Heap) (b : Addr) (o : Obj) : Prop where
  get : h.get? b = some o
  free : H b = none
  loc : b ≠ X.env.locals
  nfs : b ∉ X.fs
  ncell : ∀ v, o.data ≠ .cell v
/-- running: the consumer's objects are as they were at s₀ -/
def HI (X : Cx) (p : Pact) (s₀ : Shared) (σ : L2.St) (H : Hp) (s : Shared) : Prop :=
  ∃ ip : List (Addr × Obj), (∀ q ∈ ip, s₀.heap.get? q.1 = some q.2) ∧ (∀ b ∈ p.pa, ∃ o, (b, o) ∈ ip) ∧ Inv X ip σ H s
theorem HI.pinned {X : Cx} {p : Pact} {s₀ s : Shared} {σ : L2.St} {H : Hp} (h : HI X p s₀ σ H s) {b : Addr} (hb : b ∈ p.pa) : ∃ o, s₀.heap.get? b = some o ∧ PinAt X H s.heap b o := by
  obtain ⟨ip, h1, h2, I⟩ := h
  obtain ⟨o, ho⟩ := h2 b hb
  obtain ⟨a1, a2, a3, a4, a5⟩ := I.pin (b, o) (List.mem_append_right _ ho)
  exact ⟨o, h1 _ ho, ⟨a1, a2, a3, a4, a5⟩⟩
/-- others worked: from H1, s1 to H2, s2 -/
structure Move (X : Cx) (pa : List Addr) (s1 : Shared) (H2 : Hp) (s2 : Shared) : Prop where
  os : s2.os = X.s_0.os
  bare : AllBare s2.gens
  hok : HOk X.prog X.w H2 s2.heap
  un : Un X.fs [] X.H_0 H2 X.s_0.heap s2.heap
  own : ∀ b o, (b = X.env.locals ∨ ∃ q ∈ X.pn, q.1 = b) → s1.heap.get? b = some o → s2.heap.get? b = some o ∧ H2 b = none
  pin : ∀ b ∈ pa, ∃ o, PinAt X H2 s2.heap b o
/-- the consumer's turn: from H1, s1 (at the yield) to H2, s2 -/
structure Woke (X : Cx) (p : Pact) (ys : List V) (x : V) (H1 : Hp) (s1 : Shared) (H2 : Hp) (s2 : Shared) : Prop where
  mv : Move X p.pa s1 H2 s2
  rh : p.RH ys x H1 H2
/-- the generator's own frame: no cells, no iterators of others -/
structure Lone (X : Cx) : Prop where
  ex : X.ex = []
  cl : ∀ x, X.env.cells.lookup x = none
theorem choose_pins {X : Cx} {H : Hp} {h : Heap} : ∀ {pa : List Addr}, (∀ b ∈ pa, ∃ o, PinAt X H h b o) → ∃ ip : List (Addr × Obj), (∀ q ∈ ip, PinAt X H h q.1 q.2) ∧ ∀ b ∈ pa, ∃ o, (b, o) ∈ ip
  | [], _ => ⟨[], fun q hq => absurd hq (by simp), fun b hb => absurd hb (by simp)⟩
  | a :: pa, h => by
    obtain ⟨o, ho⟩ := h a List.mem_cons_self
    obtain ⟨ip, h1, h2⟩ := choose_pins (pa := pa) fun b hb => h b (List.mem_cons_of_mem _ hb)
    refine ⟨(a, o) :: ip, fun q hq => ?_, fun b hb => ?_⟩
    · rcases List.mem_cons.mp hq with z | z
      · rw [z]; exact ho
      · exact h1 q z
    · rcases List.mem_cons.mp hb with z | z
      · rw [z]; exact ⟨o, List.mem_cons_self⟩
      · obtain ⟨o', ho'⟩ := h2 b z
        exact ⟨o', List.mem_cons_of_mem _ ho'⟩
theorem HI.moved {X : Cx} {p : Pact} {s1 s2 : Shared} {σ : L2.St} {H1 H2 : Hp} {ip : List (Addr × Obj)} (L : Lone X) (I : Inv X ip σ H1 s1) (w : Move X p.pa s1 H2 s2) : HI X p s2 σ H2 s2 := by
  obtain ⟨ip2, g1, g2⟩ := choose_pins w.pin
  have kl := fun o e => w.own X.env.locals o (.inl rfl) e
  obtain ⟨m, hn, hl⟩ := I.loc
  obtain ⟨oL, es, ep, ho, r⟩ := id hn
  refine ⟨ip2, fun q hq => (g1 q hq).get, g2, ⟨I.ok, w.os, w.bare, by rw [L.ex]; exact w.un, ⟨m, ⟨oL, es, ep, (kl oL ho).1, r⟩, fun i y v e1 e2 e3 => ?_⟩, fun y c e => absurd (e.symm.trans (L.cl y)) (by simp), (kl oL ho).2, fun y c e => absurd (e.symm.trans (L.cl y)) (by simp), fun q hq => ?_, w.hok, I.len⟩⟩
  · obtain ⟨u, ru, l⟩ := hl i y v e1 e2 e3
    refine ⟨u, ru, ?_⟩
    rcases l with l | ⟨_, c, e, _⟩
    · exact .inl l
    · exact absurd (e.symm.trans (L.cl y)) (by simp)
  · rcases List.mem_append.mp hq with z | z
    · obtain ⟨a1, a2, a3, a4, a5⟩ := I.pin q (List.mem_append_left _ z)
      obtain ⟨b1, b2⟩ := w.own q.1 q.2 (.inr ⟨q, z, rfl⟩) a1
      exact ⟨b1, b2, a3, a4, a5⟩
    · obtain ⟨a1, a2, a3, a4, a5⟩ := g1 q z
      exact ⟨a1, a2, a3, a4, a5⟩
theorem HI.woke {X : Cx} {p : Pact} {s₀ s1 s2 : Shared} {σ : L2.St} {H1 H2 : Hp} {ys : List V} {x : V} (L : Lone X) (h : HI X p s₀ σ H1 s1) (w : Woke X p ys x H1 s1 H2 s2) : HI X p s2 σ H2 s2 := by
  obtain ⟨ip, _, _, I⟩ := h
  exact HI.moved L I w.mv
theorem HI.of {X : Cx} {p : Pact} {s₀ s : Shared} {σ : L2.St} {H : Hp} {ip : List (Addr × Obj)} (h1 : ∀ q ∈ ip, s₀.heap.get? q.1 = some q.2) (h2 : ∀ b ∈ p.pa, ∃ o, (b, o) ∈ ip) (I : Inv X ip σ H s) : HI X p s₀ σ H s := ⟨ip, h1, h2, I⟩
/-! ### the protocol -/
def HY (X : Cx) (p : Pact) : Protocol := fun n s₀ v s kap =>
  ∃ ys x σ H, n + 1 + ys.length = sizeLine ∧ RelV x v ∧ HI X p s₀ σ H s ∧ p.YP ys x H ∧ ∀ H2 s2, Woke X p ys x H s H2 s2 → kap (.send .none) s2
def HR (X : Cx) (p : Pact) (Q : List V → VK) (F : Value → Shared → Prop) : GenEnd := fun n s₀ r s => match r with
  | .ok (.ret u) => ∃ ys v σ H, n + ys.length = sizeLine ∧ HI X p s₀ σ H s ∧ RelV v u ∧ Q ys v H
  | .ok _ => False
  | .error e => F e s
def HSP (X : Cx) (p : Pact) (s₀ : Shared) (D : GEnds) (ys : List V) (f : Flow) (s : Shared) : Prop :=
  match f with
  | .next => ∃ σ H, HI X p s₀ σ H s ∧ D.nx ys σ H
  | .brk => ∃ σ H, HI X p s₀ σ H s ∧ D.bk ys σ H
  | .cont => ∃ σ H, HI X p s₀ σ H s ∧ D.ct ys σ H
  | .ret u => ∃ v σ H, HI X p s₀ σ H s ∧ RelV v u ∧ D.rt ys v H
structure HC (X : Cx) (A : Around) (c : Code) (fs : List Frame) (gd : Bool → Bool) : Prop where
  lone : Lone X
  over : A.over c fs = X.A
  split : splitAtGen fs = none
  guard : fs.any Frame.guarded = false
  gd : gd false = false
structure HK (X : Cx) (p : Pact) (A : Around) (R : GenEnd) (c : Code) (fs : List Frame) (K : Flow → Sem PySem.Fin) (J : Value → Sem PySem.Fin) (D : GEnds) : Prop where
  ok : ∀ (n : Nat) (ys : List V) (s₀ s : Shared) (f : Flow), n + ys.length = sizeLine → HSP X p s₀ D ys f s → Seg (model X.prog X.w) A R (HY X p) n s₀ c (K f) fs s
  exc : ∀ (n : Nat) (s₀ : Shared) (e : Value) (s : Shared), X.xe e s → Seg (model X.prog X.w) A R (HY X p) n s₀ c (J e) fs s
structure HS (X : Cx) (p : Pact) (st : Stmt) (t : TGn) : Prop where
  run : ∀ (A : Around) (R : GenEnd) (n : Nat) (ys : List V) (s₀ : Shared) (c : Code) (fs : List Frame) (K : Flow → Sem PySem.Fin) (J : Value → Sem PySem.Fin) (gd : Bool → Bool) (lv : List Value → List Value) (s : Shared) (σ : L2.St) (H : Hp) (D : GEnds),
    HC X A c fs gd → n + ys.length = sizeLine → HK X p A R c fs K J D → HI X p s₀ σ H s → t D ys σ H →
    Seg (model X.prog X.w) A R (HY X p) n s₀ c ((exec st X.env).wrap K J gd lv) fs s
structure HSs (X : Cx) (p : Pact) (st : List Stmt) (t : TGn) : Prop where
  run : ∀ (A : Around) (R : GenEnd) (n : Nat) (ys : List V) (s₀ : Shared) (c : Code) (fs : List Frame) (K : Flow → Sem PySem.Fin) (J : Value → Sem PySem.Fin) (gd : Bool → Bool) (lv : List Value → List Value) (s : Shared) (σ : L2.St) (H : Hp) (D : GEnds),
    HC X A c fs gd → n + ys.length = sizeLine → HK X p A R c fs K J D → HI X p s₀ σ H s → t D ys σ H →
    Seg (model X.prog X.w) A R (HY X p) n s₀ c ((execs st X.env).wrap K J gd lv) fs s
section
variable {X : Cx} {p : Pact} {st : Stmt} {rest : List Stmt}
theorem sp_hsp {ip : List (Addr × Obj)} {s₀ s : Shared} {D : GEnds} {ys : List V} {f : Flow} (h1 : ∀ q ∈ ip, s₀.heap.get? q.1 = some q.2) (h2 : ∀ b ∈ p.pa, ∃ o, (b, o) ∈ ip) (h : SP X ip (D.at ys) f s) : HSP X p s₀ D ys f s := by
  cases f with
  | next => obtain ⟨σ, H, I, q⟩ := h; exact ⟨σ, H, .of h1 h2 I, q⟩
  | brk => obtain ⟨σ, H, I, q⟩ := h; exact ⟨σ, H, .of h1 h2 I, q⟩
  | cont => obtain ⟨σ, H, I, q⟩ := h; exact ⟨σ, H, .of h1 h2 I, q⟩
  | ret u => obtain ⟨v, σ, H, I, r1, q⟩ := h; exact ⟨v, σ, H, .of h1 h2 I, r1, q⟩
theorem hs_ps {t : TS} (h : PS X st t) : HS X p st (tPlain t) := by
  refine ⟨fun A R n ys s₀ c fs K J gd lv s σ H D g hn k hI ht => ?_⟩
  obtain ⟨ip, h1, h2, I⟩ := hI
  refine seg_wrap ?_
  rw [g.over]
  exact wpAny_mono (h.run _ s σ H (D.at ys) I ht) (fun f s' hs => k.ok n ys s₀ s' f hn (sp_hsp h1 h2 hs)) fun x s' hx => k.exc n s₀ x s' hx
theorem hss_pss {t : TS} (h : PSs X rest t) : HSs X p rest (tPlain t) := by
  refine ⟨fun A R n ys s₀ c fs K J gd lv s σ H D g hn k hI ht => ?_⟩
  obtain ⟨ip, h1, h2, I⟩ := hI
  refine seg_wrap ?_
  rw [g.over]
  exact wpAny_mono (h.run _ s σ H (D.at ys) I ht) (fun f s' hs => k.ok n ys s₀ s' f hn (sp_hsp h1 h2 hs)) fun x s' hx => k.exc n s₀ x s' hx
theorem hss_nil : HSs X p [] tG0 := by
  refine ⟨fun A R n ys s₀ c fs K J gd lv s σ H D g hn k hI ht => ?_⟩
  exact seg_execs_nil (k.ok n ys s₀ s .next hn ⟨σ, H, hI, ht⟩)
theorem hss_cons {t u : TGn} (a : HS X p st t) (b : HSs X p rest u) : HSs X p (st :: rest) (tGThen t u) := by
  refine ⟨fun A R n ys s₀ c fs K J gd lv s σ H D g hn k hI ht => ?_⟩
  refine seg_execs_cons ?_
  refine a.run A R n ys s₀ c fs _ J gd lv s σ H { D with nx := fun ys' σ' H' => u D ys' σ' H' } g hn ⟨fun n' ys' s₀' s' f hn' hs => ?_, k.exc⟩ hI ht
  cases f with
  | next =>
    obtain ⟨σ', H', I', q⟩ := hs
    exact b.run A R n' ys' s₀' c fs K J gd lv s' σ' H' D g hn' k I' q
  | brk => exact k.ok n' ys' s₀' s' .brk hn' hs
  | cont => exact k.ok n' ys' s₀' s' .cont hn' hs
  | ret u => exact k.ok n' ys' s₀' s' (.ret u) hn' hs
/-- yield e -/
def tHYield (p : Pact) (te : TE) : TGn := fun D ys σ H => ys.length < sizeLine ∧ te σ H fun x H1 => p.YP ys x H1 ∧ ∀ H2, p.RH ys x H1 H2 → D.nx (ys ++ [x]) σ H2
theorem hs_yield {e : Expr} {yp pos : Pos} {te : TE} (he : PE X e te) (hco : X.env.scope.isCoroutine = false := by rfl) (hi : interactive X.env = false := by rfl) : HS X p (.Expr (.Yield (some e) yp) pos) (tHYield p te) := by
  refine ⟨fun A R n ys s₀ c fs K J gd lv s σ H D g hn k hI ht => ?_⟩
  obtain ⟨hlt, ht⟩ := ht
  obtain ⟨n, rfl⟩ : ∃ m, n = m + 1 := ⟨n - 1, by omega⟩
  obtain ⟨ip, h1, h2, I⟩ := hI
  refine seg_Expr_Yield g.split g.gd g.guard ?_ hco hi
  rw [g.over]
  refine wpAny_mono (he.run _ s σ H _ I ht) (fun v s' hv => ?_) fun x s' hx => k.exc _ s₀ x s' hx
  obtain ⟨x, H1, I1, rv, q1, q2⟩ := hv
  have G1 : HI X p s₀ σ H1 s' := .of h1 h2 I1
  intro kap hk
  refine ⟨ys, x, σ, H1, hn, rv, G1, q1, fun H2 s'' z => hk .none s'' ?_⟩
  refine k.ok n (ys ++ [x]) s'' s'' .next ?_ ⟨σ, H2, G1.woke g.lone z, q2 H2 z.rh⟩
  rw [List.length_append, List.length_singleton]; omega
theorem hc_loop {A : Around} {c c' : Code} {fs : List Frame} {gd : Bool → Bool} {k : Result → Sem PySem.Fin} {l kp : List Value} {q : Pos} (g : HC X A c fs gd) (hw : c'.weight = 0) (hu : c'.cUnits = 0) :
    HC X A c' (.ret k none (gd false) l c q kp :: fs) id where
  lone := g.lone
  over := (over_loop hw hu).trans g.over
  split := by
    show (splitAtGen fs).map _ = none
    rw [g.split]; rfl
  guard := by
    show (gd false || fs.any Frame.guarded) = false
    rw [g.gd, g.guard]; rfl
  gd := rfl
theorem seg_hcame {A : Around} {R : GenEnd} {c : Code} {fs : List Frame} {K : Flow → Sem PySem.Fin} {J : Value → Sem PySem.Fin} {gd : Bool → Bool} {lv : List Value → List Value} {D : GEnds} {n : Nat} {s₀ s : Shared} {e : Value}
    (g : HC X A c fs gd) (k : HK X p A R c fs K J D) (h : cameBackBy (model X.prog X.w) X.A X.env X.xe e s) :
    Seg (model X.prog X.w) A R (HY X p) n s₀ c (((Sem.raise e : Sem Flow).onRaise (cameBack X.env)).wrap K J gd lv) fs s := by
  show Seg _ _ _ _ _ _ _ (((cameBack X.env e).bind fun _ => (Sem.raise e : Sem Flow)).wrap K J gd lv) _ _
  rw [Sem.bind_eq_wrap, Sem.wrap_wrap]
  refine seg_wrap ?_
  rw [g.over]
  exact wpAny_mono h (fun _ s' hx => k.exc n s₀ e s' hx) fun x s' hx => k.exc n s₀ x s' hx
theorem hs_while {test : Expr} {body : List Stmt} {pos : Pos} {tc : TT} {tb : TGn} (hp : PassesOwn (model X.prog X.w) X.A X.env X.xe) (hc : PT X test tc) (hb : HSs X p body tb) : HS X p (.While test body [] pos) (tGWhile tc tb) := by
  refine ⟨fun A R n ys s₀ c fs K J gd lv s σ H D g hn k hI ht => ?_⟩
  obtain ⟨W, ⟨m0, w0⟩, turn⟩ := ht
  refine seg_While fun q => ?_
  have gl := fun (kk : Result → Sem PySem.Fin) => hc_loop (k := kk) (c' := .whileLoop test body [] X.env) (l := lv []) (kp := []) (q := q) g rfl rfl
  have loop : ∀ (m n : Nat) (ys : List V) (s₀ s : Shared) (σ : L2.St) (H : Hp), n + ys.length = sizeLine → W m ys σ H → HI X p s₀ σ H s →
      Seg (model X.prog X.w) A R (HY X p) n s₀ (.whileLoop test body [] X.env) ((model X.prog X.w).den (.whileLoop test body [] X.env))
        (.ret (fun r => ((match r with | .ok f => (.pure f : Sem Flow) | .error e => .raise e).onRaise (cameBack X.env)).wrap K J gd lv) none (gd false) (lv []) c q [] :: fs) s := by
    intro m
    induction m using Nat.strongRecOn with
    | ind m ih =>
      intro n ys s₀ s σ H hn w hI
      have ee : ∀ (n : Nat) (s₀ : Shared) (x : Value) (s' : Shared), X.xe x s' → Seg (model X.prog X.w) A R (HY X p) n s₀ (.whileLoop test body [] X.env)
          ((do noteFrame x X.env; theTreesLotGoes x : Sem Unit).wrap (fun _ => .raise x) .raise id id)
          (.ret (fun r => ((match r with | .ok f => (.pure f : Sem Flow) | .error e => .raise e).onRaise (cameBack X.env)).wrap K J gd lv) none (gd false) (lv []) c q [] :: fs) s' := fun n s₀ x s' hx => by
        refine seg_wrap ?_
        rw [(gl _).over]
        refine wpAny_bind (wpAny_mono (hp x s' hx) (fun _ s'' hcb => wpAny_theTreesLotGoes ?_) fun y s'' hcb => ?_)
        · exact seg_leaf (.error x) (seg_hcame g k hcb)
        · exact seg_leaf (.error y) (seg_hcame g k hcb)
      refine seg_whileLoop ?_
      rw [(gl _).over]
      obtain ⟨ip, h1, h2, I⟩ := hI
      refine wpAny_mono (hc.run _ s σ H _ I (turn m ys σ H w)) (fun b s' hb' => ?_) fun x s' hx => ee n s₀ x s' hx
      obtain ⟨H2, I2, q2⟩ := hb'
      cases b with
      | true =>
        obtain ⟨N, hN, q2⟩ := q2
        rw [if_pos rfl]
        refine hb.run A R n ys s₀ _ _ _ _ id id s' σ H2 { D with nx := N, ct := N, bk := D.nx } (gl _) hn ⟨fun n' ys' s₀' s3 f hn' hs => ?_, fun n' s₀' x s3 hx => ee n' s₀' x s3 hx⟩ (.of h1 h2 I2) q2
        cases f with
        | next =>
          obtain ⟨σ3, H3, I3, n3⟩ := hs
          obtain ⟨m', hm, w3⟩ := hN ys' σ3 H3 n3
          exact seg_again rfl (ih m' hm n' ys' s₀' s3 σ3 H3 hn' w3 I3)
        | cont =>
          obtain ⟨σ3, H3, I3, n3⟩ := hs
          obtain ⟨m', hm, w3⟩ := hN ys' σ3 H3 n3
          exact seg_again rfl (ih m' hm n' ys' s₀' s3 σ3 H3 hn' w3 I3)
        | brk => exact seg_leaf (.ok .next) (k.ok n' ys' s₀' s3 .next hn' hs)
        | ret v => exact seg_leaf (.ok (.ret v)) (k.ok n' ys' s₀' s3 (.ret v) hn' hs)
      | false =>
        rw [if_neg Bool.false_ne_true]
        refine seg_execs_nil ?_
        exact seg_leaf (.ok .next) (k.ok n ys s₀ s' .next hn ⟨σ, H2, .of h1 h2 I2, q2⟩)
  exact loop m0 n ys s₀ s σ H hn w0 hI
end
/-! ### the call of such a def -/
/-- the end of a run -/
def HFin (P : Program) (w : World) (outer : List Env) (H : Hp) (s : Shared) (p : Pact) (Q : List V → Hp → Prop) (n : Nat) (s₀ s1 : Shared) : Prop :=
  ∃ ys H', n + ys.length = sizeLine ∧ s1.os = s.os ∧ AllBare s1.gens ∧ Un (frs outer) [] H H' s.heap s1.heap ∧ HOk P w H' s1.heap ∧ (∀ b ∈ p.pa, ∃ o, s₀.heap.get? b = some o ∧ s1.heap.get? b = some o ∧ H' b = none) ∧ Q ys H'
def HEnd (P : Program) (w : World) (outer : List Env) (H : Hp) (s : Shared) (p : Pact) (Q : List V → Hp → Prop) : GenEnd := fun n s₀ r s1 =>
  ((r = .ok (.ret .none) ∨ r = .ok .next) ∧ HFin P w outer H s p Q n s₀ s1) ∨ ∃ e, r = .error e ∧ False
/-- the consumer's turn, told outside: L, a: the generator's frame and object -/
structure WokeO (P : Program) (w : World) (outer : List Env) (H : Hp) (s : Shared) (p : Pact) (L a : Addr) (ys : List V) (x : V) (H1 : Hp) (s1 : Shared) (H2 : Hp) (s2 : Shared) : Prop where
  os : s2.os = s.os
  bare : AllBare s2.gens
  hok : HOk P w H2 s2.heap
  un : Un (frs outer) [] H H2 s.heap s2.heap
  own : ∀ b o, (b = L ∨ b = a) → s1.heap.get? b = some o → s2.heap.get? b = some o ∧ H2 b = none
  pin : ∀ b ∈ p.pa, ∃ o, s2.heap.get? b = some o ∧ H2 b = none ∧ ∀ v, o.data ≠ .cell v
  rh : p.RH ys x H1 H2
/-- an item is handed out -/
structure HOut (P : Program) (w : World) (outer : List Env) (H : Hp) (s : Shared) (p : Pact) (L a : Addr) (g n : Nat) (s₀ : Shared) (v : Value) (s1 : Shared) (ys : List V) (x : V) (H1 : Hp) : Prop where
  cnt : n + 1 + ys.length = sizeLine
  rel : RelV x v
  os : s1.os = s.os
  bare : AllBare s1.gens
  lim : s1.heap.NoLimit
  gen : s1.heap.IsGen a g
  un : Un (frs outer) [] H H1 s.heap s1.heap
  hok : HOk P w H1 s1.heap
  pa : ∀ b ∈ p.pa, ∃ o, s₀.heap.get? b = some o ∧ s1.heap.get? b = some o ∧ H1 b = none
  own : ∀ b, (b = L ∨ b = a) → ∃ o, s1.heap.get? b = some o ∧ H1 b = none ∧ ∀ v, o.data ≠ .cell v
  yp : p.YP ys x H1
def HItem (P : Program) (w : World) (outer : List Env) (H : Hp) (s : Shared) (p : Pact) (L a : Addr) (g : Nat) : Protocol := fun n s₀ v s1 kap =>
  ∃ ys x H1, HOut P w outer H s p L a g n s₀ v s1 ys x H1 ∧ ∀ H2 s2, WokeO P w outer H s p L a ys x H1 s1 H2 s2 → kap (.send .none) s2
/-- a generator def's promise: told at the first turn -/
abbrev SpH := Pact → List V → Hp → (List V → Hp → Prop) → Prop
structure HMade (P : Program) (w : World) (k : Nat) (outer : List Env) (H : Hp) (s : Shared) (sp : SpH) (vs : List V) (s' : Shared) (a L : Addr) (g : Nat) (c : Code) : Prop where
  a1 : s.heap.objs.size ≤ a
  a2 : a < s'.heap.objs.size
  l1 : s.heap.objs.size ≤ L
  l2 : L < s'.heap.objs.size
  gen : s'.heap.IsGen a g
  fresh : s'.gens[g]? = some (.fresh c)
  os : s'.os = s.os
  bare : AllBare s'.gens
  lim : s'.heap.NoLimit
  keep : ∀ b o, s.heap.get? b = some o → s'.heap.get? b = some o
  own : ∀ b, (b = L ∨ b = a) → ∃ o, s'.heap.get? b = some o ∧ ∀ v, o.data ≠ .cell v
  wake : ∀ (A : Around) (p : Pact) (H2 : Hp) (s2 : Shared) (Q : List V → Hp → Prop), Room k A → A.frames = some outer → (∀ b ∈ p.pa, s'.heap.objs.size ≤ b ∧ ∃ o, s2.heap.get? b = some o ∧ H2 b = none ∧ ∀ v, o.data ≠ .cell v) →
    (∀ b o, (b = L ∨ b = a) → s'.heap.get? b = some o → s2.heap.get? b = some o ∧ H2 b = none) → Un (frs outer) [] H H2 s.heap s2.heap → HOk P w H2 s2.heap → s2.os = s.os → AllBare s2.gens → sp p vs H2 Q →
    Seg (model P w) A (HEnd P w outer H s p Q) (HItem P w outer H s p L a g) sizeLine s2 c ((model P w).den c) [] s2
structure HFn (P : Program) (w : World) (K : PySem.W.Frag) (mg : Str → Option Value) (base : Heap) (k : Nat) (f : Addr) (fd : FuncData) (ps : List Str) (sp : SpH) : Prop where
  run : ∀ (A : Around) (outer : List Env) (s : Shared) (H : Hp) (args : Args) (us : List Value) (vs : List V), Room k A → Env0 P w K mg base A outer s H → BindsTo s fd args (ps.zip us) → Vals vs us → vs.length = ps.length →
    codeAny (model P w) A (.call (.ref f) args) (fun r s' => match r with | .ok (.ret u) => ∃ a L g c, u = .ref a ∧ HMade P w k outer H s sp vs s' a L g c | _ => False) s
/-- the context of its body -/
def hcx (P : Program) (w : World) (K : PySem.W.Frag) (mg : Str → Option Value) (base : Heap) (N : List Str) (qual : Str) (scope : Scope) (f : Addr) (cd : Value) (A : Around) (outer : List Env) (s : Shared) (H : Hp) (pn : List (Addr × Obj)) : Cx :=
  { (cxOf CX0 P w K mg base N qual scope f cd A outer s H E0) with pn := pn, xe := fun _ _ => False }
theorem cellsFrom_nil : ∀ {names : List (Str × NameKind)} {n : Nat}, (∀ y ∈ names, y.2 ≠ .cell) → cellsFrom n names [] = []
  | [], _, _ => rfl
  | (x, k) :: r, n, h => by
    unfold cellsFrom
    have hk : ¬ (k == NameKind.cell) = true := fun z => h (x, k) List.mem_cons_self (by simpa using z)
    rw [if_neg hk]
    exact cellsFrom_nil fun y hy => h y (List.mem_cons_of_mem _ hy)
theorem hfn_of {P : Program} {w : World} {K : PySem.W.Frag} {mg : Str → Option Value} {base : Heap} {k : Nat} {f : Addr} {name qual : Str} {params : Arguments} {body : List Stmt} {scope : Scope} {dV kV doc pm cdv ct oc : Value} {an od : Option Addr}
    {osl : Array (Option Value)} {N ps : List Str} {sp : SpH} (lk : K.lookup f = some ⟨oc, od, .func (PySem.W.fnOf name qual params body scope dV kV doc pm an cdv ct), osl⟩) (hcd : PySem.W.codeIn K cdv qual = true) (S : GScope N ps scope) (nc : ∀ y ∈ scope.names, y.2 ≠ .cell)
    (hbody : ∀ (A : Around) (outer : List Env) (s : Shared) (H : Hp) (vs : List V) (pn : List (Addr × Obj)) (p : Pact) (H2 : Hp) (Q : List V → Hp → Prop), Room k (A.deeper (envOfC qual scope s.heap.objs.size f cdv)) → sp p vs H2 Q →
      ∃ t, HSs (hcx P w K mg base N qual scope f cdv A outer s H pn) p body t ∧ t { nx := fun ys _ H' => Q ys H', rt := fun ys v H' => v = .non ∧ Q ys H' } [] (start N vs) H2) :
    HFn P w K mg base (k + 1) f (PySem.W.fnOf name qual params body scope dV kV doc pm an cdv ct) ps sp := by
  refine ⟨fun A outer s H args us vs hr e0 hb r hl => ?_⟩
  have KX : K.In s.heap := e0.mod.kin.keeps fun b o e => (e0.bs b o e).1
  have lim : s.heap.NoLimit := e0.mod.nolimit.keeps fun b o e => (e0.bs b o e).1
  have hkind : ∀ y ∈ ps.zip us, scope.names.lookup y.1 = some .local ∨ (scope.names.lookup y.1 = some .cell ∧ ((cellsFrom (s.heap.objs.size + 1) scope.names []).lookup y.1).isSome = true) := fun ⟨n, v⟩ hy => by
    rcases S.par n (List.of_mem_zip hy).1 with q | q
    · exact .inl q
    · exact .inr ⟨q, PySem.W.cellsFrom_some _ _ _ (.inl q)⟩
  refine codeAny_call_generator hr.depth (KX _ _ lk) rfl S.co S.gen rfl (PySem.W.codeRec_of KX hcd) (hb _ _ _ _ ?_)
  refine wpAny_newFunctionEnv_cells S.kind hkind fun env he s1 x => ?_
  subst he
  have lim1 : s1.heap.NoLimit := lim.keeps x.toInCall.keep
  refine ⟨lim1, ?_⟩
  obtain ⟨h1, tk, es1, hk1⟩ := x.done
  have os1 : s1.os = s.os := by rw [es1]
  have gen1 : s1.gens = s.gens := by rw [es1]
  have lt1 : s.heap.objs.size < s1.heap.objs.size := x.toInCall.ns.lt
  have sz1 : s.heap.objs.size ≤ s1.heap.objs.size := Nat.le_of_lt lt1
  have kp1 : ∀ b o, s.heap.get? b = some o → s1.heap.get? b = some o := x.toInCall.keep
  obtain ⟨oL, esL, epL, hoL, hdL, hrL⟩ := id x.toInCall.ns
  have main : ∀ (go : Obj) (nm qn : Value) (tk2 : Nat), go.cls = .type "generator" → go.data = .fields #[.int s1.gens.size 0, nm, qn] → go.slots = #[] → (∀ h : Heap, (h.push go).get? h.objs.size = some go) →
      HMade P w (k + 1) outer H s sp vs { s1 with gens := s1.gens.push (.fresh (.func body (envOfC qual scope s.heap.objs.size f cdv))), toks := tk2, heap := s1.heap.push go } s1.heap.objs.size s.heap.objs.size s1.gens.size (.func body (envOfC qual scope s.heap.objs.size f cdv)) := by
    intro go nm qn tk2 hgc hgd0 hgs hgp
    have hgen : ∀ h : Heap, h.get? s1.heap.objs.size = some go → h.IsGen s1.heap.objs.size s1.gens.size := fun h e => ⟨go, nm, qn, e, hgc, hgd0, hgs⟩
    have hpushed : (s1.heap.push go).get? s1.heap.objs.size = some go := hgp _
    have hgd : ∀ v, go.data ≠ .cell v := fun v q => by rw [hgd0] at q; cases q
    have hld : ∀ v, oL.data ≠ .cell v := fun v q => by rw [hdL] at q; cases q
    have szp : (s1.heap.push go).objs.size = s1.heap.objs.size + 1 := Heap.size_push ..
    refine ⟨sz1, by show _ < (s1.heap.push _).objs.size; rw [szp]; exact Nat.lt_succ_self _, Nat.le_refl _, by show _ < (s1.heap.push _).objs.size; rw [szp]; exact Nat.lt_succ_of_lt lt1, hgen _ hpushed, Array.getElem?_push_size .., os1, AllBare.push (by rw [gen1]; exact e0.bare) rfl,
      lim1.keeps fun b o e => Heap.get?_push_of_some _ e, fun b o e => Heap.get?_push_of_some _ (kp1 b o e), fun b hb => ?_, ?_⟩
    · rcases hb with z | z
      · rw [z]; exact ⟨oL, Heap.get?_push_of_some _ hoL, hld⟩
      · rw [z]; exact ⟨go, hpushed, hgd⟩
    intro Aw p H2 s2 Q hrw hfr hpa hown hun hok2 hos hba hsp
    have e0w : Env0 P w K mg base Aw outer s H := ⟨hfr, e0.mod, e0.bs, e0.bsz, e0.funs, e0.frf, e0.hok, e0.bare⟩
    obtain ⟨t, ht, hq⟩ := hbody Aw outer s H vs [(s1.heap.objs.size, go)] p H2 Q (hrw.deeper _) hsp
    have I1 : Inv (hcx P w K mg base N qual scope f cdv Aw outer s H []) [] (start N vs) H s1 := by
      have J := inv_startG (E := E0) S hrw.hd e0w hl r x
      exact ⟨⟨J.ok.mod, J.ok.kind, J.ok.glob, J.ok.blt, J.ok.above, J.ok.inj, J.ok.has, J.ok.cab, J.ok.hd, J.ok.frames, J.ok.stk, J.ok.exf, J.ok.bs, J.ok.bsz, J.ok.noex, J.ok.exfs, J.ok.funs, J.ok.frf⟩, J.os, J.bare, J.base, J.loc, J.cell, J.free, J.freeC, J.pin, J.hok, J.len⟩
    have notCells : ∀ y, (cellsFrom (s.heap.objs.size + 1) scope.names []).lookup y = none := fun y => by rw [cellsFrom_nil nc]; rfl
    have young : ∀ b, s1.heap.objs.size ≤ b → b ≠ s.heap.objs.size ∧ b ∉ frs outer := fun b hb => ⟨Nat.ne_of_gt (Nat.lt_of_lt_of_le lt1 hb), I1.nofs hb⟩
    have L : Lone (hcx P w K mg base N qual scope f cdv Aw outer s H [(s1.heap.objs.size, go)]) := ⟨rfl, notCells⟩
    have hL2 := hown s.heap.objs.size oL (.inl rfl) (Heap.get?_push_of_some _ hoL)
    have ha2 := hown s1.heap.objs.size go (.inr rfl) hpushed
    have Ip : Inv (hcx P w K mg base N qual scope f cdv Aw outer s H [(s1.heap.objs.size, go)]) [] (start N vs) H { s1 with heap := s1.heap.push go } := by
      have J := I1.kept (t' := s1.toks) (h' := s1.heap.push go) fun b o e => Heap.get?_push_of_some _ e
      refine ⟨⟨J.ok.mod, J.ok.kind, J.ok.glob, J.ok.blt, J.ok.above, J.ok.inj, J.ok.has, J.ok.cab, J.ok.hd, J.ok.frames, J.ok.stk, J.ok.exf, J.ok.bs, J.ok.bsz, J.ok.noex, J.ok.exfs, J.ok.funs, J.ok.frf⟩, J.os, J.bare, J.base, J.loc, J.cell, J.free, J.freeC, fun q hq => ?_, J.hok, J.len⟩
      have eq : q = (s1.heap.objs.size, go) := by simpa using (show q ∈ [(s1.heap.objs.size, go)] ++ ([] : List (Addr × Obj)) from hq)
      rw [eq]
      exact ⟨hpushed, I1.hok.fresh (Nat.le_refl _), (young _ (Nat.le_refl _)).1, (young _ (Nat.le_refl _)).2, hgd⟩
    have pinOf : ∀ b ∈ p.pa, ∀ (h : Heap) (Hx : Hp) (o : Obj), h.get? b = some o → Hx b = none → (∀ v, o.data ≠ .cell v) → PinAt (hcx P w K mg base N qual scope f cdv Aw outer s H [(s1.heap.objs.size, go)]) Hx h b o := fun b hb h Hx o e1 e2 e3 => by
      have hsz : s1.heap.objs.size ≤ b := Nat.le_trans (Nat.le_of_lt (by show _ < (s1.heap.push go).objs.size; rw [szp]; exact Nat.lt_succ_self _)) (hpa b hb).1
      exact ⟨e1, e2, (young b hsz).1, (young b hsz).2, e3⟩
    have hG : HI (hcx P w K mg base N qual scope f cdv Aw outer s H [(s1.heap.objs.size, go)]) p s2 (start N vs) H2 s2 := by
      refine HI.moved L Ip ⟨hos, hba, hok2, hun, fun b o hb e => ?_, fun b hb => ?_⟩
      · rcases hb with z | ⟨q, hq, z⟩
        · exact hown b o (.inl z) e
        · rw [List.mem_singleton.mp hq] at z
          exact hown b o (.inr z.symm) e
      · obtain ⟨_, o, e1, e2, e3⟩ := hpa b hb
        exact ⟨o, pinOf b hb _ _ o e1 e2 e3⟩
    have ownAt : ∀ {s₀ s' : Shared} {σ' : L2.St} {H' : Hp}, HI (hcx P w K mg base N qual scope f cdv Aw outer s H [(s1.heap.objs.size, go)]) p s₀ σ' H' s' → ∀ b, (b = s.heap.objs.size ∨ b = s1.heap.objs.size) → ∃ o, s'.heap.get? b = some o ∧ H' b = none ∧ ∀ v, o.data ≠ .cell v := fun {s₀ s' σ' H'} hI b hb => by
      obtain ⟨ip, _, _, J⟩ := hI
      rcases hb with z | z
      · obtain ⟨m, ⟨o, es, ep, ho, hd, _⟩, _⟩ := J.loc
        rw [z]
        exact ⟨o, ho, J.free, fun v q => by rw [hd] at q; cases q⟩
      · obtain ⟨a1, a2, _, _, a5⟩ := J.pin (s1.heap.objs.size, go) (List.mem_append_left _ (List.mem_singleton.mpr rfl))
        rw [z]
        exact ⟨go, a1, a2, a5⟩
    have paAt : ∀ {s₀ s' : Shared} {σ' : L2.St} {H' : Hp}, HI (hcx P w K mg base N qual scope f cdv Aw outer s H [(s1.heap.objs.size, go)]) p s₀ σ' H' s' → ∀ b ∈ p.pa, ∃ o, s₀.heap.get? b = some o ∧ s'.heap.get? b = some o ∧ H' b = none := fun {s₀ s' σ' H'} hI b hb => by
      obtain ⟨o, e1, e2⟩ := hI.pinned hb
      exact ⟨o, e1, e2.get, e2.free⟩
    refine seg_func ?_
    refine seg_imp (R := HR (hcx P w K mg base N qual scope f cdv Aw outer s H [(s1.heap.objs.size, go)]) p (fun ys v H' => v = .non ∧ Q ys H') fun _ _ => False)
      (Y := HY (hcx P w K mg base N qual scope f cdv Aw outer s H [(s1.heap.objs.size, go)]) p) (fun n s₀ r s1' hR => ?_) (fun n s₀ v s1' kap kap' hkk hY => ?_) sizeLine ?_
    · cases r with
      | error e => exact False.elim hR
      | ok fl =>
        cases fl with
        | next => exact False.elim hR
        | brk => exact False.elim hR
        | cont => exact False.elim hR
        | ret u =>
          obtain ⟨ys, v, σ', H', hn, hI, rv, ev, hQ⟩ := hR
          subst ev
          have eu : u = Value.none := rv
          subst eu
          have hpa' := paAt hI
          obtain ⟨ip, _, _, J⟩ := hI
          exact .inl ⟨.inl rfl, ys, H', hn, J.os, J.bare, J.base, J.hok, hpa', hQ⟩
    · obtain ⟨ys, xx, σ', H', hn, h2, hI, hyp, h3⟩ := hY
      have hpa' := paAt hI
      have hown' := ownAt hI
      obtain ⟨ip, i1, i2, J⟩ := id hI
      refine ⟨ys, xx, H', ⟨hn, h2, J.os, J.bare, J.nolimit, ?_, J.base, J.hok, hpa', hown', hyp⟩, fun H3 s3 wk => hkk _ _ (h3 H3 s3 ⟨⟨wk.os, wk.bare, wk.hok, wk.un, fun b o hb e => ?_, fun b hb => ?_⟩, wk.rh⟩)⟩
      · exact hgen _ (J.pin (s1.heap.objs.size, go) (List.mem_append_left _ (List.mem_singleton.mpr rfl))).1
      · rcases hb with z | ⟨q, hq, z⟩
        · exact wk.own b o (.inl z) e
        · rw [List.mem_singleton.mp hq] at z
          exact wk.own b o (.inr z.symm) e
      · obtain ⟨o, e1, e2, e3⟩ := wk.pin b hb
        exact ⟨o, pinOf b hb _ _ o e1 e2 e3⟩
    · refine ht.run Aw _ sizeLine [] s2 _ [] _ _ id id s2 (start N vs) H2 _ ⟨L, over_func, rfl, rfl, rfl⟩ (Nat.add_zero _) ⟨fun n ys s₀ s' fl hn hs => ?_, fun n s₀ e s' hx => False.elim hx⟩ hG hq
      cases fl with
      | next =>
        obtain ⟨σ', H', hI, hQ⟩ := hs
        exact seg_end (.ok (.ret .none)) ⟨ys, .non, σ', H', hn, hI, rfl, rfl, hQ⟩
      | brk => obtain ⟨_, _, _, q⟩ := hs; exact False.elim q
      | cont => obtain ⟨_, _, _, q⟩ := hs; exact False.elim q
      | ret u =>
        obtain ⟨v, σ', H', hI, rv, ev, hQ⟩ := hs
        exact seg_end (.ok (.ret u)) ⟨ys, v, σ', H', hn, hI, rv, ev, hQ⟩
  exact ⟨_, _, _, _, rfl, main _ _ _ _ rfl rfl rfl fun h => Heap.get?_push_size _ rfl⟩
end K18
/-! expressions that leave the generators as they are -/
namespace K18
open PySem PySem.Spec PyProof.Rows L2 GenW
structure PEg (X : Cx) (e : Expr) (t : TE) : Prop where
  run : ∀ (pins : List (Addr × Obj)) (s : Shared) (σ : L2.St) (H : Hp) (Q : VK), Inv X pins σ H s → t σ H Q → wpAny (model X.prog X.w) X.A (eval e X.env) (fun u s' => s'.gens = s.gens ∧ EP X pins σ Q u s') X.xe s
structure PAg (X : Cx) (es : List Expr) (t : TA) : Prop where
  run : ∀ (pos : Pos) (pins : List (Addr × Obj)) (s : Shared) (σ : L2.St) (H : Hp) (Q : List V → Hp → Prop), Inv X pins σ H s → t σ H Q → wpAny (model X.prog X.w) X.A (spliced (backTo pos (starEach es X.env))) (fun us s' => s'.gens = s.gens ∧ AP X pins σ Q us s') X.xe s
structure PTg (X : Cx) (e : Expr) (t : TT) : Prop where
  run : ∀ (pins : List (Addr × Obj)) (s : Shared) (σ : L2.St) (H : Hp) (Q : Bool → Hp → Prop), Inv X pins σ H s → t σ H Q → wpAny (model X.prog X.w) X.A (isTrue e X.env (eval e X.env)) (fun b s' => s'.gens = s.gens ∧ TP X pins σ Q b s') X.xe s
section
variable {X : Cx} {pos : Pos}
theorem gvar (i : Nat) {x : Str} (hN : X.N[i]? = some x := by rfl) (hv : Vis X.env.scope x := by first | exact Or.inl rfl | exact Or.inr (Or.inl rfl) | exact Or.inr (Or.inr rfl)) (hd : (x == ("__debug__" : Str)) = false := by decide)
    (hcd : (x == ("__classdict__" : Str)) = false := by decide) : PEg X (.Name x pos) (tVar i) := by
  refine ⟨fun pins s σ H Q I h => ?_⟩
  obtain ⟨v, e, h⟩ := h
  obtain ⟨m, hn, hl⟩ := I.loc
  obtain ⟨u, r, l⟩ := hl i x v hN e hv
  have fin : s.gens = s.gens ∧ EP X pins σ Q u s := ⟨rfl, v, H, I, r, h⟩
  rcases l with ⟨hk, hm⟩ | ⟨hk, c, hc, hcell⟩
  · exact wpAny_Name (wpAny_loadName_local I.ok.kind hk hn hm fin) hd
  · rcases hk with hk | hk
    · exact wpAny_Name (wpAny_loadName_cell I.ok.kind hk hc hcell fin) hd
    · exact wpAny_Name (wpAny_loadName_free I.ok.kind hk hc hcell fin hcd) hd
theorem gstr {x j} : PEg X (.Constant (.str x) j pos) (tC (.str x)) := ⟨fun _ _ _ H _ I h => Calls.Constant_str ⟨rfl, .str x, H, I.tok _, ⟨_, rfl⟩, h⟩⟩
theorem gglob {x : Str} {v : V} {u : Value} (hg : Gl X x) (hm : X.mg x = some u) (r : RelV v u) (hd : (x == ("__debug__" : Str)) = false := by decide) : PEg X (.Name x pos) (tC v) :=
  ⟨fun _ _ _ H _ I h => ld_glob I hg hm ⟨rfl, v, H, I, r, h⟩ hd⟩
theorem gnil : PAg X [] tNil := ⟨fun _ _ _ _ H Q I h => Calls.spliced_nil ⟨rfl, [], H, I, .nil, h⟩⟩
theorem gcons {e : Expr} {es : List Expr} {te : TE} {t : TA} (ha : PEg X e te) (hr : PAg X es t) (hs : starEach (e :: es) X.env = (false, eval e X.env) :: starEach es X.env := by rfl) : PAg X (e :: es) (tCons te t) := by
  refine ⟨fun pos pins s σ H Q I h => ?_⟩
  rw [hs]
  show wpAny _ _ (spliced ((false, eval e X.env) :: backTo pos (starEach es X.env))) _ _ s
  refine Calls.spliced_cons (thn (ha.run pins s σ H _ I h) fun u s1 ⟨g1, x, H1, I1, r1, q1⟩ => ?_)
  exact thn (hr.run pos pins s1 σ H1 _ I1 q1) fun us s2 ⟨g2, xs, H2, I2, r2, q2⟩ => ⟨g2.trans g1, x :: xs, H2, I2, .cons r1 r2, q2⟩
theorem gtup {es : List Expr} {t : TA} {x1} (h : PAg X es t) : PEg X (.Tuple es x1 pos) (tTup t) := by
  refine ⟨fun pins s σ H Q I hq => ?_⟩
  refine wpAny_Tuple_spliced (thn (h.run pos pins s σ H _ I hq) fun us s1 ⟨g1, xs, H1, I1, r, z, q⟩ => ⟨by rw [← r.length]; exact z, ?_⟩)
  have hf : H1 s1.heap.objs.size = none := I1.hok.fresh (Nat.le_refl _)
  refine ⟨g1, .ref s1.heap.objs.size, upd H1 s1.heap.objs.size (.tup xs), I1.laid (t' := s1.toks) (fun b u e => Heap.get?_push_of_some _ e) (Nat.le_refl _) ?_, rfl, q _ hf⟩
  exact ⟨z, us, r, ⟨_, Heap.get?_push_size _ rfl, rfl, _, rfl⟩⟩
theorem gfld {e : Expr} {f : Str} {ta : TE} (he : PEg X e ta) (hb : attributeBase e f X.env (eval e X.env) = eval e X.env) : PEg X (.Attribute e f pos) (tFld X.K ta f) := by
  refine ⟨fun pins s σ H Q I h => ?_⟩
  refine attr_of hb (thn (he.run pins s σ H _ I h) fun u s1 ⟨g1, x, H1, I1, rx, a, C, dx, fs, v, ex, ea, c, n, l, q⟩ => ?_)
  subst ex
  obtain rfl : u = Value.ref a := rx
  obtain ⟨mA, O, r, _, _, _⟩ := ins_get I1.hok ea
  obtain ⟨u, hu, ru⟩ := RelO.some_of (v := v) (o := mA f) (by rw [← l]; exact r f)
  exact get_map I1.kIn O (c.get f) c.hd n hu (handed_of ru) ⟨g1, v, H1, I1.tok _, ru, q⟩
theorem gifExp {c a b : Expr} {tc : TT} {ta tb : TE} (hc : PTg X c tc) (ha : PEg X a ta) (hb : PEg X b tb) : PEg X (.IfExp c a b pos) (tIf tc ta tb) := by
  refine ⟨fun pins s σ H Q I h => ?_⟩
  refine wpAny_IfExp (thn (hc.run pins s σ H _ I h) fun d s1 ⟨g1, H1, I1, q1⟩ => ?_)
  cases d with
  | true => exact thn (ha.run pins s1 σ H1 Q I1 q1) fun u s2 ⟨g2, q⟩ => ⟨g2.trans g1, q⟩
  | false => exact thn (hb.run pins s1 σ H1 Q I1 q1) fun u s2 ⟨g2, q⟩ => ⟨g2.trans g1, q⟩
theorem gtval {e : Expr} {t : TE} (h : PEg X e t) (he : ∀ whole, isTrue e X.env whole = (do let v ← whole; standAt e.pos; holding [v] (truthy v)) := by intro _; rfl) : PTg X e (tB t) := by
  refine ⟨fun pins s σ H Q I hw => ?_⟩
  refine isTrue_plain (thn (h.run pins s σ H _ I hw) fun v s1 ⟨g1, x, H1, I1, r1, q1⟩ => ?_) (he _)
  obtain ⟨d, rfl, q⟩ := q1
  cases r1
  exact wpAny_truthy_bool ⟨g1, H1, I1, q⟩
theorem gisi {e : Expr} {es : List Expr} {t : TA} {x : Str} {p : Pos} (hg : Gl X x) (hm : X.mg x = none) (hv : bootBuiltins x = some (.builtin "isinstance")) (ha : PAg X (e :: es) t) (hn : x ≠ "__name__" := by decide) (hdb : (x == ("__debug__" : Str)) = false := by decide)
    (he : starEach (e :: es) X.env = (false, eval e X.env) :: starEach es X.env := by rfl) (hpl : (backTo pos (starEach es X.env)).any (·.1) = false := by rfl) : PEg X (.Call (.Name x p) (e :: es) [] pos) (tCB (rIsi X.K) t) := by
  refine ⟨fun pins s σ H Q I h => ?_⟩
  refine wpAny_Call_Name_kw (ld_blt I hg hm hv ?_ hn hdb)
  refine PyProof.Rows.callWith_builtin1 (thn (ha.run pos pins s σ H _ I h) fun us s1 ⟨g1, xs, H1, I1, r, q1⟩ => ?_) he hpl
  obtain ⟨x, c, t, u, b, rfl, k, ty, e, q⟩ := q1
  obtain ⟨u1, u2, rfl, r1, r2⟩ := vals2 r
  have e2 := k.eq r2
  subst e2
  obtain ⟨P, Z, pz, hx⟩ := kit_of I1 r1 ty
  exact PySem.W.kia_one Z I1.kIn pz e hx fun tk => ⟨g1, .bl b, H1, I1.tok tk, rfl, q⟩
end
/-! ### a def that leaves them -/
structure FnG (P : Program) (w : World) (K : PySem.W.Frag) (mg : Str → Option Value) (base : Heap) (k : Nat) (f : Addr) (fd : FuncData) (ps : List Str) (sp : Sp) : Prop where
  len : ∀ vs H Q E, sp vs H Q E → vs.length = ps.length
  run : ∀ (A : Around) (outer : List Env) (s : Shared) (H : Hp) (args : Args) (us : List Value) (vs : List V) (Q : VK) (E : XK), Room k A → Env0 P w K mg base A outer s H → BindsTo s fd args (ps.zip us) → Vals vs us → sp vs H Q E →
    codeAny (model P w) A (.call (.ref f) args) (fun r s' => s'.gens = s.gens ∧ CR CX0 outer P w H s Q E r s') s
theorem FnG.ok {P : Program} {w : World} {K : PySem.W.Frag} {mg : Str → Option Value} {base : Heap} {k : Nat} {f : Addr} {fd : FuncData} {ps : List Str} {sp : Sp} (F : FnG P w K mg base k f fd ps sp) : FnOk P w K mg base CX0 k f fd ps sp :=
  ⟨F.len, fun A outer s H args us vs Q E hr e0 hb hv hs => codeAny_mono (F.run A outer s H args us vs Q E hr e0 hb hv hs) fun _ _ q => q.2⟩
theorem fng_ok {P : Program} {w : World} {K : PySem.W.Frag} {mg : Str → Option Value} {base : Heap} {x qual : Str} {st : Stmt} {f : Addr} {fd : FuncData} {N ps : List Str} {k : Nat} {sp : Sp} {e : Expr} {p3 : Pos} (F : Fun K x qual st f fd) (S : FnScope N ps (defScope st)) (hb : defBody st = [.Return (some e) p3])
    (len : ∀ vs H Q E, sp vs H Q E → vs.length = ps.length)
    (hbody : ∀ (cdv : Value) (A : Around) (outer : List Env) (s : Shared) (H : Hp) (vs : List V) (Q : VK) (E : XK), Room k (A.deeper (envOfC qual (defScope st) s.heap.objs.size f cdv)) → sp vs H Q E →
      ∃ t, PEg (cxOf CX0 P w K mg base N qual (defScope st) f cdv A outer s H E).nox e t ∧ t (start N vs) H Q) : FnG P w K mg base (k + 1) f fd ps sp := by
  obtain ⟨oc, od, kV, doc, pm, an, cdv, ct, osl, rfl, lk, hcd⟩ := F.ex
  refine ⟨len, fun A outer s H args us vs Q E hr e0 hbt r hsp => ?_⟩
  have hl := len _ _ _ _ hsp
  have KX : K.In s.heap := e0.mod.kin.keeps fun b o e => (e0.bs b o e).1
  have lim : s.heap.NoLimit := e0.mod.nolimit.keeps fun b o e => (e0.bs b o e).1
  have hkind : ∀ y ∈ ps.zip us, (defScope st).names.lookup y.1 = some .local ∨ ((defScope st).names.lookup y.1 = some .cell ∧ ((cellsFrom (s.heap.objs.size + 1) (defScope st).names []).lookup y.1).isSome = true) := fun ⟨n, v⟩ hy => by
    rcases S.par n (List.of_mem_zip hy).1 with q | q
    · exact .inl q
    · exact .inr ⟨q, PySem.W.cellsFrom_some _ _ _ (.inl q)⟩
  refine codeAny_call_function hr.depth (KX _ _ lk) rfl S.co S.gen rfl (PySem.W.codeRec_of KX hcd) (hbt _ _ _ _ ?_)
  refine wpAny_newFunctionEnv_cells S.kind hkind fun env he s1 x => ?_
  subst he
  refine ⟨lim.keeps x.toInCall.keep, codeAny_func ?_⟩
  obtain ⟨t, ht, hq⟩ := hbody cdv A outer s H vs Q E (hr.deeper _) hsp
  have I : Inv (cxOf CX0 P w K mg base N qual (defScope st) f cdv A outer s H E) [] (start N vs) H s1 := inv_start S hr.hd e0 hl r x
  obtain ⟨h1, tk, es1, hk1⟩ := x.done
  have gen1 : s1.gens = s.gens := by rw [es1]
  rw [hb]
  refine wpAny_execs_cons (wpAny_Return_some (wpAny_mono (ht.run [] s1 (start N vs) H Q (I.wish _) hq) (fun u s' hs => ?_) fun e s' hs => False.elim hs))
  obtain ⟨g, v, H', J, rv, q⟩ := hs
  exact ⟨g.trans gen1, v, H', J.os, J.bare, J.base, J.hok, rv, q⟩
/-- e.f, a property whose getter leaves them -/
theorem gprop {X : Cx} {k j : Nat} {C p g : Addr} {f : Str} {fd : FuncData} {ps : List Str} {sp : Sp} {e : Expr} {pos : Pos} {ta : TE} (he : PEg X e ta) (c : Cls X.K C) (hp : PropOf X.K C f p g) (F : FnG X.prog X.w X.K X.mg X.base k g fd ps sp) (hr : Room j X.A) (hk : k + 1 ≤ j) (hb : Binds X.K fd ps [])
    (hab : attributeBase e f X.env (eval e X.env) = eval e X.env) : PEg X (.Attribute e f pos) (tProp C sp [] E0 ta) := by
  refine ⟨fun pins s σ H Q I h => ?_⟩
  have hr := hr.mono hk
  refine attr_of hab (thn (he.run pins s σ H _ I h) fun u s1 ⟨g1, x, H1, I1, rx, a, dx, fs, ex, ea, q⟩ => ?_)
  subst ex
  obtain rfl : u = Value.ref a := rx
  obtain ⟨mA, O, _, _, _, _⟩ := ins_get I1.hok ea
  obtain ⟨od, J, _⟩ := O.look
  obtain ⟨rest, hrec⟩ := hp.rec_
  have I2 := I1.tok (s1.toks + 1)
  have hl : ([Value.ref a] ++ []).length = ps.length := by
    rw [← F.len _ _ _ _ q]; rfl
  have hc : (PySem.W.clsIn X.K C).isSome = true := by
    obtain ⟨cd, hc, _⟩ := PySem.W.any_some c.hd
    rw [hc]
    rfl
  refine PySem.W.get_bind I1.kIn J (PySem.W.plainGet_of (c.get f)).1 (PySem.W.findObj_data hc hp.at_ hp.get hp.tak) (PySem.W.plainGet_of (c.get f)).2 (wpAny_call (PySem.W.prop_get (s := { s1 with toks := s1.toks + 1 }) I1.kIn hrec ?_))
  refine codeAny_mono (F.run X.A.in1 X.stack { s1 with toks := s1.toks + 1 } H1 ⟨[.ref a], []⟩ [.ref a] [.ref a] Q E0 hr.in1 I2.env0.in1 (by have z := hb { s1 with toks := s1.toks + 1 } [.ref a] I2.kIn hl; rw [List.append_nil] at z; exact z) (.cons rfl .nil) q) fun r s' hq => ?_
  cases r with
  | error er => exact False.elim hq.2
  | ok fl =>
    cases fl with
    | ret u =>
      obtain ⟨g2, hq⟩ := hq
      obtain ⟨v, H', I3, rv, q3⟩ := I2.after hq
      show wpAny _ _ (handedOut u) _ _ _
      rw [PySem.W.handedOut_of (handed_of rv)]
      exact wpAny_pure ⟨g2.trans g1, v, H', I3, rv, q3⟩
    | next => exact False.elim hq.2
    | brk => exact False.elim hq.2
    | cont => exact False.elim hq.2
/-! ### storing -/
section
variable {X : Cx} {pins : List (Addr × Obj)} {σ : L2.St} {H : Hp} {s : Shared}
theorem gstore {E : Value → Shared → Prop} {i : Nat} {x : Str} {v : V} {u : Value} {Q : Unit → Shared → Prop} (I : Inv X pins σ H s) (hN : X.N.Nodup) (hi : X.N[i]? = some x) (hk : X.env.scope.names.lookup x = some .local) (r : RelV v u)
    (h : ∀ s', s'.gens = s.gens → Inv X pins (σ.set i (some v)) H s' → Q () s') : wpAny (model X.prog X.w) X.A (storeName X.env x u) Q E s := by
  obtain ⟨m, hn, hl⟩ := id I.loc
  have hcls : (X.env.scope.kind == .class || (X.env.scope.kind == .module && X.env.locals != X.env.globals)) = false := by rw [I.ok.kind]; rfl
  have hiσ : i < σ.length := by rw [I.len]; exact (List.getElem?_eq_some_iff.mp hi).1
  have cne := I.cne
  refine wpAny_storeName_local hk hn (fun h' hn' hs => ?_) hcls
  obtain ⟨oL, _, _, hoL, _⟩ := id hn
  have neL : ∀ b o, X.s_0.heap.get? b = some o → b ≠ X.env.locals := fun b o e => Nat.ne_of_lt (Nat.lt_of_lt_of_le (Heap.lt_size e) I.ok.above)
  refine h _ rfl ⟨I.ok, I.os, I.bare, ⟨fun b o e n hb hx => ?_, fun b o e n hb hx => ?_, I.base.free, fun b o e hx => ?_, I.base.tups, I.base.frzs, I.base.tbls⟩, ⟨_, hn', fun j y v' e1 e2 e3 => ?_⟩, fun y c e => ?_, I.free, I.freeC, fun p hp => ?_, fun b ob e => ?_, by simpa using I.len⟩
  · exact (hs.2 b (neL b o e)).trans (I.base.keep b o e n hb hx)
  · obtain ⟨sl, e1⟩ := I.base.slot b o e n hb hx
    exact ⟨sl, (hs.2 b (neL b o e)).trans e1⟩
  · obtain ⟨o', e1⟩ := I.base.there b o e hx
    exact ⟨o', (hs.2 b (neL b o e)).trans e1⟩
  · by_cases hj : j = i
    · subst hj
      rw [hi] at e1; cases e1
      rw [List.getElem?_set_self hiσ] at e2
      cases e2
      exact ⟨u, r, .inl ⟨hk, by simp⟩⟩
    · rw [List.getElem?_set_ne (Ne.symm hj)] at e2
      obtain ⟨u', r', q⟩ := hl j y v' e1 e2 e3
      refine ⟨u', r', ?_⟩
      rcases q with ⟨k, e⟩ | ⟨k, c, e, z⟩
      · refine .inl ⟨k, ?_⟩
        have : y ≠ x := fun e => hj (nodup_ix hN e1 (e ▸ hi))
        simp [this, e]
      · exact .inr ⟨k, c, e, z.sameBut hs (cne y c e)⟩
  · obtain ⟨w', z⟩ := I.cell y c e
    exact ⟨w', z.sameBut hs (cne y c e)⟩
  · obtain ⟨e, n, ne, nf, d⟩ := I.pin p hp
    exact ⟨(hs.2 p.1 ne).trans e, n, ne, nf, d⟩
  · refine (I.hok b ob e).stay (fun c w' hc q => (hs.2 c ?_).trans q) (fun _ q => q) fun _ _ q => q
    intro z
    subst z
    rcases hc with hc | hc
    · rw [← hc, I.free] at e; cases e
    · rw [I.free] at hc; cases hc
/-- (a, b) = a tuple of two, both plain names -/
theorem gpair {E : Value → Shared → Prop} {i j : Nat} {x y : Str} {p1 p2 p3 : Pos} {k : Nat} {a : Addr} {v1 v2 : V} {Q : Unit → Shared → Prop} (hc : X.calm = true) (I : Inv X pins σ H s) (hN : X.N.Nodup) (hi : X.N[i]? = some x) (hj : X.N[j]? = some y) (hx : X.env.scope.names.lookup x = some .local) (hy : X.env.scope.names.lookup y = some .local) (ht : H a = some (.tup [v1, v2]))
    (h : ∀ s', s'.gens = s.gens → Inv X pins ((σ.set i (some v1)).set j (some v2)) H s' → Q () s') :
    wpAny (model X.prog X.w) X.A (assign (.Tuple [.Name x p1, .Name y p2] k p3) X.env (.ref a)) Q E s := by
  obtain ⟨hz, its, rv, hT⟩ := I.hok a _ ht
  obtain ⟨u1, u2, rfl, r1, r2⟩ := vals2 rv
  refine assign_Tuple_tuple (I.ok.hd hc) hT (by rfl) (by rfl) fun h' hx' => ?_
  have I1 : Inv X pins σ H { s with heap := h' } := I.kept (t' := s.toks) fun b o e => hx' b o (Nat.ne_of_lt (Heap.lt_size e)) e
  show wpAny _ _ (assignInOrder (assign (.Name x p1) X.env :: assign (.Name y p2) X.env :: []) [u1, u2]) _ _ _
  refine assignInOrder_cons (wpAny_assign_Name (gstore I1 hN hi hx r1 fun s2 g2 I2 => ?_))
  refine assignInOrder_cons (wpAny_assign_Name (gstore I2 hN hj hy r2 fun s3 g3 I3 => ?_))
  exact assignInOrder_nil (h s3 (g3.trans g2) I3)
/-- an item appended to a tracked list -/
theorem gapp {E : Value → Shared → Prop} {D : Addr} {xs : List V} {y : V} {v : Value} {Q : Value → Shared → Prop} (I : Inv X pins σ H s) (hD : H D = some (.lst xs)) (hz : xs.length < sizeLine) (r : RelV y v)
    (h : ∀ s', s'.gens = s.gens → Inv X pins σ (upd H D (.lst (xs ++ [y]))) s' → Q .none s') : wpAny (model X.prog X.w) X.A (call (.builtin "list.append") [.ref D, v]) Q E s := by
  obtain ⟨hz', its, n, ri, e⟩ := I.hok D _ hD
  have hl := ri.length
  refine append_at (hsz := by rw [List.size_toArray]; omega) e fun h' sb ho' => ?_
  refine h { s with heap := h' } rfl (I.write (t' := s.toks) (by rw [hD]; trivial) (.inl rfl) (fun b u hb q => (sb.2 b hb).trans q) ⟨_, ho'⟩ ⟨by rw [List.length_append]; exact hz, its ++ [v], n + 1, ri.append (.cons r .nil), ?_⟩)
  rw [ho']
  simp
end
end K18
/-! [elt for x, y in o.m()], m a generator def -/
namespace K18
open PySem PySem.Spec PyProof.Rows L2 GenW
/-- an expression whose value is such a generator, not begun -/
structure PHen (X : Cx) (k : Nat) (e : Expr) (sp : SpH) (t : L2.St → Hp → (List V → Hp → Prop) → Prop) : Prop where
  run : ∀ (pins : List (Addr × Obj)) (s : Shared) (σ : L2.St) (H : Hp) (R : List V → Hp → Prop), Inv X pins σ H s → t σ H R → wpAny (model X.prog X.w) X.A (eval e X.env)
    (fun u s' => ∃ H1 sc vs a L g c, u = .ref a ∧ Inv X pins σ H1 sc ∧ HMade X.prog X.w k X.stack H1 sc sp vs s' a L g c ∧ R vs H1) X.xe s
def tHen (C : Addr) (m : Str) (ta : TE) : L2.St → Hp → (List V → Hp → Prop) → Prop := fun σ H R => ta σ H fun x H1 => ∃ a dx fs, x = .ref a ∧ H1 a = some (.ins C dx fs) ∧ fs.lookup m = none ∧ R [x] H1
/-- o.m() -/
theorem phen_meth0 {X : Cx} {k j : Nat} {f C : Addr} {fd : FuncData} {ps : List Str} {sp : SpH} {m : Str} {apos pos : Pos} {o : Expr} {ta : TE} {pl : Sem Bool} (he : PE X o ta) (c : Cls X.K C) (hm : Meth X.K C m f) (F : HFn X.prog X.w X.K X.mg X.base k f fd ps sp) (hr : Room j X.A) (hk : k ≤ j) (hb : Binds X.K fd ps []) (hl : ps.length = 1)
    (ht : eval (.Call (.Attribute o m apos) [] [] pos) X.env = (do
      let ov ← eval o X.env
      standAt apos.atName
      let (f, first) ← holding [ov] (getMethod ov m pl)
      callWith pos f first (backTo pos (starEach [] X.env)) (backToKw pos (keywordEach [] X.env))) := by rfl) :
    PHen X k (.Call (.Attribute o m apos) [] [] pos) sp (tHen C m ta) := by
  refine ⟨fun pins s σ H R I h => ?_⟩
  refine PySem.W.methodCall_KW (pl := pl) (thn (he.run pins s σ H _ I h) fun u s1 ⟨x, H1, I1, rx, a, dx, fs, ex, ea, l, q⟩ => ?_) ht
  subst ex
  obtain rfl : u = Value.ref a := rx
  refine getmeth_ok I1 ea c hm l ?_
  refine PySem.W.callWith_K0 (first := [.ref a]) I1.kIn hm.kp ?_
  have hl1 : ([Value.ref a] ++ []).length = ps.length := by rw [hl]; rfl
  refine wpAny_call (codeAny_mono (F.run X.A X.stack s1 H1 ⟨[.ref a], []⟩ [.ref a] [.ref a] (hr.mono hk) I1.env0 (by have z := hb s1 [.ref a] I1.kIn hl1; rw [List.append_nil] at z; exact z) (.cons rfl .nil) hl.symm) fun r s' hq => ?_)
  cases r with
  | error e => exact False.elim hq
  | ok fl =>
    cases fl with
    | ret u =>
      obtain ⟨a', L, g, c', e, M⟩ := hq
      exact ⟨H1, s1, [.ref a], a', L, g, c', e, I1, M, q⟩
    | next => exact False.elim hq
    | brk => exact False.elim hq
    | cont => exact False.elim hq
section
variable {X : Cx} {pins : List (Addr × Obj)} {σ σ' : L2.St} {H1 H3 H : Hp} {s sc s3 : Shared}
/-- the block's context told from an earlier state -/
theorem reblk {scope : Scope} {ce : Env} {pins' : List (Addr × Obj)} (I : Inv X pins σ H1 sc) (J : Inv (X.blk s3 H3 scope ce []) pins' σ' H s) (hsz : sc.heap.objs.size ≤ s3.heap.objs.size) (un : Un (frs X.stack) [] H1 H sc.heap s.heap) (os : s.os = sc.os) :
    Inv (X.blk sc H1 scope ce []) pins' σ' H s :=
  ⟨⟨J.ok.mod, J.ok.kind, J.ok.glob, J.ok.blt, Nat.le_trans hsz J.ok.above, J.ok.inj, J.ok.has, fun x c h e => Nat.le_trans hsz (J.ok.cab x c h e), J.ok.hd, J.ok.frames, J.ok.stk, fun b hb => absurd hb (by simp), I.bs, Nat.le_trans I.ok.bsz I.sz, fun b o e hb => absurd hb (by simp), fun b hb => absurd hb (by simp), I.stack, I.stkFree⟩,
    os, J.bare, un, J.loc, J.cell, J.free, J.freeC, J.pin, J.hok, J.len⟩
/-- back in the block, behind others' work -/
theorem blkBack {scope : Scope} {ce : Env} {pins1 pins2 : List (Addr × Obj)} {H2 : Hp} {s2 : Shared} (J : Inv (X.blk sc H1 scope ce []) pins1 σ' H s) (nc : ∀ x, ce.cells.lookup x = none) (os : s2.os = sc.os) (bare : AllBare s2.gens) (un : Un (frs X.stack) [] H1 H2 sc.heap s2.heap) (hok : HOk X.prog X.w H2 s2.heap)
    (own : ∀ o, s.heap.get? ce.locals = some o → s2.heap.get? ce.locals = some o ∧ H2 ce.locals = none)
    (pn : ∀ q ∈ pins2, s2.heap.get? q.1 = some q.2 ∧ H2 q.1 = none ∧ q.1 ≠ ce.locals ∧ q.1 ∉ frs X.stack ∧ ∀ v, q.2.data ≠ .cell v) : Inv (X.blk sc H1 scope ce []) pins2 σ' H2 s2 := by
  obtain ⟨m, hn, hl⟩ := J.loc
  obtain ⟨oL, es, ep, ho, r⟩ := id hn
  obtain ⟨e1, e2⟩ := own oL ho
  refine ⟨J.ok, os, bare, un, ⟨m, ⟨oL, es, ep, e1, r⟩, fun i y v z1 z2 z3 => ?_⟩, fun y c e => absurd (e.symm.trans (nc y)) (by simp), e2, fun y c e => absurd (e.symm.trans (nc y)) (by simp), fun q hq => pn q hq, hok, J.len⟩
  obtain ⟨u, ru, l⟩ := hl i y v z1 z2 z3
  refine ⟨u, ru, ?_⟩
  rcases l with l | ⟨_, c, e, _⟩
  · exact .inl l
  · exact absurd (e.symm.trans (nc y)) (by simp)
theorem cloFrom_nil {cells : List (Str × Addr)} : ∀ {names : List (Str × NameKind)} {acc : List (Str × Addr)}, (∀ y ∈ names, y.2 ≠ .free) → cloFrom cells names acc = acc
  | [], _, _ => rfl
  | (x, k) :: r, acc, h => by
    unfold cloFrom
    have hk : ¬ (k == NameKind.free) = true := fun z => h (x, k) List.mem_cons_self (by simpa using z)
    rw [if_neg hk]
    exact cloFrom_nil fun y hy => h y (List.mem_cons_of_mem _ hy)
end
/-- the reading: D the new list, C the block's frame -/
def tLcg (sp : SpH) (i j : Nat) (ti : L2.St → Hp → (List V → Hp → Prop) → Prop) (te : TE) (vs : List Nat) : TE := fun σ H Q => ti σ H fun us H1 => ∀ D C, H1 D = none → H1 C = none → D ≠ C → ∃ (p : Pact) (Qg : List V → Hp → Prop), p.pa = [C] ∧ sp p us (upd H1 D (.lst [])) Qg ∧
  (∀ ys x H2, p.YP ys x H2 → ∃ tp v1 v2, x = .ref tp ∧ H2 tp = some (.tup [v1, v2]) ∧ te (((wipe σ vs).set i (some v1)).set j (some v2)) H2 fun y H4 => ∃ acc, H4 D = some (.lst acc) ∧ acc.length < sizeLine ∧ p.RH ys x H2 (upd H4 D (.lst (acc ++ [y])))) ∧
  ∀ ys H2, Qg ys H2 → Q (.ref D) H2
theorem pe_lcg {X : Cx} {k kr : Nat} {elt iter : Expr} {scope : Scope} {own : List (Str × Nat)} {x y : Str} {i j kk : Nat} {p1 p2 p3 pos : Pos} {sp : SpH} {ti : L2.St → Hp → (List V → Hp → Prop) → Prop} {te : TE} (hc : X.calm = true) (hN : X.N.Nodup) (hr : Room kr X.A) (hkr : k + 1 ≤ kr) (hi : PHen X k iter sp ti) (ok : BlkOk X.N X.env.scope scope own)
    (nfc : ∀ y ∈ scope.names, y.2 ≠ .free ∧ y.2 ≠ .cell) (ix : X.N[i]? = some x) (jy : X.N[j]? = some y) (kx : scope.names.lookup x = some .local) (ky : scope.names.lookup y = some .local) (iv : i ∈ own.map (·.2)) (jv : j ∈ own.map (·.2))
    (he : ∀ (s : Shared) (H : Hp) (C : Addr) (cl : List (Str × Addr)), PEg (X.blk s H scope (compEnvC scope cl C X.env) []) elt te) (hs : ∀ x, foldedSetIterable iter X.env x = pure x := by intro _; rfl) :
    PE X (.ListComp elt [⟨.Tuple [.Name x p1, .Name y p2] kk p3, iter, [], 0⟩] scope pos) (tLcg sp i j ti te (own.map (·.2))) := by
  have hr := hr.mono hkr
  refine ⟨fun pins s σ H Q I h => ?_⟩
  rw [eval_ListComp]
  have hfree : ∀ y ∈ scope.names, y.2 = .free → ∃ c, X.env.cells.lookup y.1 = some c := fun y hy e => absurd e (nfc y hy).1
  refine wpAny_comprehension_free (use := none) rfl hs (closure_ok hfree) ok.kind (fun y hy e => by rw [ok.uniq y hy, e]) (thn (hi.run pins s σ H _ I h) fun xv s1 hx => ?_)
  obtain ⟨H1, sc, us, a, L, g, c, rfl, I1, M, q⟩ := hx
  refine wpAny_pyIter_gen M.gen ?_
  refine wpAny_newObj_type (newEnv_comp ?_) (by show 0 ≤ sizeLine; decide)
  have hsz1 : sc.heap.objs.size ≤ s1.heap.objs.size := Nat.le_trans M.a1 (Nat.le_of_lt M.a2)
  generalize hD : s1.heap.objs.size = D
  have hDn : H1 D = none := I1.hok.fresh (by rw [← hD]; exact hsz1)
  generalize hs3 : ({ s1 with heap := s1.heap.push { cls := .type "list", data := .seq ([] : List Value).toArray } } : Shared) = s3
  have h3 : s3.heap = s1.heap.push { cls := .type "list", data := .seq ([] : List Value).toArray } := by rw [← hs3]
  have sz3 : s3.heap.objs.size = s1.heap.objs.size + 1 := by rw [h3]; exact Heap.size_push ..
  have kp3 : ∀ b o, s1.heap.get? b = some o → s3.heap.get? b = some o := fun b o e => by rw [h3]; exact Heap.get?_push_of_some _ e
  have os3 : s3.os = sc.os := by rw [← hs3]; exact M.os
  have g3 : s3.gens = s1.gens := by rw [← hs3]
  have tk3 : s3 = { sc with heap := s3.heap, gens := s3.gens, drawn := s3.drawn, toks := s3.toks } := by
    obtain ⟨b1, b2, b3, b4, b5⟩ := s3
    have z : b5 = sc.os := os3
    rw [z]
  have I1' : Inv X pins σ H1 s1 := I1.call' (ch := []) M.os (Un.kept M.keep) (I1.hok.kept M.keep) M.bare (fun b hb => absurd hb (by simp))
  have I3 : Inv X pins σ (upd H1 D (.lst [])) s3 := by
    rw [← hs3]
    refine I1'.laid (t' := s1.toks) (fun b o e => Heap.get?_push_of_some _ e) (Nat.le_of_eq hD) ⟨Nat.zero_le _, [], 0, .nil, ?_⟩
    rw [← hD]
    exact Heap.get?_push_size _ rfl
  have hcn : H1 s3.heap.objs.size = none := I1.hok.fresh (by rw [sz3]; exact Nat.le_succ_of_le hsz1)
  have hDC : D ≠ s3.heap.objs.size := by rw [sz3, ← hD]; exact Nat.ne_of_lt (Nat.lt_succ_self _)
  obtain ⟨p, Qg, hpa, hsp, hturn, hend⟩ := q D s3.heap.objs.size hDn hcn hDC
  have I4 := block_start (fp := []) I3 ok hN (fun b hb => absurd hb (by simp))
  have hcl : cellsFrom (s3.heap.objs.size + 1) scope.names (cloFrom X.env.cells scope.names []) = [] := by
    rw [cloFrom_nil fun y hy => (nfc y hy).1, cellsFrom_nil fun y hy => (nfc y hy).2]
  rw [hcl] at I4
  show codeAny _ _ (.compStart (.ListComp elt [⟨.Tuple [.Name x p1, .Name y p2] kk p3, iter, [], 0⟩] scope pos) 0 (.ref a) (.ref D) (compEnvC scope (cellsFrom (s3.heap.objs.size + 1) scope.names (cloFrom X.env.cells scope.names [])) s3.heap.objs.size X.env)) (compPost (model X.prog X.w) X.A X.xe none _ (.ref D) s3.heap.objs.size) { s3 with heap := pushCells (s3.heap.push { cls := .type "dict", data := .dict #[] }) scope.names }
  rw [hcl]
  have pe := he sc H1 s3.heap.objs.size []
  generalize hce : compEnvC scope [] s3.heap.objs.size X.env = ce at I4 pe ⊢
  have cL : ce.locals = s3.heap.objs.size := by subst hce; rfl
  have cC : ∀ x, ce.cells.lookup x = none := fun x => by subst hce; rfl
  have cN : ce.scope.names.lookup x = some .local ∧ ce.scope.names.lookup y = some .local := by
    subst hce
    exact ⟨lookup_relS_keep (by decide) kx, lookup_relS_keep (by decide) ky⟩
  generalize hs4 : ({ s3 with heap := pushCells (s3.heap.push { cls := .type "dict", data := .dict #[] }) scope.names } : Shared) = s4 at I4 ⊢
  have kp4 : ∀ b o, s1.heap.get? b = some o → s4.heap.get? b = some o := fun b o e => by rw [← hs4]; exact pushCells_keeps _ _ _ _ (Heap.get?_push_of_some _ (kp3 b o e))
  have un4 : Un (frs X.stack) [] H1 (upd H1 D (.lst [])) sc.heap s4.heap := Un.laid (fun b o e => kp4 b o (M.keep b o e)) (by rw [← hD]; exact hsz1) hDn
  have os4 : s4.os = sc.os := by rw [← hs4]; exact os3
  have gn4 : s4.gens = s1.gens := by rw [← hs4]; exact g3
  have szC : sc.heap.objs.size ≤ s3.heap.objs.size := by rw [sz3]; exact Nat.le_succ_of_le hsz1
  have I5 : Inv (X.blk sc H1 scope ce []) [] (wipe σ (own.map (·.2))) (upd H1 D (.lst [])) s4 := reblk I1 I4 szC un4 os4
  have frOld : ∀ b, sc.heap.objs.size ≤ b → b ∉ frs X.stack := fun b hb hm => by
    rcases List.mem_cons.mp (I1.stkSub b hm) with z | z
    · exact absurd I1.lt (by rw [← z]; exact Nat.not_lt.mpr hb)
    · exact I1.nofs hb z
  have lC : L ≠ ce.locals := by rw [cL, sz3]; exact Nat.ne_of_lt (Nat.lt_succ_of_lt M.l2)
  have aC : a ≠ ce.locals := by rw [cL, sz3]; exact Nat.ne_of_lt (Nat.lt_succ_of_lt M.a2)
  -- what is pinned while the block's own code runs
  have pinOf : ∀ {Hx : Hp} {h : Heap}, (∀ b, (b = L ∨ b = a) → ∃ o, h.get? b = some o ∧ Hx b = none ∧ ∀ v, o.data ≠ .cell v) → ∃ pl : List (Addr × Obj), (∀ b, (b = L ∨ b = a) → ∃ o, (b, o) ∈ pl) ∧ ∀ q ∈ pl, h.get? q.1 = some q.2 ∧ Hx q.1 = none ∧ q.1 ≠ ce.locals ∧ q.1 ∉ frs X.stack ∧ ∀ v, q.2.data ≠ .cell v := fun {Hx h} hz => by
    obtain ⟨oL, l1, l2, l3⟩ := hz L (.inl rfl)
    obtain ⟨oa, a1, a2, a3⟩ := hz a (.inr rfl)
    refine ⟨[(L, oL), (a, oa)], fun b hb => ?_, fun q hq => ?_⟩
    · rcases hb with z | z
      · exact ⟨oL, by rw [z]; exact List.mem_cons_self⟩
      · exact ⟨oa, by rw [z]; exact List.mem_cons_of_mem _ List.mem_cons_self⟩
    · rcases List.mem_cons.mp hq with z | z
      · rw [z]; exact ⟨l1, l2, lC, frOld L M.l1, l3⟩
      · rw [List.mem_singleton.mp z]; exact ⟨a1, a2, aC, frOld a M.a1, a3⟩
  have own4 : ∀ b, (b = L ∨ b = a) → ∃ o, s4.heap.get? b = some o ∧ (upd H1 D (.lst [])) b = none ∧ ∀ v, o.data ≠ .cell v := fun b hb => by
    obtain ⟨o, e1, e2⟩ := M.own b hb
    have hlt := Heap.lt_size e1
    refine ⟨o, kp4 b o e1, ?_, e2⟩
    rw [upd_ne (by rw [← hD]; exact Nat.ne_of_lt hlt)]
    rcases hb with z | z
    · rw [z]; exact I1.hok.fresh M.l1
    · rw [z]; exact I1.hok.fresh M.a1
  obtain ⟨pl4, pl4a, pl4b⟩ := pinOf own4
  have I6 : Inv (X.blk sc H1 scope ce []) pl4 (wipe σ (own.map (·.2))) (upd H1 D (.lst [])) s4 := I5.pins_of pl4b
  have hg4 : s4.heap.IsGen a g := M.gen.keeps kp4
  have gsz : g < s4.gens.size := by rw [gn4]; exact (Array.getElem?_eq_some_iff.mp M.fresh).1
  have paF : ∀ {Hx : Hp} {sx : Shared} {σx : L2.St} {pl : List (Addr × Obj)}, Inv (X.blk sc H1 scope ce []) pl σx Hx sx → ∀ b ∈ p.pa, ∃ o, sx.heap.get? b = some o ∧ Hx b = none ∧ ∀ v, o.data ≠ .cell v := fun {Hx sx σx pl} J b hb => by
    rw [hpa] at hb
    rw [List.mem_singleton.mp hb, ← cL]
    obtain ⟨m, ⟨o, es, ep, ho, hd, _⟩, _⟩ := J.loc
    exact ⟨o, ho, J.free, fun v q => by rw [hd] at q; cases q⟩
  have rin : Room k X.A.in1 := hr.in1
  have goes0 : (GenState.fresh c).Goes (model X.prog X.w) X.A.in1 (HEnd X.prog X.w X.stack H1 sc p Qg) (HItem X.prog X.w X.stack H1 sc p L a g) sizeLine (.send .none) (s4.setGen g .running) := by
    refine ⟨rfl, M.wake X.A.in1 p (upd H1 D (.lst [])) (s4.setGen g .running) Qg rin I1.ok.frames (fun b hb => ?_) (fun b o hb e => ?_) un4 I5.hok os4 (allBare_setGen (by rw [gn4]; exact M.bare) rfl) hsp⟩
    · refine ⟨?_, paF I5 b hb⟩
      rw [hpa] at hb
      rw [List.mem_singleton.mp hb, sz3]
      exact Nat.le_succ _
    · obtain ⟨o', e1, e2, _⟩ := own4 b hb
      exact ⟨kp4 b o e, e2⟩
  have loop : codeAny (model X.prog X.w) X.A (.compLoop (.ListComp elt [⟨.Tuple [.Name x p1, .Name y p2] kk p3, iter, [], 0⟩] scope pos) 0 (.ref a) (.ref D) ce) (compPost (model X.prog X.w) X.A X.xe none (EP X pins σ Q) (.ref D) s3.heap.objs.size) s4 := by
    refine compLoop_any (fun n s' => ∃ H' gs pl, Inv (X.blk sc H1 scope ce []) pl (wipe σ (own.map (·.2))) H' s' ∧ (∀ b, (b = L ∨ b = a) → ∃ o, (b, o) ∈ pl) ∧ s'.heap.IsGen a g ∧ s'.gens[g]? = some gs ∧ gs.Goes (model X.prog X.w) X.A.in1 (HEnd X.prog X.w X.stack H1 sc p Qg) (HItem X.prog X.w X.stack H1 sc p L a g) n (.send .none) (s'.setGen g .running)) ?_ sizeLine
      ⟨_, _, pl4, I6, pl4a, hg4, by rw [gn4]; exact M.fresh, goes0⟩
    rintro n s5 ⟨H5, gs, pl, J5, hpl, hg5, hgs5, hgo⟩
    have gsz5 : g < s5.gens.size := (Array.getElem?_eq_some_iff.mp hgs5).1
    refine wpAny_gsz (n := g + 1) gsz5 (next_genG (A := X.A) (F := HFin X.prog X.w X.stack H1 sc p Qg) (Er := fun _ _ => False) (I1.ok.hd hc) J5.nolimit hr.depth hg5 hgs5 hgo (fun v s6 gs' hbare hY => ?_) (fun s6 hF h' hk => ?_) fun e s6 z => False.elim z)
    · intro hsz
      obtain ⟨ys, xv, Hy, O, wake⟩ := hY
      have hsz6 : g < s6.gens.size := by
        have q : (s6.setGen g gs').gens.size = s6.gens.size := setGen_size _ _ _
        have hsz' : g + 1 ≤ (s6.setGen g gs').gens.size := hsz
        omega
      obtain ⟨pl6, pl6a, pl6b⟩ := pinOf O.own
      have J6 : Inv (X.blk sc H1 scope ce []) pl6 (wipe σ (own.map (·.2))) Hy (s6.setGen g gs') := by
        refine blkBack (s2 := s6.setGen g gs') J5 cC O.os (allBare_setGen O.bare hbare) O.un O.hok (fun o e => ?_) pl6b
        obtain ⟨o', z1, z2, z3⟩ := O.pa ce.locals (by rw [hpa, cL]; exact List.mem_singleton.mpr rfl)
        have z1' : s5.heap.get? ce.locals = some o' := z1
        rw [e] at z1'
        cases z1'
        exact ⟨z2, z3⟩
      obtain ⟨tp, v1, v2, ex, et, hte⟩ := hturn ys xv Hy O.yp
      subst ex
      obtain rfl : v = Value.ref tp := O.rel
      obtain ⟨og, nm, qn, ho, hcg, hdg, hsg⟩ := O.gen
      refine go_of (s := s6.setGen g gs') ho hcg hdg (by decide) ?_
      refine gpair (X := X.blk sc H1 scope ce []) hc J6 hN ix jy cN.1 cN.2 et fun s8 g8 J8 => ?_
      refine wpAny_tests_nil ?_
      show wpAny _ _ (eval elt ce) _ _ _
      refine thnF (pe.run pl6 s8 _ Hy _ J8 hte) fun z s10 ⟨g10, yv, H10, J10, r10, acc, hD10, hz10, hrh⟩ => ?_
      refine gapp (X := X.blk sc H1 scope ce []) J10 hD10 hz10 r10 fun s11 g11 J11 => ?_
      have gAll : s11.gens = (s6.setGen g gs').gens := g11.trans (g10.trans g8)
      have gAt : s11.gens[g]? = some gs' := by rw [gAll]; exact setGen_at hsz6
      have pinK : ∀ b o, (b = L ∨ b = a) → s6.heap.get? b = some o → s11.heap.get? b = some o ∧ (upd H10 D (.lst (acc ++ [yv]))) b = none := fun b o hb e => by
        obtain ⟨o', hm⟩ := pl6a b hb
        obtain ⟨z1, z2, _⟩ := J11.pin (b, o') (List.mem_append_right _ hm)
        have z3 := (pl6b _ hm).1
        rw [e] at z3
        cases z3
        exact ⟨z1, z2⟩
      have W : WokeO X.prog X.w X.stack H1 sc p L a ys (.ref tp) Hy s6 (upd H10 D (.lst (acc ++ [yv]))) (s11.setGen g .running) :=
        ⟨J11.os, allBare_setGen J11.bare rfl, J11.hok, J11.base, pinK, fun b hb => paF J11 b hb, hrh⟩
      have kk := wake _ _ W
      cases n with
      | zero => exact False.elim kk
      | succ m =>
        refine ⟨m, Nat.lt_succ_self _, _, gs', pl6, J11.weak ?_ fun q v e => ?_, pl6a, ?_, gAt, kk⟩
        · rw [List.length_set, List.length_set]
        · obtain ⟨_, hne⟩ := wipe_some e
          rw [List.getElem?_set_ne (fun z => hne (by rw [← z]; exact jv)), List.getElem?_set_ne (fun z => hne (by rw [← z]; exact iv))]
          exact e
        · exact ⟨og, nm, qn, (pinK a og (.inr rfl) ho).1, hcg, hdg, hsg⟩
    · intro _
      obtain ⟨ys, H', hn, os6, bare6, un6, hok6, pa6, hQ⟩ := hF
      obtain ⟨o', z1, z2, z3⟩ := pa6 ce.locals (by rw [hpa, cL]; exact List.mem_singleton.mpr rfl)
      have un7 : Un (frs X.stack) [] H1 H' sc.heap h' := un6.trans (Un.kept hk)
      have I7 : Inv X pins σ H' { s6.setGen g .finished with heap := h' } := I1.call' (ch := []) os6 un7 (hok6.kept hk) (allBare_setGen bare6 rfl) (fun b hb => absurd hb (by simp))
      obtain ⟨m, ⟨oL, es, ep, hoL, rL⟩, _⟩ := J5.loc
      have z1' : s5.heap.get? ce.locals = some o' := z1
      have hoL' : s5.heap.get? ce.locals = some oL := hoL
      have e6 : oL = o' := Option.some.inj (hoL'.symm.trans z1')
      have hnC : h'.Ns s3.heap.objs.size m := by
        rw [← cL]
        exact ⟨oL, es, ep, by rw [e6]; exact hk _ _ z2, rL⟩
      refine ⟨m, hnC, fun h'' sb => ?_⟩
      obtain ⟨f0, f1, f2, f3, f4, f5⟩ := I1.fpOk (H' := H') szC (by rw [← cL]; exact z3)
      exact ⟨.ref D, H', I7.turned (t' := s6.toks) (fun b o hb e => (sb.2 b hb).trans e) f0 f1 f3 f4 f5, rfl, hend ys H' hQ⟩
  exact codeAny_compStart_list loop (wpAny_pyIter_gen hg4 loop)
end K18
/-! operators that an own class answers -/
namespace K18
open PySem PySem.Spec PyProof.Rows L2
/-- an own class whose instances are plain -/
structure OwnC (K : PySem.W.Frag) (C : Addr) : Prop where
  cls : Cls K C
  ha : PySem.W.findIn K (.ref C) "__class__" = some (some (.builtin "object.__class__"))
  hn : PySem.W.specialIn K (.builtin "object.__class__") "__get__" = some (some (.builtin "getset_descriptor.__get__"))
  htk : PySem.W.takesIn K (.builtin "object.__class__") = some true
  hm : PySem.W.mroIn K C (.type "object") = some true
theorem OwnC.ty {K : PySem.W.Frag} {C a dx : Addr} {fs : List (Str × V)} {H : Hp} (o : OwnC K C) (e : H a = some (.ins C dx fs)) : TyX K H (.ref a) (.ref C) := .base (.ins e o.cls o.ha o.hn o.htk o.hm)
/-- a def of the class under a name of the interpreter's protocols -/
structure Du (P : Program) (w : World) (K : PySem.W.Frag) (mg : Str → Option Value) (base : Heap) (CX : CXT) (k : Nat) (C : Addr) (m : Str) (sp : Sp) : Prop where
  ex : ∃ (f : Addr) (fd : FuncData) (ps : List Str), PySem.W.findIn K (.ref C) m = some (some (.ref f)) ∧ PySem.W.isFn K (.ref f) = true ∧ PySem.W.fnIn K f = true ∧ FnOk P w K mg base CX k f fd ps sp ∧ Binds K fd ps []
section
variable {X : Cx} {CX : CXT} {k j : Nat} {C : Addr} {m : Str} {sp : Sp} {E : XK} {pins : List (Addr × Obj)} {σ : L2.St} {H : Hp} {s : Shared}
theorem run_spX {f : Addr} {fd : FuncData} {ps : List Str} {us : List Value} {vs : List V} {Q : VK} (F : FnOk X.prog X.w X.K X.mg X.base CX k f fd ps sp) (hr : Room k X.A) (hb : Binds X.K fd ps []) (hx : Passes CX X E) (I : Inv X pins σ H s) (r : Vals vs us) (h : sp vs H Q E) :
    wpAny (model X.prog X.w) X.A (call (.ref f) us) (EP X pins σ Q) X.xe s :=
  run_fn (dvs := []) F hr hb .nil hx I r (by rw [List.append_nil]; exact h)
/-- y in o, y not in o: o's class answers -/
def rInO (C : Addr) (sp : Sp) : R2 := fun y x H Q => ∃ a dx fs, x = .ref a ∧ H a = some (.ins C dx fs) ∧ sp [.ref a, y] H (fun v H1 => ∃ b, v = .bl b ∧ Q (.bl b) H1) E0
def rNinO (C : Addr) (sp : Sp) : R2 := fun y x H Q => ∃ a dx fs, x = .ref a ∧ H a = some (.ins C dx fs) ∧ sp [.ref a, y] H (fun v H1 => ∃ b, v = .bl b ∧ Q (.bl (!b)) H1) E0
theorem op_inO (c : Du X.prog X.w X.K X.mg X.base CX0 k C "__contains__" sp) (hr : Room j X.A) (hk : k ≤ j) : OpR X (compareOp .In) (rInO C sp) := by
  intro pins s σ H y x v u Q I ry rx h
  obtain ⟨f, fd, ps, h1, h2, h3, F, b⟩ := c.ex
  obtain ⟨a, dx, fs, rfl, ea, q⟩ := h
  obtain rfl : u = Value.ref a := rx
  obtain ⟨m, fr⟩ := I.fr
  obtain ⟨oa, od, IA⟩ := inst_of I ea
  refine PySem.W.in_K fr I.mod.kin IA h1 h2 (thn (run_spX F (hr.mono hk) b pass0 I (vs := [.ref a, y]) (.cons rfl (.cons ry .nil)) q) fun z s' ⟨w, H', I', rw', b', eb, q'⟩ => ?_)
  subst eb
  cases rw'
  exact wpAny_truthy_bool ⟨.bl b', H', I', rfl, q'⟩
theorem op_ninO (c : Du X.prog X.w X.K X.mg X.base CX0 k C "__contains__" sp) (hr : Room j X.A) (hk : k ≤ j) : OpR X (compareOp .NotIn) (rNinO C sp) := by
  intro pins s σ H y x v u Q I ry rx h
  obtain ⟨f, fd, ps, h1, h2, h3, F, b⟩ := c.ex
  obtain ⟨a, dx, fs, rfl, ea, q⟩ := h
  obtain rfl : u = Value.ref a := rx
  obtain ⟨m, fr⟩ := I.fr
  obtain ⟨oa, od, IA⟩ := inst_of I ea
  refine PySem.W.notIn_K fr I.mod.kin IA h1 h2 (thn (run_spX F (hr.mono hk) b pass0 I (vs := [.ref a, y]) (.cons rfl (.cons ry .nil)) q) fun z s' ⟨w, H', I', rw', b', eb, q'⟩ => ?_)
  subst eb
  cases rw'
  exact wpAny_truthy_bool ⟨.bl (!b'), H', I', rfl, q'⟩
/-- o[i], o's class answers -/
def tSubO (C : Addr) (sp : Sp) (E : XK) (to ti : TE) : TE := fun σ H Q => to σ H fun x H1 => ti σ H1 fun y H2 => ∃ a dx fs, x = .ref a ∧ H2 a = some (.ins C dx fs) ∧ sp [.ref a, y] H2 Q E
theorem pe_subO {o i : Expr} {pos : Pos} {to ti : TE} (c : Du X.prog X.w X.K X.mg X.base CX k C "__getitem__" sp) (hr : Room j X.A) (hk : k + 1 ≤ j) (hx : Passes CX X E) (ho : PE X o to) (hi : PE X i ti)
    (hsl : ∀ a v, subscripted i true (.ref a) v = runValue (.builtin "lifetime.subscript" ⟨[.ref a, v], []⟩) := by intro _ _; with_unfolding_all rfl) : PE X (.Subscript o i pos) (tSubO C sp E to ti) := by
  refine ⟨fun pins s σ H Q I h => ?_⟩
  obtain ⟨f, fd, ps, h1, h2, h3, F, b⟩ := c.ex
  refine Subscript_ (thn (ho.run pins s σ H _ I h) fun u s1 ⟨x, H1, I1, rx, q1⟩ => thn (hi.run pins s1 σ H1 _ I1 q1) fun v s2 ⟨y, H2, I2, ry, a, dx, fs, ex, ea, q2⟩ => ?_)
  subst ex
  obtain rfl : u = Value.ref a := rx
  obtain ⟨m, fr⟩ := I2.fr
  obtain ⟨oa, od, IA⟩ := inst_of I2 ea
  refine PySem.W.sub_K fr I2.mod.kin IA h1 h3 h2 ?_ (hsl a v)
  have r2 : Vals [V.ref a, y] [Value.ref a, v] := .cons rfl (.cons ry .nil)
  have hl : ([Value.ref a, v] ++ []).length = ps.length := by
    rw [List.append_nil, ← r2.length]; exact F.len _ _ _ _ q2
  refine wpAny_call (codeAny_mono (F.run X.A.in1 X.stack s2 H2 ⟨[Value.ref a, v], []⟩ [Value.ref a, v] [V.ref a, y] Q E (hr.mono hk).in1 I2.env0.in1 (by have z := b s2 [Value.ref a, v] I2.kIn hl; rw [List.append_nil] at z; exact z) r2 q2) fun r s' hq => ?_)
  cases r with
  | error e => exact hx pins σ H2 s2 e s' I2 hq
  | ok fl =>
    cases fl with
    | ret u => exact I2.after hq
    | next => exact False.elim hq
    | brk => exact False.elim hq
    | cont => exact False.elim hq
/-- o[i] = v, o's class takes it -/
def rSetO (C : Addr) (sp : Sp) (E : XK) : TSet := fun x y v H Q => ∃ a dx fs, x = .ref a ∧ H a = some (.ins C dx fs) ∧ sp [.ref a, y, v] H (fun _ H1 => Q H1) E
theorem set_O (c : Du X.prog X.w X.K X.mg X.base CX k C "__setitem__" sp) (nq : PySem.W.noSeq X.K C = true) (hr : Room j X.A) (hk : k ≤ j) (hx : Passes CX X E) : PSet X (rSetO C sp E) := by
  intro pins s σ H o i v ov iv u Q I ro ri rv h
  obtain ⟨f, fd, ps, h1, h2, h3, F, b⟩ := c.ex
  obtain ⟨a, dx, fs, rfl, ea, q⟩ := h
  obtain rfl : ov = Value.ref a := ro
  obtain ⟨m, fr⟩ := I.fr
  obtain ⟨oa, od, IA⟩ := inst_of I ea
  exact PySem.W.ksp_setItem fr I.mod.kin IA nq h1 h2 (thn (run_spX F (hr.mono hk) b hx I (vs := [.ref a, i, v]) (.cons rfl (.cons ri (.cons rv .nil))) q) fun z s' ⟨w, H', I', _, q'⟩ => ⟨H', I', q'⟩)
end
end K18
namespace K18
open PySem PySem.Spec PyProof.Rows L2
/-- where the classes stand -/
structure Ad where
  F : Addr
  D : Addr
  M : Addr
  T : Addr
  TT : Addr
  E : Addr
  Ho : Addr
  NE : Addr
  ME : Addr
/-- a method of the text -/
def Mn (K : PySem.W.Frag) (C : Addr) (m qual : Str) (st : Stmt) : Prop := ∃ f fd, Fun K m qual st f fd ∧ Meth K C m f
/-- a method under a name of the interpreter's protocols -/
def Dm (K : PySem.W.Frag) (C : Addr) (m qual : Str) (st : Stmt) : Prop := ∃ f fd, Fun K m qual st f fd ∧ PySem.W.findIn K (.ref C) m = some (some (.ref f)) ∧ PySem.W.isFn K (.ref f) = true ∧ PySem.W.fnIn K f = true
/-- a property -/
def Pn (K : PySem.W.Frag) (C : Addr) (m qual : Str) (st : Stmt) : Prop := ∃ p g fd, PropOf K C m p g ∧ Fun K m qual st g fd
/-- __init__ without super() -/
def In0 (K : PySem.W.Frag) (C : Addr) (qual : Str) (st : Stmt) : Prop := ∃ f fd, Mk K C f ∧ Fun K "__init__" qual st f fd
section
variable {P : Program} {w : World} {K : PySem.W.Frag} {mg : Str → Option Value} {base : Heap} {N ps : List Str} {k : Nat} {C : Addr} {m qual : Str} {st : Stmt} {sp : Sp}
theorem me_ok (O : OwnC K C) (D : Mn K C m qual st) (S : FnScope N ps (defScope st)) (hb : BindsOf m qual st ps) (len : ∀ vs H Q E, sp vs H Q E → vs.length = ps.length)
    (hbody : ∀ (f : Addr) (cdv : Value) (A : Around) (outer : List Env) (s : Shared) (H : Hp) (vs : List V) (Q : VK) (E : XK), Room k (A.deeper (envOfC qual (defScope st) s.heap.objs.size f cdv)) → sp vs H Q E →
      ∃ t, PSs (cxOf CX0 P w K mg base N qual (defScope st) f cdv A outer s H E).nox (defBody st) t ∧ t { nx := fun _ H' => Q .non H', rt := Q } (start N vs) H) : Me P w K mg base CX0 (k + 1) C m sp := by
  obtain ⟨f, fd, F, hm⟩ := D
  exact ⟨f, fd, ps, O.cls, hm, F.ok S len (hbody f), F.binds hb⟩
theorem me_okX (O : OwnC K C) (D : Mn K C m qual st) (S : FnScope N ps (defScope st)) (hb : BindsOf m qual st ps) (len : ∀ vs H Q E, sp vs H Q E → vs.length = ps.length)
    (hbody : ∀ (f : Addr) (cdv : Value) (A : Around) (outer : List Env) (s : Shared) (H : Hp) (vs : List V) (Q : VK) (E : XK), Room k (A.deeper (envOfC qual (defScope st) s.heap.objs.size f cdv)) → sp vs H Q E →
      ∃ t, PSs (cxOf (L2.CX P w) P w K mg base N qual (defScope st) f cdv A outer s H E) (defBody st) t ∧ t { nx := fun _ H' => Q .non H', rt := Q } (start N vs) H) : Me P w K mg base (L2.CX P w) (k + 1) C m sp := by
  obtain ⟨f, fd, F, hm⟩ := D
  exact ⟨f, fd, ps, O.cls, hm, F.okX S len (hbody f), F.binds hb⟩
theorem du_ok (D : Dm K C m qual st) (S : FnScope N ps (defScope st)) (hb : BindsOf m qual st ps) (len : ∀ vs H Q E, sp vs H Q E → vs.length = ps.length)
    (hbody : ∀ (f : Addr) (cdv : Value) (A : Around) (outer : List Env) (s : Shared) (H : Hp) (vs : List V) (Q : VK) (E : XK), Room k (A.deeper (envOfC qual (defScope st) s.heap.objs.size f cdv)) → sp vs H Q E →
      ∃ t, PSs (cxOf CX0 P w K mg base N qual (defScope st) f cdv A outer s H E).nox (defBody st) t ∧ t { nx := fun _ H' => Q .non H', rt := Q } (start N vs) H) : Du P w K mg base CX0 (k + 1) C m sp := by
  obtain ⟨f, fd, F, h1, h2, h3⟩ := D
  exact ⟨f, fd, ps, h1, h2, h3, F.ok S len (hbody f), F.binds hb⟩
theorem du_okX (D : Dm K C m qual st) (S : FnScope N ps (defScope st)) (hb : BindsOf m qual st ps) (len : ∀ vs H Q E, sp vs H Q E → vs.length = ps.length)
    (hbody : ∀ (f : Addr) (cdv : Value) (A : Around) (outer : List Env) (s : Shared) (H : Hp) (vs : List V) (Q : VK) (E : XK), Room k (A.deeper (envOfC qual (defScope st) s.heap.objs.size f cdv)) → sp vs H Q E →
      ∃ t, PSs (cxOf (L2.CX P w) P w K mg base N qual (defScope st) f cdv A outer s H E) (defBody st) t ∧ t { nx := fun _ H' => Q .non H', rt := Q } (start N vs) H) : Du P w K mg base (L2.CX P w) (k + 1) C m sp := by
  obtain ⟨f, fd, F, h1, h2, h3⟩ := D
  exact ⟨f, fd, ps, h1, h2, h3, F.okX S len (hbody f), F.binds hb⟩
theorem ma_ok {x : Str} (hx : mg x = some (.ref C)) (D : In0 K C qual st) (S : FnScope N ps (defScope st)) (hb : BindsOf "__init__" qual st ps) (len : ∀ vs H Q E, sp vs H Q E → vs.length = ps.length)
    (hbody : ∀ (f : Addr) (cdv : Value) (A : Around) (outer : List Env) (s : Shared) (H : Hp) (vs : List V) (Q : VK) (E : XK), Room k (A.deeper (envOfC qual (defScope st) s.heap.objs.size f cdv)) → sp vs H Q E →
      ∃ t, PSs (cxOf CX0 P w K mg base N qual (defScope st) f cdv A outer s H E).nox (defBody st) t ∧ t { nx := fun _ H' => Q .non H', rt := Q } (start N vs) H) : Ma P w K mg base CX0 (k + 1) x C sp := by
  obtain ⟨f, fd, M, F⟩ := D
  exact ⟨f, fd, ps, M, F.ok S len (hbody f), hx, F.binds hb⟩
/-- a property whose getter leaves the generators -/
structure Pg (P : Program) (w : World) (K : PySem.W.Frag) (mg : Str → Option Value) (base : Heap) (k : Nat) (C : Addr) (x : Str) (sp : Sp) : Prop where
  ex : ∃ (p g : Addr) (fd : FuncData) (ps : List Str), Cls K C ∧ PropOf K C x p g ∧ FnG P w K mg base k g fd ps sp ∧ Binds K fd ps []
theorem Pg.pr {x : Str} (c : Pg P w K mg base k C x sp) : Pr P w K mg base k C x sp := by
  obtain ⟨p, g, fd, ps, h1, h2, F, b⟩ := c.ex
  exact ⟨p, g, fd, ps, h1, h2, F.ok, b⟩
theorem pg_ok {e : Expr} {p3 : Pos} (O : OwnC K C) (D : Pn K C m qual st) (S : FnScope N ps (defScope st)) (hbd : defBody st = [.Return (some e) p3]) (hb : BindsOf m qual st ps) (len : ∀ vs H Q E, sp vs H Q E → vs.length = ps.length)
    (hbody : ∀ (f : Addr) (cdv : Value) (A : Around) (outer : List Env) (s : Shared) (H : Hp) (vs : List V) (Q : VK) (E : XK), Room k (A.deeper (envOfC qual (defScope st) s.heap.objs.size f cdv)) → sp vs H Q E →
      ∃ t, PEg (cxOf CX0 P w K mg base N qual (defScope st) f cdv A outer s H E).nox e t ∧ t (start N vs) H Q) : Pg P w K mg base (k + 1) C m sp := by
  obtain ⟨p, g, fd, hp, F⟩ := D
  exact ⟨p, g, fd, ps, O.cls, hp, fng_ok F S hbd len (hbody g), F.binds hb⟩
theorem gpg {X : Cx} {j : Nat} {x : Str} {o : Expr} {pos : Pos} {ta : TE} (c : Pg X.prog X.w X.K X.mg X.base k C x sp) (hr : Room j X.A) (hk : k + 1 ≤ j) (he : PEg X o ta) (hab : attributeBase o x X.env (eval o X.env) = eval o X.env) :
    PEg X (.Attribute o x pos) (tPr C sp ta) := by
  obtain ⟨p, g, fd, ps, hc, hp, F, b⟩ := c.ex
  exact gprop he hc hp F hr hk b hab
end
/-- the fields -/
structure Cs (K : PySem.W.Frag) (mg : Str → Option Value) (c : Ad) : Prop where
  gF : mg "File" = some (.ref c.F)
  gD : mg "Folder" = some (.ref c.D)
  gM : mg "Mode" = some (.ref c.M)
  gT : mg "Tree" = some (.ref c.T)
  gTT : mg "TreeTrial" = some (.ref c.TT)
  gE : mg "Entry" = some (.ref c.E)
  gHo : mg "Holder" = some (.ref c.Ho)
  gNE : mg "NoEntry" = some (.ref c.NE)
  gME : mg "ModesError" = some (.ref c.ME)
  oF : OwnC K c.F
  oD : OwnC K c.D
  oM : OwnC K c.M
  oT : OwnC K c.T
  oTT : OwnC K c.TT
  isMM : PySem.W.kitOne K (.ref c.M) (.ref c.M) = some true
  isIM : PySem.W.kitOne K (.type "int") (.ref c.M) = some false
  isFH : PySem.W.kitOne K (.ref c.F) (.ref c.Ho) = some false
  isDH : PySem.W.kitOne K (.ref c.D) (.ref c.Ho) = some true
  isFE : PySem.W.kitOne K (.ref c.F) (.ref c.E) = some true
  isDE : PySem.W.kitOne K (.ref c.D) (.ref c.E) = some true
  isTT : PySem.W.kitOne K (.ref c.T) (.ref c.T) = some true
  naM : NoAttr K c.M "bits"
  naF1 : NoAttr K c.F "mode_now"
  naF2 : NoAttr K c.F "own_owner"
  naF3 : NoAttr K c.F "own_group"
  naD0 : NoAttr K c.D "below"
  naD1 : NoAttr K c.D "mode_now"
  naD2 : NoAttr K c.D "own_owner"
  naD3 : NoAttr K c.D "own_group"
  naT : NoAttr K c.T "top"
  naTT1 : NoAttr K c.TT "subject"
  naTT2 : NoAttr K c.TT "past"
section
variable {P : Program} {w : World} {K : PySem.W.Frag} {mg : Str → Option Value} {base : Heap} {c : Ad}
/-- a mode object -/
def MoAt (c : Ad) (H : Hp) (m : Addr) (n : Nat) : Prop := n ≤ 511 ∧ ∃ dx, H m = some (.ins c.M dx [("bits", .int n)])
theorem MoAt.same {H H' : Hp} {m : Addr} {n : Nat} (h : MoAt c H m n) (s : ∀ o, H m = some o → H' m = some o) : MoAt c H' m n := ⟨h.1, let ⟨dx, e⟩ := h.2; ⟨dx, s _ e⟩⟩
/-! ### Mode.number -/
def spMNum (c : Ad) : Sp := fun vs H Q _ => ∃ m n, vs = [.ref m] ∧ MoAt c H m n ∧ Q (.int n) H
theorem sc_mnum : FnScope ["self"] ["self"] (defScope s_Mode_number) := ⟨rfl, rfl, rfl, by decide +kernel, rfl, by decide +kernel, by decide +kernel⟩
theorem pg_mnum (Z : Cs K mg c) (D : Pn K c.M "number" "Mode.number" s_Mode_number) : Pg P w K mg base 1 c.M "number" (spMNum c) := by
  refine pg_ok Z.oM D sc_mnum rfl (fun _ _ _ _ _ _ us hl => match us, hl with | [_], _ => rfl) (fun vs H Q E h => ?_) (fun f cdv A outer s H vs Q E hr h => ?_)
  · obtain ⟨m, n, rfl, _⟩ := h
    rfl
  · obtain ⟨m, n, rfl, ⟨_, dx, e⟩, q⟩ := h
    exact ⟨_, gfld (gvar 0) rfl, _, rfl, m, c.M, dx, _, .int n, rfl, e, Z.oM.cls, Z.naM, rfl, q⟩
/-! ### number_of -/
def spNumberOf (c : Ad) : Sp := fun vs H Q _ => ∃ n : Nat, n ≤ 511 ∧ ((∃ m, vs = [.ref m] ∧ MoAt c H m n) ∨ vs = [.int n]) ∧ Q (.int n) H
theorem sc_number_of : FnScope ["thing"] ["thing"] (defScope s_number_of) := ⟨rfl, rfl, rfl, by decide +kernel, rfl, by decide +kernel, by decide +kernel⟩
theorem ca_number_of (B : Bt mg) (Z : Cs K mg c) (pn : Pg P w K mg base 1 c.M "number" (spMNum c)) (ii : Ca P w K mg base CX0 1 "is_integer" spIsInt) (D : Dn K mg "number_of" s_number_of) : Ca P w K mg base CX0 3 "number_of" (spNumberOf c) := by
  obtain ⟨tg, eg⟩ := B.greatest
  refine ca_ok D sc_number_of (fun _ _ _ _ _ _ us hl => match us, hl with | [_], _ => rfl) (fun vs H Q E h => ?_) (fun f cdv A outer s H vs Q E hr h => ?_)
  · obtain ⟨n, _, (⟨m, rfl, _⟩ | rfl), _⟩ := h <;> rfl
  · obtain ⟨n, hn, h, q⟩ := h
    refine ⟨_, pss_cons (ps_if (pt_val (pe_callB call_isi rfl B.isi boot_isinstance (pa_cons (pv 0) (pa_cons (pe_glob (v := .ref c.M) rfl Z.gM rfl) pa_nil)))) (pss_one (ps_ret (pe_pr pn.pr hr (by decide) (pv 0) rfl))) pss_nil)
      (pss_cons (ps_if (pt_not (pt_val (pe_ca ii hr (by decide) pass0 rfl (pa_cons (pv 0) (pa_cons pe_int (pa_cons (pe_glob (v := .int 511) rfl eg ⟨_, rfl⟩) pa_nil)))))) (pss_one ps_never) pss_nil) (pss_one (ps_ret (pv 0)))), ?_⟩
    rcases h with ⟨m, rfl, hm⟩ | rfl
    · obtain ⟨_, dx, e⟩ := id hm
      exact ⟨_, rfl, .ref m, .ref c.M, .ref c.M, .ref c.M, true, rfl, .own _, Z.oM.ty e, Z.isMM, true, rfl, iteT ⟨_, rfl, m, dx, _, rfl, e, m, n, rfl, hm, q⟩⟩
    · refine ⟨_, rfl, .int n, .ref c.M, .type "int", .ref c.M, false, rfl, .own _, .base (.int n), Z.isIM, false, rfl, iteF ?_⟩
      refine ⟨_, rfl, n, 0, 511, rfl, by omega, by omega, true, rfl, iteF ⟨_, rfl, q⟩⟩
/-! ### Mode(number) -/
def spMInit (c : Ad) : Sp := fun vs H Q _ => ∃ (x dx : Addr) (n : Nat), vs = [.ref x, .int n] ∧ n ≤ 511 ∧ H x = some (.ins c.M dx []) ∧ Q .non (upd H x (.ins c.M dx [("bits", .int n)]))
theorem sc_minit : FnScope ["self", "number"] ["self", "number"] (defScope s_Mode_init) := ⟨rfl, rfl, rfl, by decide +kernel, rfl, by decide +kernel, by decide +kernel⟩
theorem ma_mode (B : Bt mg) (Z : Cs K mg c) (ii : Ca P w K mg base CX0 1 "is_integer" spIsInt) (D : In0 K c.M "Mode.__init__" s_Mode_init) : Ma P w K mg base CX0 2 "Mode" c.M (spMInit c) := by
  obtain ⟨tg, eg⟩ := B.greatest
  refine ma_ok Z.gM D sc_minit (fun _ _ _ _ _ _ us hl => match us, hl with | [_, _], _ => rfl) (fun vs H Q E h => ?_) (fun f cdv A outer s H vs Q E hr h => ?_)
  · obtain ⟨x, dx, n, rfl, _⟩ := h
    rfl
  · obtain ⟨x, dx, n, rfl, hn, e, q⟩ := h
    refine ⟨_, pss_cons (ps_if (pt_not (pt_val (pe_ca ii hr (by decide) pass0 rfl (pa_cons (pv 1) (pa_cons pe_int (pa_cons (pe_glob (v := .int 511) rfl eg ⟨_, rfl⟩) pa_nil)))))) (pss_one ps_never) pss_nil) (pss_one (ps_fld (pv 0) (pv 1) rfl)), ?_⟩
    refine ⟨_, rfl, n, 0, 511, rfl, by omega, by omega, true, rfl, iteF ?_⟩
    exact ⟨_, rfl, _, rfl, x, c.M, dx, [], rfl, e, Z.oM.cls, Z.naM, Nat.zero_lt_succ _, q⟩
/-! ### Mode.__eq__ -/
def spMEq (c : Ad) : Sp := fun vs H Q _ => ∃ a b na nb, vs = [.ref a, .ref b] ∧ MoAt c H a na ∧ MoAt c H b nb ∧ Q (.bl (decide (na = nb))) H
theorem sc_meq : FnScope ["self", "other"] ["self", "other"] (defScope s_Mode_eq) := ⟨rfl, rfl, rfl, by decide +kernel, rfl, by decide +kernel, by decide +kernel⟩
theorem du_meq (B : Bt mg) (Z : Cs K mg c) (D : Dm K c.M "__eq__" "Mode.__eq__" s_Mode_eq) : Du P w K mg base CX0 1 c.M "__eq__" (spMEq c) := by
  refine du_ok D sc_meq (fun _ _ _ _ _ _ us hl => match us, hl with | [_, _], _ => rfl) (fun vs H Q E h => ?_) (fun f cdv A outer s H vs Q E hr h => ?_)
  · obtain ⟨a, b, na, nb, rfl, _⟩ := h
    rfl
  · obtain ⟨a, b, na, nb, rfl, ⟨_, da, ea⟩, ⟨_, db, eb⟩, q⟩ := h
    refine ⟨_, pss_one (ps_ret (pe_and (pe_callB call_isi rfl B.isi boot_isinstance (pa_cons (pv 1) (pa_cons (pe_glob (v := .ref c.M) rfl Z.gM rfl) pa_nil))) (pe_one (pe_cmpR op_eq (pe_fld (pv 0) rfl) (pe_fld (pv 1) rfl) (nomark _))))), ?_⟩
    refine ⟨_, rfl, .ref b, .ref c.M, .ref c.M, .ref c.M, true, rfl, .own _, Z.oM.ty eb, Z.isMM, true, rfl, iteT ?_⟩
    refine ⟨_, rfl, a, c.M, da, _, .int na, rfl, ea, Z.oM.cls, Z.naM, rfl, _, rfl, b, c.M, db, _, .int nb, rfl, eb, Z.oM.cls, Z.naM, rfl, rfl, ?_⟩
    have e : decide (V.int na = V.int nb) = decide (na = nb) := by
      by_cases h : na = nb
      · subst h; simp
      · rw [decide_eq_false h, decide_eq_false (fun z => h (by injection z with z; omega))]
    rw [e]
    exact q
end
end K18
/-! a method with super() and **kw, called without keywords -/
namespace K18
open PySem PySem.Spec PyProof.Rows L2 NdefX StX
section
variable {P : Program} {w : World} {K : PySem.W.Frag} {mg : Str → Option Value} {base : Heap} {CX : CXT} {x qual : Str} {st : Stmt} {f D : Addr} {fd : FuncData} {N ps : List Str} {k : Nat} {sp : Sp} {pd : Str}
theorem sfn_kw (hCX : CXUp CX) (F : SFun K P.main.file x qual st f fd D) (S : NScope N (ps ++ [pd]) ["__class__"] (defScope st)) (hks : (defScope st).names.lookup ("super" : Str) = some .globalImplicit) (htop : (P.main.scope.names.lookup ("super" : Str)).isSome = false) (hmg : mg "super" = none)
    (hpar : ∃ ar, ((defArgs st).posonlyargs ++ (defArgs st).args).head? = some ar ∧ N[0]? = some ar.arg ∧ (defScope st).names.lookup ar.arg = some .local)
    (len : ∀ vs H Q E, sp vs H Q E → vs.length = ps.length)
    (hb : ∀ (kV doc pm : Value) (an : Option Addr) (cdv ct : Value) (cc : Addr) (us : List Value), us.length = ps.length → bindArgs (PySem.W.fnX x qual (defArgs st) (defBody st) (defScope st) [("__class__", cc)] .none kV doc pm an cdv ct) ⟨us, []⟩ = ((alloc ({ cls := .type "dict", data := .dict #[] } : Obj) : Sem Addr) >>= fun d => pure (ps.zip us ++ [(pd, Value.ref d)])))
    (hbody : ∀ (c cc : Addr) (A : Around) (outer : List Env) (s : Shared) (H : Hp) (d : Addr) (vs : List V) (Q : VK) (E : XK), Room k (A.deeper (envF (nfS x qual st c cc) f s.heap.objs.size)) → SupX (ncx CX P w K mg base N (nfS x qual st c cc) f A outer s (upd H d (.dK [])) E) D → H d = none → sp vs H Q E →
      ∃ t, PSA (ncx CX P w K mg base N (nfS x qual st c cc) f A outer s (upd H d (.dK [])) E) (defBody st) (defBody st) t ∧ t { nx := fun _ H' => Q .non H', rt := Q } (startF N (vs ++ [.ref d]) [some (.ref D)]) (upd H d (.dK []))) :
    FnR P w K mg base CX (k + 1) f sp := by
  obtain ⟨oc, od, kV, doc, pm, an, c, ct, osl, cc, rfl, lk, hcd, hfile, hcell⟩ := F.ex
  intro A outer s H us vs Q E hr e0 r hsp
  have hl := len _ _ _ _ hsp
  have KX : K.In s.heap := e0.mod.kin.keeps fun b o e => (e0.bs b o e).1
  refine codeAny_call_function hr.depth (KX _ _ lk) rfl S.co S.gen rfl (PySem.W.codeRec_of KX hcd) ?_
  rw [hb kV doc pm an (.ref c) ct cc us (by rw [← r.length]; exact hl)]
  refine wpAny_bind (wpAny_alloc (wpAny_pure ?_))
  have hn : H s.heap.objs.size = none := e0.hok.fresh (Nat.le_refl _)
  have e2 : Env0 P w K mg base A outer { s with heap := s.heap.push ({ cls := .type "dict", data := .dict #[] } : Obj) } (upd H s.heap.objs.size (.dK [])) := env0_laid e0 (dk_empty _ (env0_big e0))
  have un := un_laid (fs := frs outer) (s := s) (o := ({ cls := .type "dict", data := .dict #[] } : Obj)) (u := .dK []) hn
  generalize hd : s.heap.objs.size = d at hn e2 un
  generalize hs2 : ({ s with heap := s.heap.push ({ cls := .type "dict", data := .dict #[] } : Obj) } : Shared) = s2 at e2
  have hp2 : s2.heap = s.heap.push ({ cls := .type "dict", data := .dict #[] } : Obj) := by rw [← hs2]
  have os2 : s2.os = s.os := by rw [← hs2]
  have K2 : K.In s2.heap := e2.mod.kin.keeps fun b o e => (e2.bs b o e).1
  have lim : s2.heap.NoLimit := e2.mod.nolimit.keeps fun b o e => (e2.bs b o e).1
  have r2 : Vals (vs ++ [V.ref d]) (us ++ [Value.ref d]) := r.append (.cons rfl .nil)
  have ez : ps.zip us ++ [(pd, Value.ref d)] = (ps ++ [pd]).zip (us ++ [Value.ref d]) := by
    rw [List.zip_append (by rw [← hl, r.length])]
    rfl
  rw [ez]
  refine wpAny_newFunctionEnv (s := s2) S.nocell (fun ⟨n, _⟩ hy => S.par n (List.of_mem_zip hy).1) (fun h₁ hns hsb => ⟨lim.fresh _ hsb, ks_codeAny_funcAt ?_⟩) S.kind
  have kp : ∀ b o, s2.heap.get? b = some o → h₁.get? b = some o := fun b o e => hsb.extBut b o (Nat.ne_of_lt (Heap.lt_size e)) (Heap.get?_push_of_some _ e)
  show _root_.PySem.wpAt _ (A.deeper (envF (nfS x qual st c cc) f s2.heap.objs.size)) (.func (defBody st) (envF (nfS x qual st c cc) f s2.heap.objs.size)) (execs (defBody st) (envF (nfS x qual st c cc) f s2.heap.objs.size)) _ _ _
  have SX : SupX (ncx CX P w K mg base N (nfS x qual st c cc) f A outer s2 (upd H d (.dK [])) E) D := by
    obtain ⟨ar, a1, a2, a3⟩ := hpar
    exact ⟨⟨f, c, cc, _, ar, oc, od, osl, rfl, rfl, lk, a1, a2, a3, hfile, rfl, hcell⟩, F.hD, hks, S.frk _ List.mem_cons_self, htop, hmg⟩
  obtain ⟨t, ht, hq⟩ := hbody c cc A outer s2 H d vs Q E (hr.deeper _) SX hn hsp
  have C : CellsAt (nfS x qual st c cc).cl ["__class__"] [some (.ref D)] s2.heap (upd H d (.dK [])) := by
    obtain ⟨cl, cld, csl, lcc⟩ := hcell
    have hb1 := e2.bs _ _ (e2.mod.kin _ _ lcc)
    have hcl : ∀ y c', ([(("__class__" : Str), cc)] : List (Str × Addr)).lookup y = some c' → c' = cc ∧ y = "__class__" := fun y c' e => by
      have hm := PySem.mem_of_lookup e
      rcases List.mem_singleton.mp hm with z
      injection z with z1 z2
      exact ⟨z2, z1⟩
    refine ⟨rfl, fun y c' e => ?_, fun y z c' e1 e2 => ?_, fun i y e => ?_⟩
    · obtain ⟨rfl, _⟩ := hcl y c' e
      exact ⟨hb1.2, _, ⟨_, hb1.1, rfl⟩⟩
    · exact (hcl y c' e1).2.trans (hcl z c' e2).2.symm
    · match i, e with
      | 0, e =>
        obtain rfl : ("__class__" : Str) = y := Option.some.inj e
        exact ⟨cc, rfl, fun v ev => ⟨.ref D, by
          obtain rfl : V.ref D = v := Option.some.inj (Option.some.inj ev)
          exact ⟨rfl, ⟨_, hb1.1, rfl⟩⟩⟩⟩
  have I := inv_startN (CX := CX) (f := f) (E := E) (F := nfS x qual st c cc) (tk := s2.toks + ((ps ++ [pd]).zip (us ++ [Value.ref d])).length) S hr.hd e2 (by rw [List.length_append, List.length_append, hl]; rfl) r2 C hns kp
  refine ks_wpAt_mono (ht.run [] _ (startF N (vs ++ [.ref d]) [some (.ref D)]) _ _ I hq) (fun fl s' hs => ?_) fun e s' hs => ?_
  · have fin : ∀ {σ' : L2.St} {H' : Hp} {v : V} {u : Value}, Inv (ncx CX P w K mg base N (nfS x qual st c cc) f A outer s2 (upd H d (.dK [])) E) [] σ' H' s' → L2.RelV v u → Q v H' → CE outer P w H s Q u s' :=
      fun {σ' H' v u} J rv q => ⟨v, H', J.os.trans os2, J.bare, (by rw [← hp2] at un; exact un.trans J.base), J.hok, rv, q⟩
    cases fl with
    | ret u =>
      obtain ⟨v, σ', H', J, rv, q⟩ := hs
      exact fin J rv q
    | next =>
      obtain ⟨σ', H', J, q⟩ := hs
      exact fin (v := V.non) (u := Value.none) J rfl q
    | brk =>
      obtain ⟨_, _, _, q⟩ := hs
      exact False.elim q
    | cont =>
      obtain ⟨_, _, _, q⟩ := hs
      exact False.elim q
  · have hx : ∀ e s', CX outer (upd H d (.dK [])) s2 E e s' → CX outer H s E e s' := fun e s' => hCX outer s H s2 _ E e s' (by rw [hp2]; exact un) (fun b o q => by rw [hp2]; exact Heap.get?_push_of_some _ q) os2
    exact wpAny_mono hs (fun _ s'' z => hx e s'' z) fun e' s'' z => hx e' s'' z
end
end K18
namespace K18
open PySem PySem.Spec PyProof.Rows L2 NdefX StX
/-- what was tracked stays, but at W -/
def Kp (W : List Addr) (H H' : Hp) : Prop := ∀ b o, H b = some o → b ∉ W → H' b = some o
theorem Kp.refl {W : List Addr} {H : Hp} : Kp W H H := fun _ _ e _ => e
theorem Kp.of_same {W : List Addr} {H H' : Hp} (h : ∀ b o, H b = some o → H' b = some o) : Kp W H H' := fun b o e _ => h b o e
theorem Kp.trans {W : List Addr} {H H1 H2 : Hp} (a : Kp W H H1) (b : Kp W H1 H2) : Kp W H H2 := fun c o e n => b c o (a c o e n) n
theorem Kp.mono {W W' : List Addr} {H H' : Hp} (a : Kp W H H') (h : ∀ b ∈ W, b ∈ W') : Kp W' H H' := fun b o e n => a b o e fun z => n (h b z)
theorem Kp.set {W : List Addr} {H : Hp} {a : Addr} {o : HO} (h : a ∈ W) : Kp W H (L2.upd H a o) := fun b u e n => by rw [upd_ne (fun z => n (by rw [z]; exact h))]; exact e
theorem Kp.neu {W : List Addr} {H : Hp} {a : Addr} {o : HO} (h : H a = none) : Kp W H (L2.upd H a o) := fun b u e _ => by rw [upd_ne (ne_of_none e h)]; exact e
/-- an entry's own fields; a folder's dict -/
abbrev fE (m : Addr) (o g : Str) : List (Str × V) := [("mode_now", .ref m), ("own_owner", .str o), ("own_group", .str g)]
abbrev fB (b : Addr) : List (Str × V) := [("below", .ref b)]
/-- a mode, or its number -/
def MvAt (c : Ad) (H : Hp) (v : V) (n : Nat) : Prop := n ≤ 511 ∧ ((∃ m, v = .ref m ∧ MoAt c H m n) ∨ v = .int n)
section
variable {P : Program} {w : World} {K : PySem.W.Frag} {mg : Str → Option Value} {base : Heap} {c : Ad}
theorem MvAt.num {H H' : Hp} {v : V} {n : Nat} {Q : VK} {E : XK} (h : MvAt c H v n) (s : ∀ b o, H b = some o → H' b = some o) (q : Q (.int n) H') : spNumberOf c [v] H' Q E := by
  obtain ⟨hn, (⟨m, rfl, hm⟩ | rfl)⟩ := h
  · exact ⟨n, hn, .inl ⟨m, rfl, hm.same fun o e => s m o e⟩, q⟩
  · exact ⟨n, hn, .inr rfl, q⟩
/-! ### Holder.__init__ -/
def spHInit (c : Ad) : Sp := fun vs H Q _ => ∃ x dx, vs = [.ref x] ∧ H x = some (.ins c.D dx []) ∧ ∀ b, H b = none → Q .non (upd (upd H b (.dK [])) x (.ins c.D dx [("below", .ref b)]))
theorem sc_hinit : FnScope ["self"] ["self"] (defScope s_Holder_init) := ⟨rfl, rfl, rfl, by decide +kernel, rfl, by decide +kernel, by decide +kernel⟩
theorem fn_hinit (Z : Cs K mg c) {f : Addr} {fd : FuncData} (F : Fun K "__init__" "Holder.__init__" s_Holder_init f fd) : FnOk P w K mg base CX0 1 f fd ["self"] (spHInit c) := by
  refine F.ok sc_hinit (fun vs H Q E h => ?_) (fun cdv A outer s H vs Q E hr h => ?_)
  · obtain ⟨x, dx, rfl, _⟩ := h
    rfl
  · obtain ⟨x, dx, rfl, e, q⟩ := h
    refine ⟨_, pss_one (ps_fld (pv 0) pe_dnewK rfl), fun b hb => ⟨_, rfl, x, c.D, dx, [], rfl, ?_, Z.oD.cls, Z.naD0, Nat.zero_lt_succ _, q b hb⟩⟩
    rw [upd_ne (ne_of_none e hb)]
    exact e
/-! ### Entry.__init__ -/
/-- base fields ahead (a folder's `below`), the fields behind -/
def spEInit (c : Ad) (C : Addr) (pre : Hp → Hp → List (Str × V) → Prop) : Sp := fun vs H Q _ => ∃ x dx mv n o g, vs = [.ref x, mv, .str o, .str g] ∧ H x = some (.ins C dx []) ∧ MvAt c H mv n ∧ NmOk o ∧ NmOk g ∧ (∀ m, mv = .ref m → m ≠ x) ∧
  ∀ H' m fs, Kp [x] H H' → pre H H' fs → m ≠ x → H m = none → MoAt c H' m n → H' x = some (.ins C dx (fs ++ fE m o g)) → Q .non H'
def NE0 : List Str := ["self", "mode", "owner", "group", "__class__", "name"]
theorem sc_einit : NScope NE0 ["self", "mode", "owner", "group"] ["__class__"] (defScope s_Entry_init) := nscope_by (by decide +kernel)
def preF : Hp → Hp → List (Str × V) → Prop := fun _ _ fs => fs = []
def preD : Hp → Hp → List (Str × V) → Prop := fun H H' fs => ∃ b, fs = fB b ∧ H b = none ∧ H' b = some (.dK [])
/-- the fields of an instance of that class -/
structure EnC (K : PySem.W.Frag) (C : Addr) : Prop where
  cls : Cls K C
  n1 : NoAttr K C "mode_now"
  n2 : NoAttr K C "own_owner"
  n3 : NoAttr K C "own_group"
theorem einit_core (B : Bt mg) (Z : Cs K mg c) (no : Ca P w K mg base CX0 3 "number_of" (spNumberOf c)) (nm : Ca P w K mg base CX0 1 "is_name" spIsName) (mm : Ma P w K mg base CX0 2 "Mode" c.M (spMInit c)) {C : Addr} (EC : EnC K C) {X : Cx} {kk : Nat} (hX : X.prog = P ∧ X.w = w ∧ X.K = K ∧ X.mg = mg ∧ X.base = base ∧ X.N = NE0 ∧ X.env.scope = defScope s_Entry_init) (hc : X.calm = true) (hp : PassesOwn (model X.prog X.w) X.A X.env X.xe) (hr : Room kk X.A) (hk : 8 ≤ kk) :
    ∃ t, PSs X ((defBody s_Entry_init).tail) t ∧ ∀ (D : Ends) (σ : L2.St) (H : Hp) (x dx : Addr) (fs : List (Str × V)) (mv : V) (n : Nat) (o g : Str), σ.take 4 = [some (.ref x), some mv, some (.str o), some (.str g)] → 5 < σ.length → H x = some (.ins C dx fs) → fs = [] ∨ (∃ b, fs = fB b) → MvAt c H mv n → NmOk o → NmOk g →
      (∀ σ' H' m, Kp [x] H H' → m ≠ x → H m = none → MoAt c H' m n → H' x = some (.ins C dx (fs ++ fE m o g)) → D.nx σ' H') → t D σ H := by
  obtain ⟨rfl, rfl, rfl, rfl, rfl, hN, hsc⟩ := hX
  have gl : ∀ y, (defScope s_Entry_init).names.lookup y = some .globalImplicit → Gl X y := fun y h => by show X.env.scope.names.lookup y = _; rw [hsc]; exact h
  have vis : ∀ y, Vis (defScope s_Entry_init) y → Vis X.env.scope y := fun y h => by rw [hsc]; exact h
  have pvx : ∀ (i : Nat) (y : Str) (pos : Pos), NE0[i]? = some y → Vis (defScope s_Entry_init) y → (y == ("__debug__" : Str)) = false → (y == ("__classdict__" : Str)) = false → PE X (.Name y pos) (tVar i) := fun i y pos h1 h2 h3 h4 => pe_var (by rw [hN]; exact h1) (vis y h2) h3 h4
  refine ⟨_, pss_cons (ps_fld (pvx 0 "self" _ rfl (.inl rfl) (by decide) (by decide)) (pe_ma mm hr (by omega) pass0 (gl _ rfl) (pa_cons (pe_ca no hr (by omega) pass0 (gl _ rfl) (pa_cons (pvx 1 "mode" _ rfl (.inl rfl) (by decide) (by decide)) pa_nil)) pa_nil)) rfl)
    (pss_cons (ps_for hp hc (pi_tup (pe_tup (pa_cons (pvx 2 "owner" _ rfl (.inl rfl) (by decide) (by decide)) (pa_cons (pvx 3 "group" _ rfl (.inl rfl) (by decide) (by decide)) pa_nil)))) (pg_name (i := 5) (x := "name") (by rw [hN]; decide +kernel) (by rw [hN]; rfl) (by rw [hsc]; exact .inl rfl) (.inr (by rw [hsc]; rfl))) (pss_one (ps_if (pt_not (pt_val (pe_ca nm hr (by omega) pass0 (gl _ rfl) (pa_cons (pvx 5 "name" _ rfl (.inl rfl) (by decide) (by decide)) pa_nil)))) (pss_one ps_never) pss_nil)))
    (pss_cons (ps_fld (pvx 0 "self" _ rfl (.inl rfl) (by decide) (by decide)) (pvx 2 "owner" _ rfl (.inl rfl) (by decide) (by decide)) rfl) (pss_one (ps_fld (pvx 0 "self" _ rfl (.inl rfl) (by decide) (by decide)) (pvx 3 "group" _ rfl (.inl rfl) (by decide) (by decide)) rfl)))), ?_⟩
  intro D σ H x dx fs mv n o g h4 h5 ex hfs hmv ho hg q
  have s0 : σ[0]? = some (some (.ref x)) := by have := congrArg (·[0]?) h4; simpa using this
  have s1 : σ[1]? = some (some mv) := by have := congrArg (·[1]?) h4; simpa using this
  have s2 : σ[2]? = some (some (.str o)) := by have := congrArg (·[2]?) h4; simpa using this
  have s3 : σ[3]? = some (some (.str g)) := by have := congrArg (·[3]?) h4; simpa using this
  refine ⟨mv, s1, ?_⟩
  dsimp only [tNil]
  refine MvAt.num (E := E0) hmv (fun _ _ z => z) ?_
  intro m dm hm hdm hne
  refine ⟨m, dm, n, rfl, hmv.1, upd_same, rfl, .ref x, s0, x, C, dx, fs, rfl, ?_, EC.cls, EC.n1, ?_, ?_⟩
  · have n1 := ne_of_none ex hm
    have n2 := ne_of_none ex hdm
    rw [upd_ne n1, upd_ne n1, upd_ne n2]
    exact ex
  · rcases hfs with rfl | ⟨b, rfl⟩ <;> exact Nat.le_of_ble_eq_true rfl
  have n1 := ne_of_none ex hm
  generalize hH1 : upd (upd (upd (upd H dm (HO.own m)) m (HO.ins c.M dm [])) m (HO.ins c.M dm [("bits", V.int n)])) x (HO.ins C dx (putF "mode_now" (V.ref m) fs)) = H1
  have k1 : Kp [x] H H1 := by
    rw [← hH1]
    intro b u e nb
    have nx : b ≠ x := fun z => nb (by rw [z]; exact List.mem_singleton.mpr rfl)
    rw [upd_ne nx, upd_ne (ne_of_none e hm), upd_ne (ne_of_none e hm), upd_ne (ne_of_none e hdm)]
    exact e
  have e1 : H1 x = some (.ins C dx (fs ++ [(("mode_now" : Str), V.ref m)])) := by
    rw [← hH1, upd_same]
    rcases hfs with rfl | ⟨b, rfl⟩ <;> rfl
  have m1 : MoAt c H1 m n := ⟨hmv.1, dm, by rw [← hH1, upd_ne (Ne.symm n1), upd_same]⟩
  refine ⟨_, s2, _, s3, Nat.le_of_ble_eq_true rfl, fun p hp => ⟨p, rfl, ⟨_, .inl (.of upd_same)⟩, ?_⟩⟩
  have npx : p ≠ x := Ne.symm (ne_of_none e1 hp)
  have npm : p ≠ m := by obtain ⟨_, dx', z⟩ := m1; exact Ne.symm (ne_of_none z hp)
  refine for_it (walk_tup (xs := [.str o, .str g])) (fun i σ' H' => σ'.take 4 = σ.take 4 ∧ 5 < σ'.length ∧ (∀ b u, H1 b = some u → H' b = some u) ∧ H' p = some (.tup [.str o, .str g])) ⟨rfl, h5, fun b u e => by rw [upd_ne (ne_of_none e hp)]; exact e, upd_same⟩ (fun i σ' H' _ z => .inl (.of z.2.2.2)) ?_ ?_
  · rintro i y σ' H' H'' hi ⟨t4, l5, k, ep⟩ ⟨rfl, hy⟩
    have hz : ∃ z, y = .str z ∧ NmOk z := by
      match i, hi, hy with
      | 0, _, hy => exact ⟨o, by simpa using hy.symm, ho⟩
      | 1, _, hy => exact ⟨g, by simpa using hy.symm, hg⟩
    obtain ⟨z, rfl, hz⟩ := hz
    have t5 : (σ'.set 5 (some (V.str z))).take 4 = σ.take 4 := by rw [← t4, List.take_set, List.set_eq_of_length_le (by rw [List.length_take]; omega)]
    refine ⟨_, List.getElem?_set_self l5, z, rfl, hz, fun H3 k3 => ⟨true, rfl, ?_⟩⟩
    exact iteF ⟨t5, by rw [List.length_set]; exact l5, fun b u e => k3 b u (k b u e), k3 _ _ ep⟩
  · rintro σ' H' ⟨t4, l5, k, ep⟩
    have t4 := t4.trans h4
    have s0 : σ'[0]? = some (some (.ref x)) := by have := congrArg (·[0]?) t4; simpa using this
    have s2 : σ'[2]? = some (some (.str o)) := by have := congrArg (·[2]?) t4; simpa using this
    have s3 : σ'[3]? = some (some (.str g)) := by have := congrArg (·[3]?) t4; simpa using this
    have e2 := k _ _ e1
    refine ⟨_, s2, _, s0, x, C, dx, _, rfl, e2, EC.cls, EC.n2, ?_, ?_⟩
    · rcases hfs with rfl | ⟨b, rfl⟩ <;> exact Nat.le_of_ble_eq_true rfl
    refine ⟨_, s3, _, s0, x, C, dx, _, rfl, upd_same, EC.cls, EC.n3, ?_, ?_⟩
    · rcases hfs with rfl | ⟨b, rfl⟩ <;> exact Nat.le_of_ble_eq_true rfl
    refine q _ _ m ?_ (Ne.symm n1) hm ?_ ?_
    · rw [upd_upd]
      intro b u e nb
      have nx : b ≠ x := fun z => nb (by rw [z]; exact List.mem_singleton.mpr rfl)
      rw [upd_ne nx]
      exact k b u (k1 b u e nb)
    · obtain ⟨hn, dx', z⟩ := m1
      exact ⟨hn, dx', by rw [upd_upd, upd_ne (Ne.symm n1)]; exact k _ _ z⟩
    · rw [upd_same]
      rcases hfs with rfl | ⟨b, rfl⟩ <;> rfl
/-- what is needed of the methods that capture their class's cell -/
structure Cc (P : Program) (K : PySem.W.Frag) (mg : Str → Option Value) (c : Ad) : Prop where
  ei : ∃ f fd, SFun K P.main.file "__init__" "Entry.__init__" s_Entry_init f fd c.E ∧ Mk K c.F f ∧ SupM K c.D c.D "__init__" f ∧ PySem.W.keepIn K (.ref f) = true
  di : ∃ f fd, SFun K P.main.file "__init__" "Folder.__init__" s_Folder_init f fd c.D ∧ Mk K c.D f
  hi : ∃ f fd, Fun K "__init__" "Holder.__init__" s_Holder_init f fd ∧ SupM K c.D c.E "__init__" f
  fo : SupB K c.F c.E "object.__init__" "object"
  top : (P.main.scope.names.lookup ("super" : Str)).isSome = false
theorem len4 {x y z u : V} : ∀ {vs : List V}, vs = [x, y, z, u] → vs.length = (["self", "mode", "owner", "group"] : List Str).length := fun e => by rw [e]; rfl
theorem spEInit_len {C : Addr} {pre : Hp → Hp → List (Str × V) → Prop} : ∀ vs H Q E, spEInit c C pre vs H Q E → vs.length = (["self", "mode", "owner", "group"] : List Str).length := fun vs H Q E h => by
  obtain ⟨x, dx, mv, n, o, g, rfl, _⟩ := h
  rfl
theorem fn_einitF (B : Bt mg) (Z : Cs K mg c) (CC : Cc P K mg c) (no : Ca P w K mg base CX0 3 "number_of" (spNumberOf c)) (nm : Ca P w K mg base CX0 1 "is_name" spIsName) (mm : Ma P w K mg base CX0 2 "Mode" c.M (spMInit c)) {f : Addr} {fd : FuncData} (F : SFun K P.main.file "__init__" "Entry.__init__" s_Entry_init f fd c.E) :
    FnOk P w K mg base CX0 9 f fd ["self", "mode", "owner", "group"] (spEInit c c.F preF) := by
  refine sfn_ok F sc_einit rfl CC.top B.super ⟨_, rfl, rfl, rfl⟩ spEInit_len (fun cd cc A outer s H vs Q E hr SX h => ?_)
  obtain ⟨x, dx, mv, n, o, g, rfl, ex, hmv, ho, hg, _, q⟩ := h
  obtain ⟨u, hu, core⟩ := einit_core (X := (ncx CX0 P w K mg base NE0 (nfS "__init__" "Entry.__init__" s_Entry_init cd cc) f A outer s H E).nox) B Z no nm mm (C := c.F) ⟨Z.oF.cls, Z.naF1, Z.naF2, Z.naF3⟩ ⟨rfl, rfl, rfl, rfl, rfl, rfl, rfl⟩ rfl PassesOwn.never hr (by decide)
  refine ⟨_, psa_supO (C := c.F) SX CC.fo hu.nox, x, dx, [], rfl, ex, core _ _ _ x dx [] mv n o g rfl (Nat.le_of_ble_eq_true rfl) ex (.inl rfl) hmv ho hg fun σ' H' m k1 k2 k3 k4 k5 => ?_⟩
  exact q H' m [] k1 rfl k2 k3 k4 k5
theorem fn_einitD (B : Bt mg) (Z : Cs K mg c) (CC : Cc P K mg c) (no : Ca P w K mg base CX0 3 "number_of" (spNumberOf c)) (nm : Ca P w K mg base CX0 1 "is_name" spIsName) (mm : Ma P w K mg base CX0 2 "Mode" c.M (spMInit c)) {f : Addr} {fd : FuncData} (F : SFun K P.main.file "__init__" "Entry.__init__" s_Entry_init f fd c.E) :
    FnOk P w K mg base CX0 9 f fd ["self", "mode", "owner", "group"] (spEInit c c.D preD) := by
  obtain ⟨fh, fdh, Fh, Mh⟩ := CC.hi
  have su : Su P w K mg base CX0 1 c.D c.E "__init__" (spHInit c) := ⟨fh, fdh, ["self"], Mh, fn_hinit Z Fh, Fh.binds (fun _ _ _ _ _ _ us hl => match us, hl with | [_], _ => rfl)⟩
  refine sfn_ok F sc_einit rfl CC.top B.super ⟨_, rfl, rfl, rfl⟩ spEInit_len (fun cd cc A outer s H vs Q E hr SX h => ?_)
  obtain ⟨x, dx, mv, n, o, g, rfl, ex, hmv, ho, hg, hne, q⟩ := h
  obtain ⟨u, hu, core⟩ := einit_core (X := (ncx CX0 P w K mg base NE0 (nfS "__init__" "Entry.__init__" s_Entry_init cd cc) f A outer s H E).nox) B Z no nm mm (C := c.D) ⟨Z.oD.cls, Z.naD1, Z.naD2, Z.naD3⟩ ⟨rfl, rfl, rfl, rfl, rfl, rfl, rfl⟩ rfl PassesOwn.never hr (by decide)
  refine ⟨_, psa_sup0 (C := c.D) (j := 8) SX su hr (by decide) (pass0 (X := ncx CX0 P w K mg base NE0 (nfS "__init__" "Entry.__init__" s_Entry_init cd cc) f A outer s H E)) hu.nox, x, dx, [], rfl, ex, fun p f2 hp => ⟨upd_same, x, dx, rfl, ?_, fun b hb => ?_⟩⟩
  · rw [upd_ne (ne_of_none ex hp)]; exact ex
  have nxp := ne_of_none ex hp
  have hbH : H b = none := by
    have : b ≠ p := Ne.symm (ne_of_none upd_same hb)
    rw [upd_ne this] at hb; exact hb
  have nxb := ne_of_none ex hbH
  generalize hH1 : upd (upd (upd H p (HO.met f2 x)) b (HO.dK [])) x (HO.ins c.D dx (fB b)) = H1
  have k0 : Kp [x] H H1 := by
    rw [← hH1]
    intro d e z nb
    have nx : d ≠ x := fun z => nb (by rw [z]; exact List.mem_singleton.mpr rfl)
    rw [upd_ne nx, upd_ne (ne_of_none z hbH), upd_ne (ne_of_none z hp)]
    exact z
  have e1 : H1 x = some (.ins c.D dx (fB b)) := by rw [← hH1, upd_same]
  have b1 : H1 b = some (.dK []) := by rw [← hH1, upd_ne (Ne.symm nxb), upd_same]
  have hmv1 : MvAt c H1 mv n := by
    obtain ⟨hn, (⟨m, rfl, hm⟩ | rfl)⟩ := hmv
    · exact ⟨hn, .inl ⟨m, rfl, hm.same fun o z => k0 m o z (by simpa using hne m rfl)⟩⟩
    · exact ⟨hn, .inr rfl⟩
  refine core _ _ H1 x dx (fB b) mv n o g rfl (Nat.le_of_ble_eq_true rfl) e1 (.inr ⟨b, rfl⟩) hmv1 ho hg fun σ' H' m k1 k2 k3 k4 k5 => ?_
  have hmH : H m = none := by
    cases z : H m with
    | none => rfl
    | some o =>
      have := k0 m o z (by simpa using k2)
      rw [k3] at this
      cases this
  exact q H' m (fB b) (k0.trans k1) ⟨b, rfl, hbH, k1 b _ b1 (by simpa using Ne.symm nxb)⟩ k2 hmH k4 k5
end
end K18
namespace K18
open PySem PySem.Spec PyProof.Rows L2
/-! ### forests -/
structure Dat where
  dir : Bool
  mode : Nat
  own : Str
  grp : Str
  deriving DecidableEq
inductive Fo where
  | nil
  | cons (n : Str) (d : Dat) (ch rest : Fo)
namespace Fo
def names : Fo → List Str
  | .nil => []
  | .cons n _ _ rest => n :: rest.names
def size : Fo → Nat
  | .nil => 0
  | .cons _ _ ch rest => 1 + ch.size + rest.size
def depth : Fo → Nat
  | .nil => 0
  | .cons _ _ ch rest => max (1 + ch.depth) rest.depth
end Fo
/-- the order of names -/
def nlt (a b : Str) : Prop := a.cps.toList < b.cps.toList
instance (a b : Str) : Decidable (nlt a b) := inferInstanceAs (Decidable (_ < _))
/-- names rise, are names; facts are facts; files have nothing below -/
def DatOk (d : Dat) : Prop := d.mode ≤ 511 ∧ NmOk d.own ∧ NmOk d.grp
def Fo.Wf : Fo → Prop
  | .nil => True
  | .cons n d ch rest => NmOk n ∧ DatOk d ∧ (d.dir = false → ch = .nil) ∧ ch.Wf ∧ rest.Wf ∧ ∀ m ∈ rest.names, nlt n m
/-! ### forests in the heap -/
abbrev kvOf (p : Str × Addr) : Key × V := (.inr p.1, .ref p.2)
/-- an entry object e: R tells what lies below it; F: all its objects -/
def NodeP (c : Ad) (H : Hp) (R : List (Str × Addr) → List Addr → Prop) (e : Addr) (d : Dat) (F : List Addr) : Prop :=
  ∃ dx m, MoAt c H m d.mode ∧ ((d.dir = false ∧ H e = some (.ins c.F dx (fE m d.own d.grp)) ∧ F = [e, m] ∧ R [] []) ∨
    (d.dir = true ∧ ∃ b kvs bs F1, H e = some (.ins c.D dx (fB b ++ fE m d.own d.grp)) ∧ H b = some (.dK kvs) ∧ kvs.Perm (bs.map kvOf) ∧ R bs F1 ∧ F = e :: m :: b :: F1))
def FoAt (c : Ad) (H : Hp) : Fo → List (Str × Addr) → List Addr → Prop
  | .nil, as, F => as = [] ∧ F = []
  | .cons x d ch rest, as, F => ∃ e as' F1 F2, as = (x, e) :: as' ∧ F = F1 ++ F2 ∧ NodeP c H (fun bs G => FoAt c H ch bs G) e d F1 ∧ FoAt c H rest as' F2
def NodeAt (c : Ad) (H : Hp) (e : Addr) (d : Dat) (ch : Fo) (F : List Addr) : Prop := NodeP c H (fun bs G => FoAt c H ch bs G) e d F
theorem NodeP.imp {c : Ad} {H H' : Hp} {R R' : List (Str × Addr) → List Addr → Prop} {e : Addr} {d : Dat} {F : List Addr} (h : NodeP c H R e d F) (k : ∀ b ∈ F, ∀ o, H b = some o → H' b = some o) (hR : ∀ bs G, (∀ b ∈ G, b ∈ F) → R bs G → R' bs G) : NodeP c H' R' e d F := by
  obtain ⟨dx, m, hm, h⟩ := h
  rcases h with ⟨h1, h2, h3, h4⟩ | ⟨h1, b, kvs, bs, F1, h2, h3, h4, h5, h6⟩
  · subst h3
    exact ⟨dx, m, hm.same (k m (by simp)), .inl ⟨h1, k e (by simp) _ h2, rfl, hR [] [] (by simp) h4⟩⟩
  · subst h6
    exact ⟨dx, m, hm.same (k m (by simp)), .inr ⟨h1, b, kvs, bs, F1, k e (by simp) _ h2, k b (by simp) _ h3, h4, hR bs F1 (fun b hb => by simp [hb]) h5, rfl⟩⟩
theorem FoAt.keep {c : Ad} {H H' : Hp} : ∀ {fo : Fo} {as : List (Str × Addr)} {F : List Addr}, FoAt c H fo as F → (∀ b ∈ F, ∀ o, H b = some o → H' b = some o) → FoAt c H' fo as F
  | .nil, _, _, h, _ => h
  | .cons x d ch rest, as, F, h, k => by
    obtain ⟨e, as', F1, F2, e1, e2, h1, h2⟩ := h
    subst e2
    refine ⟨e, as', F1, F2, e1, rfl, h1.imp (fun b hb => k b (List.mem_append_left _ hb)) fun bs G hG r => FoAt.keep r fun b hb => k b (List.mem_append_left _ (hG b hb)), FoAt.keep h2 fun b hb => k b (List.mem_append_right _ hb)⟩
theorem NodeAt.keep {c : Ad} {H H' : Hp} {e : Addr} {d : Dat} {ch : Fo} {F : List Addr} (h : NodeAt c H e d ch F) (k : ∀ b ∈ F, ∀ o, H b = some o → H' b = some o) : NodeAt c H' e d ch F :=
  NodeP.imp h k fun bs G hG r => FoAt.keep r fun b hb => k b (hG b hb)
theorem NodeAt.kp {c : Ad} {H H' : Hp} {e : Addr} {d : Dat} {ch : Fo} {F W : List Addr} (h : NodeAt c H e d ch F) (k : Kp W H H') (hw : ∀ b ∈ F, b ∉ W) : NodeAt c H' e d ch F := h.keep fun b hb o q => k b o q (hw b hb)
theorem FoAt.names {c : Ad} {H : Hp} : ∀ {fo : Fo} {as : List (Str × Addr)} {F : List Addr}, FoAt c H fo as F → as.map (·.1) = fo.names
  | .nil, _, _, h => by rw [h.1]; rfl
  | .cons x d ch rest, as, F, h => by
    obtain ⟨e, as', F1, F2, e1, e2, h1, h2⟩ := h
    rw [e1, List.map_cons, FoAt.names h2]; rfl
theorem nlt_irrefl (a : Str) : ¬ nlt a a := fun h => List.lt_irrefl _ h
theorem nlt_trans {a b d : Str} (h : nlt a b) (h' : nlt b d) : nlt a d := List.lt_trans h h'
theorem nlt_tri {a b : Str} (h : a ≠ b) : nlt a b ∨ nlt b a := by
  by_cases h1 : nlt a b
  · exact .inl h1
  · refine .inr ?_
    have h2 : b.cps.toList ≤ a.cps.toList := List.not_lt.mp h1
    rcases Classical.em (nlt b a) with h3 | h3
    · exact h3
    · have h4 : a.cps.toList ≤ b.cps.toList := List.not_lt.mp h3
      exact absurd (PySem.W.str_of_cps (List.le_antisymm h4 h2)) h
theorem ltCps_eq : ∀ a b : List Nat, ltCps a b = decide (a < b)
  | [], [] => by simp [ltCps]
  | [], _ :: _ => by simp [ltCps]
  | _ :: _, [] => by simp [ltCps]
  | a :: r, b :: t => by
    rw [ltCps, ltCps_eq r t, Bool.eq_iff_iff]
    simp [List.cons_lt_cons_iff]
theorem rising_le : ∀ {p : Str} {l : List Str}, risingS p l = true → ∀ x ∈ l.head?, ¬ nlt x p
  | p, [], _, x, hx => by simp at hx
  | p, y :: r, h, x, hx => by
    rw [risingS, Bool.and_eq_true] at h
    simp at hx
    subst hx
    have := h.1
    rw [ltCps_eq] at this
    simpa [nlt] using this
/-- a sorted arrangement of different names, rising -/
theorem rising_pw : ∀ {p : Str} {l : List Str}, risingS p l = true → (p :: l).Nodup → (p :: l).Pairwise nlt
  | p, [], _, _ => by simp
  | p, y :: r, h, nd => by
    rw [risingS, Bool.and_eq_true] at h
    have hy : nlt p y := by
      have h1 := h.1
      rw [ltCps_eq] at h1
      have h2 : ¬ nlt y p := by simpa [nlt] using h1
      rcases nlt_tri (a := p) (b := y) (fun z => by simp [z] at nd) with z | z
      · exact z
      · exact absurd z h2
    have ih := rising_pw (p := y) (l := r) h.2 (List.nodup_cons.mp nd).2
    refine List.pairwise_cons.mpr ⟨fun z hz => ?_, ih⟩
    rcases List.mem_cons.mp hz with e | e
    · rw [e]; exact hy
    · exact nlt_trans hy ((List.pairwise_cons.mp ih).1 z e)
theorem sortedS_pw : ∀ {l : List Str}, sortedS l = true → l.Nodup → l.Pairwise nlt
  | [], _, _ => by simp
  | x :: r, h, nd => rising_pw h nd
/-- rising lists with the same members are the same -/
theorem pw_ext {α : Type} {lt : α → α → Prop} (ir : ∀ a, ¬ lt a a) (tr : ∀ {a b c}, lt a b → lt b c → lt a c) : ∀ {l m : List α}, l.Pairwise lt → m.Pairwise lt → (∀ x, x ∈ l ↔ x ∈ m) → l = m
  | [], [], _, _, _ => rfl
  | [], y :: m, _, _, h => absurd ((h y).mpr List.mem_cons_self) (by simp)
  | x :: l, [], _, _, h => absurd ((h x).mp List.mem_cons_self) (by simp)
  | x :: l, y :: m, hl, hm, h => by
    have hl' := List.pairwise_cons.mp hl
    have hm' := List.pairwise_cons.mp hm
    have e : x = y := by
      rcases List.mem_cons.mp ((h x).mp List.mem_cons_self) with e | e
      · exact e
      · rcases List.mem_cons.mp ((h y).mpr List.mem_cons_self) with e' | e'
        · exact e'.symm
        · exact absurd (tr (hm'.1 x e) (hl'.1 y e')) (ir _)
    subst e
    congr 1
    refine pw_ext ir tr hl'.2 hm'.2 fun z => ⟨fun hz => ?_, fun hz => ?_⟩
    · rcases List.mem_cons.mp ((h z).mp (List.mem_cons_of_mem _ hz)) with e | e
      · subst e; exact absurd (hl'.1 z hz) (ir _)
      · exact e
    · rcases List.mem_cons.mp ((h z).mpr (List.mem_cons_of_mem _ hz)) with e | e
      · subst e; exact absurd (hm'.1 z hz) (ir _)
      · exact e
theorem nlt_ext {l m : List Str} (hl : l.Pairwise nlt) (hm : m.Pairwise nlt) (h : ∀ x, x ∈ l ↔ x ∈ m) : l = m := pw_ext nlt_irrefl nlt_trans hl hm h
theorem Fo.Wf.pw : ∀ {fo : Fo}, fo.Wf → fo.names.Pairwise nlt
  | .nil, _ => by simp [Fo.names]
  | .cons n d ch rest, h => List.pairwise_cons.mpr ⟨h.2.2.2.2.2, Fo.Wf.pw h.2.2.2.2.1⟩
theorem pw_nodup {l : List Str} (h : l.Pairwise nlt) : l.Nodup := List.Pairwise.imp (S := (· ≠ ·)) (fun {a b} (hab : nlt a b) (e : a = b) => nlt_irrefl a (by rw [← e] at hab; exact hab)) h
theorem sorted_names {ks ys : List Str} (h : ks.Pairwise nlt) (p : ys.Perm ks) (s : sortedS ys = true) : ys = ks :=
  nlt_ext (sortedS_pw s (p.nodup_iff.mpr (pw_nodup h))) h fun x => p.mem_iff
theorem sorted_perm {ks ys zs : List Str} (h : ks.Pairwise nlt) (pz : zs.Perm ks) (p : ys.Perm zs) (s : sortedS ys = true) : ys = ks := sorted_names h (p.trans pz) s
theorem Fo.Wf.nmok : ∀ {fo : Fo}, fo.Wf → ∀ n ∈ fo.names, NmOk n
  | .nil, _, n, h => by simp [Fo.names] at h
  | .cons n d ch rest, h, m, hm => by
    rcases List.mem_cons.mp hm with e | e
    · rw [e]; exact h.1
    · exact Fo.Wf.nmok h.2.2.2.2.1 m e
/-! ### lookups in the dict of a folder -/
theorem valV_perm {kvs kvs' : List (Key × V)} (p : kvs.Perm kvs') (nd : (kvs'.map (·.1)).Nodup) (k : Key) : valV kvs k = valV kvs' k := by
  have nd1 : (kvs.map (·.1)).Nodup := (p.map (·.1)).nodup_iff.mpr nd
  have key : ∀ {l : List (Key × V)} {v : V}, (l.map (·.1)).Nodup → (valV l k = some v ↔ (k, v) ∈ l) := by
    intro l
    induction l with
    | nil => intro v _; simp [valV_nil]
    | cons q r ih =>
      intro v nd
      have nd' := List.nodup_cons.mp nd
      by_cases e : q.1 = k
      · rw [valV_pos e]
        constructor
        · intro z; cases z; rw [← e]; exact List.mem_cons_self
        · intro z
          rcases List.mem_cons.mp z with z | z
          · rw [← z]
          · exact absurd (List.mem_map.mpr ⟨(k, v), z, e.symm⟩) nd'.1
      · rw [valV_neg e, ih nd'.2]
        constructor
        · intro z; exact List.mem_cons_of_mem _ z
        · intro z
          rcases List.mem_cons.mp z with z | z
          · rw [← z] at e; exact absurd rfl e
          · exact z
  cases h : valV kvs' k with
  | some v => exact (key nd1).mpr (p.mem_iff.mpr ((key nd).mp h))
  | none =>
    cases h2 : valV kvs k with
    | none => rfl
    | some v =>
      have := (key nd).mpr (p.mem_iff.mp ((key nd1).mp h2))
      rw [h] at this; cases this
theorem keys_kvOf (bs : List (Str × Addr)) : (bs.map kvOf).map (·.1) = (bs.map (·.1)).map Sum.inr := by
  rw [List.map_map, List.map_map]; rfl
theorem nodup_inr {l : List Str} (h : l.Nodup) : (l.map (Sum.inr : Str → Key)).Nodup := List.Pairwise.map (R := (· ≠ ·)) _ (fun a b (h : a ≠ b) (e : (Sum.inr a : Key) = Sum.inr b) => h (Sum.inr.inj e)) h
theorem valV_kvOf : ∀ (bs : List (Str × Addr)) (x : Str), valV (bs.map kvOf) (.inr x) = (bs.lookup x).map V.ref
  | [], x => rfl
  | (y, e) :: bs, x => by
    rw [List.map_cons]
    by_cases h : y = x
    · subst h
      rw [valV_pos rfl]
      simp
    · rw [valV_neg (fun z => h (Sum.inr.inj z)), valV_kvOf bs x]
      rw [List.lookup_cons]
      have : (x == y) = false := by simpa using Ne.symm h
      rw [this]
end K18
namespace K18
open PySem PySem.Spec PyProof.Rows L2
def unKey : Key → Option Str
  | .inl _ => none
  | .inr x => some x
theorem unKeys (zs : List Str) : (zs.map (Sum.inr : Str → Key)).filterMap unKey = zs := by
  induction zs with
  | nil => rfl
  | cons x r ih => rw [List.map_cons, List.filterMap_cons, ih]; rfl
theorem keys_perm {l : List Key} {ks : List Str} (p : l.Perm (ks.map Sum.inr)) : ∃ zs : List Str, l = zs.map Sum.inr ∧ zs.Perm ks := by
  have h1 : ∀ k ∈ l, ∃ x, k = Sum.inr x := fun k hk => by
    obtain ⟨x, _, e⟩ := List.mem_map.mp (p.mem_iff.mp hk)
    exact ⟨x, e.symm⟩
  have h2 : ∀ {l : List Key}, (∀ k ∈ l, ∃ x, k = Sum.inr x) → l = (l.filterMap unKey).map Sum.inr := by
    intro l
    induction l with
    | nil => intro _; rfl
    | cons k r ih =>
      intro h
      obtain ⟨x, rfl⟩ := h _ List.mem_cons_self
      rw [List.filterMap_cons]
      show _ = Sum.inr x :: _
      rw [← ih fun k hk => h k (List.mem_cons_of_mem _ hk)]
  refine ⟨l.filterMap unKey, h2 h1, ?_⟩
  have := p.filterMap unKey
  rw [unKeys] at this
  exact this
section
variable {P : Program} {w : World} {K : PySem.W.Frag} {mg : Str → Option Value} {base : Heap} {c : Ad}
/-! ### Holder.names -/
def spNames (c : Ad) : Sp := fun vs H Q _ => ∃ (e dx b : Addr) (fs : List (Str × V)) (kvs : List (Key × V)) (ks : List Str), vs = [.ref e] ∧ H e = some (.ins c.D dx (fB b ++ fs)) ∧ H b = some (.dK kvs) ∧ (kvs.map (·.1)).Perm (ks.map Sum.inr) ∧ ks.Pairwise nlt ∧ ks.length < 64 ∧
  ∀ L H', (∀ a o, H a = some o → H' a = some o) → H L = none → H' L = some (.lst (ks.map V.str)) → Q (.ref L) H'
theorem sc_names : FnScope ["self", "name"] ["self"] (defScope s_Holder_names) := ⟨rfl, rfl, rfl, by decide +kernel, rfl, by decide +kernel, by decide +kernel⟩
theorem lookup_below {b : Addr} {fs : List (Str × V)} : (fB b ++ fs).lookup ("below" : Str) = some (.ref b) := by
  show List.lookup _ ((_, _) :: fs) = _
  rw [List.lookup_cons]
  rfl
theorem me_names (B : Bt mg) (Z : Cs K mg c) (D : Mn K c.D "names" "Holder.names" s_Holder_names) : Me P w K mg base CX0 1 c.D "names" (spNames c) := by
  refine me_ok Z.oD D sc_names (fun _ _ _ _ _ _ us hl => match us, hl with | [_], _ => rfl) (fun vs H Q E h => ?_) (fun f cdv A outer s H vs Q E hr h => ?_)
  · obtain ⟨e, dx, b, fs, kvs, ks, rfl, _⟩ := h
    rfl
  · obtain ⟨e, dx, b, fs, kvs, ks, rfl, ee, eb, pk, pw, h64, k⟩ := h
    refine ⟨_, pss_one (ps_ret (pe_lock (pe_callB cr_sortedS rfl B.sorted boot_sorted (pa_cons (pe_lc (own := [("name", 1)]) (g := gName 1) (tt := tYes) rfl sc_names.nd (pi_keys (pe_fld (pv 0) rfl)) (blkOk_by (own := [("name", 1)]) (N := ["self", "name"]) (sc := defScope s_Holder_names) (by decide +kernel))
        (fun _ _ _ _ _ => pg_name (i := 1) sc_names.nd rfl (Or.inl rfl)) (fun _ _ _ _ _ => pts_nil) (fun _ _ _ _ _ => pe_callTy SkE.call_str_str rfl B.str boot_str (pa_cons (pv 1) pa_nil))) pa_nil)))), ?_⟩
    obtain ⟨zs, ez, pz⟩ := keys_perm pk
    have nbe : b ≠ e := ne_of eb ee (by simp)
    have hl : kvs.length = zs.length := by have := congrArg List.length ez; simpa using this
    refine ⟨b, _, eb, trivial, fun od => ?_⟩
    refine ⟨_, rfl, e, c.D, dx, _, .ref b, rfl, (upd_ne (Ne.symm nbe)).trans ee, Z.oD.cls, Z.naD0, lookup_below, b, od, rfl, .inl ⟨kvs, upd_same, fun D hD => ?_⟩⟩
    have hDb : D ≠ b := Ne.symm (ne_of_none upd_same hD)
    have hDn : H D = none := by rw [upd_ne hDb] at hD; exact hD
    refine lc_it walk_keys (fun i H2 => (∀ a o, H a = some o → a ≠ b → H2 a = some o) ∧ H2 b = some (.frz od (.dK kvs)) ∧ H2 D = some (.lst ((zs.take i).map V.str))) ⟨?_, ?_, upd_same⟩ (fun _ _ _ q => q.2.1) ?_ ?_
    · exact fun a o z n => by rw [upd_ne (ne_of_none z hDn), upd_ne n]; exact z
    · rw [upd_ne (Ne.symm hDb), upd_same]
    · rintro i x H2 H3 hi ⟨s1, l1, d1⟩ ⟨rfl, kk, v, hk, rfl⟩
      have hz : ∃ z, zs[i]? = some z ∧ kk = Sum.inr z := by
        have h1 : (kvs.map (·.1))[i]? = some kk := by rw [List.getElem?_map, hk]; rfl
        rw [ez, List.getElem?_map] at h1
        obtain ⟨z, h2, h3⟩ := Option.map_eq_some_iff.mp h1
        exact ⟨z, h2, h3.symm⟩
      obtain ⟨z, hz, rfl⟩ := hz
      refine ⟨rfl, _, rfl, z, rfl, _, d1, ?_, ?_, ?_, ?_⟩
      · rw [List.length_map, List.length_take]
        have h1 : zs.length < 64 := by rw [pz.length_eq]; exact h64
        exact Nat.lt_of_le_of_lt (Nat.min_le_right _ _) (Nat.lt_of_lt_of_le h1 (small_line (by decide)))
      · exact fun a o y n => by rw [upd_ne (ne_of_none y hDn)]; exact s1 a o y n
      · rw [upd_ne (Ne.symm hDb)]; exact l1
      · rw [upd_same, List.take_add_one, hz, List.map_append]
        rfl
    · rintro H2 ⟨s1, l1, d1⟩
      rw [hl, List.take_length] at d1
      refine ⟨D, zs, rfl, .of d1, by rw [pz.length_eq]; exact h64, fun ys L py hs hL => ?_⟩
      have e1 : ys = ks := sorted_perm pw pz py hs
      subst e1
      have hLb : L ≠ b := Ne.symm (ne_of_none l1 hL)
      refine ⟨(upd_ne (Ne.symm hLb)).trans l1, k L _ (fun a o z => ?_) ?_ ?_⟩
      · by_cases n : a = b
        · rw [n, upd_same]; rw [n, eb] at z; exact z
        · rw [upd_ne n]
          have h2 := s1 a o z n
          rw [upd_ne (ne_of_none h2 hL)]
          exact h2
      · cases z : H L with
        | none => rfl
        | some o => exact absurd (s1 L o z hLb) (by rw [hL]; simp)
      · rw [upd_ne hLb, upd_same]
/-! ### Holder.__contains__, __getitem__ -/
def spHas (c : Ad) : Sp := fun vs H Q _ => ∃ e dx b fs kvs x, vs = [.ref e, .str x] ∧ H e = some (.ins c.D dx (fB b ++ fs)) ∧ H b = some (.dK kvs) ∧ Q (.bl (valV kvs (.inr x)).isSome) H
theorem sc_has : FnScope ["self", "name"] ["self", "name"] (defScope s_Holder_contains) := ⟨rfl, rfl, rfl, by decide +kernel, rfl, by decide +kernel, by decide +kernel⟩
theorem du_has (B : Bt mg) (Z : Cs K mg c) (D : Dm K c.D "__contains__" "Holder.__contains__" s_Holder_contains) : Du P w K mg base CX0 1 c.D "__contains__" (spHas c) := by
  refine du_ok D sc_has (fun _ _ _ _ _ _ us hl => match us, hl with | [_, _], _ => rfl) (fun vs H Q E h => ?_) (fun f cdv A outer s H vs Q E hr h => ?_)
  · obtain ⟨e, dx, b, fs, kvs, x, rfl, _⟩ := h
    rfl
  · obtain ⟨e, dx, b, fs, kvs, x, rfl, ee, eb, q⟩ := h
    refine ⟨_, pss_one (ps_ret (pe_and (pe_callB call_isi rfl B.isi boot_isinstance (pa_cons (pv 1) (pa_cons (pe_bltn (v := .ty "str") rfl B.str boot_str rfl) pa_nil))) (pe_one (pe_cmp (pc_din (hu_of hr) (pv 1) (pe_fld (pv 0) rfl)))))), ?_⟩
    refine ⟨_, rfl, .str x, .ty "str", .type "str", .type "str", true, rfl, .ty _, .base (.str x), isi_str, true, rfl, iteT ?_⟩
    exact ⟨_, rfl, _, rfl, e, c.D, dx, _, .ref b, rfl, ee, Z.oD.cls, Z.naD0, lookup_below, b, _, rfl, .k (k := .inr x) eb, q⟩
def spGet (c : Ad) : Sp := fun vs H Q _ => ∃ e dx b fs kvs x v, vs = [.ref e, .str x] ∧ H e = some (.ins c.D dx (fB b ++ fs)) ∧ H b = some (.dK kvs) ∧ valV kvs (.inr x) = some v ∧ Q v H
theorem sc_get : FnScope ["self", "name"] ["self", "name"] (defScope s_Holder_getitem) := ⟨rfl, rfl, rfl, by decide +kernel, rfl, by decide +kernel, by decide +kernel⟩
theorem du_get (B : Bt mg) (Z : Cs K mg c) (hs : Du P w K mg base CX0 1 c.D "__contains__" (spHas c)) (D : Dm K c.D "__getitem__" "Holder.__getitem__" s_Holder_getitem) : Du P w K mg base CX0 2 c.D "__getitem__" (spGet c) := by
  refine du_ok D sc_get (fun _ _ _ _ _ _ us hl => match us, hl with | [_, _], _ => rfl) (fun vs H Q E h => ?_) (fun f cdv A outer s H vs Q E hr h => ?_)
  · obtain ⟨e, dx, b, fs, kvs, x, v, rfl, _⟩ := h
    rfl
  · obtain ⟨e, dx, b, fs, kvs, x, v, rfl, ee, eb, ev, q⟩ := h
    refine ⟨_, pss_cons (ps_if (pt_cmpR (op_ninO hs hr (by decide)) (pv 1) (pv 0) (by rfl)) (pss_one ps_never) pss_nil) (pss_one (ps_ret (pe_dget (hu_of hr) (pe_fld (pv 0) rfl) (pv 1) (fun _ _ => rfl)))), ?_⟩
    refine ⟨_, rfl, _, rfl, e, dx, _, rfl, ee, e, dx, b, fs, kvs, x, rfl, ee, eb, _, rfl, false, ?_, iteF ?_⟩
    · rw [ev]; rfl
    · exact ⟨_, rfl, e, c.D, dx, _, .ref b, rfl, ee, Z.oD.cls, Z.naD0, lookup_below, _, rfl, b, v, rfl, by have := DGet.k (k := .inr x) eb; rw [ev] at this; exact this, q⟩
end
end K18
namespace K18
open PySem PySem.Spec PyProof.Rows L2
namespace Fo
/-- the children: name, facts, what lies below -/
def kids : Fo → List (Str × Dat × Fo)
  | .nil => []
  | .cons n d ch rest => (n, d, ch) :: rest.kids
theorem names_kids : ∀ fo : Fo, fo.names = fo.kids.map (·.1)
  | .nil => rfl
  | .cons n d ch rest => by rw [names, kids, List.map_cons, names_kids rest]
theorem size_kids : ∀ fo : Fo, fo.size = (fo.kids.map fun k => 1 + k.2.2.size).sum
  | .nil => rfl
  | .cons n d ch rest => by rw [size, kids, List.map_cons, List.sum_cons, size_kids rest]
theorem names_le : ∀ fo : Fo, fo.names.length ≤ fo.size
  | .nil => Nat.le_refl _
  | .cons n d ch rest => by
    have := names_le rest
    show rest.names.length + 1 ≤ 1 + ch.size + rest.size
    omega
theorem kid_wf : ∀ {fo : Fo}, fo.Wf → ∀ k ∈ fo.kids, NmOk k.1 ∧ DatOk k.2.1 ∧ (k.2.1.dir = false → k.2.2 = .nil) ∧ k.2.2.Wf ∧ k.2.2.depth + 1 ≤ fo.depth ∧ k.2.2.size + 1 ≤ fo.size
  | .nil, _, k, hk => by simp [kids] at hk
  | .cons n d ch rest, h, k, hk => by
    rcases List.mem_cons.mp hk with e | e
    · subst e
      refine ⟨h.1, h.2.1, h.2.2.1, h.2.2.2.1, ?_, ?_⟩
      · show ch.depth + 1 ≤ max (1 + ch.depth) rest.depth
        have := Nat.le_max_left (1 + ch.depth) rest.depth
        omega
      · show ch.size + 1 ≤ 1 + ch.size + rest.size
        omega
    · obtain ⟨h1, h2, h3, h4, h5, h6⟩ := kid_wf h.2.2.2.2.1 k e
      refine ⟨h1, h2, h3, h4, Nat.le_trans h5 (Nat.le_max_right _ _), ?_⟩
      show k.2.2.size + 1 ≤ 1 + ch.size + rest.size
      omega
end Fo
theorem FoAt.kid {c : Ad} {H : Hp} : ∀ {fo : Fo} {as : List (Str × Addr)} {F : List Addr}, FoAt c H fo as F → ∀ {i : Nat} {x : Str} {d : Dat} {ch : Fo}, fo.kids[i]? = some (x, d, ch) → ∃ e G, as[i]? = some (x, e) ∧ NodeAt c H e d ch G ∧ (∀ b ∈ G, b ∈ F)
  | .nil, _, _, _, i, x, d, ch, hk => by simp [Fo.kids] at hk
  | .cons x' d' ch' rest, as, F, h, i, x, d, ch, hk => by
    obtain ⟨e, as', F1, F2, e1, e2, h1, h2⟩ := h
    subst e1 e2
    match i, hk with
    | 0, hk =>
      have : (x', d', ch') = (x, d, ch) := Option.some.inj hk
      cases this
      exact ⟨e, F1, rfl, h1, fun b hb => List.mem_append_left _ hb⟩
    | i + 1, hk =>
      obtain ⟨e', G, a1, a2, a3⟩ := FoAt.kid h2 (i := i) hk
      exact ⟨e', G, a1, a2, fun b hb => List.mem_append_right _ (a3 b hb)⟩
theorem lookup_of_nodup {as : List (Str × Addr)} (nd : (as.map (·.1)).Nodup) : ∀ {i : Nat} {x : Str} {e : Addr}, as[i]? = some (x, e) → as.lookup x = some e := by
  induction as with
  | nil => intro i x e h; simp at h
  | cons p r ih =>
    intro i x e h
    have nd' := List.nodup_cons.mp nd
    match i, h with
    | 0, h =>
      have : p = (x, e) := Option.some.inj h
      subst this
      rw [List.lookup_cons]; simp
    | i + 1, h =>
      have h' : r[i]? = some (x, e) := h
      have hx : x ∈ r.map (·.1) := List.mem_map.mpr ⟨(x, e), List.mem_of_getElem? h', rfl⟩
      have hne : (x == p.1) = false := by
        have : x ≠ p.1 := fun z => nd'.1 (by show p.1 ∈ _; rw [← z]; exact hx)
        simpa using this
      rw [show p = (p.1, p.2) from rfl, List.lookup_cons, hne]
      exact ih nd'.2 h'
/-- what a folder's dict says -/
structure DirAt (c : Ad) (H : Hp) (e : Addr) (d : Dat) (ch : Fo) (dx m b : Addr) (kvs : List (Key × V)) (bs : List (Str × Addr)) (F1 : List Addr) : Prop where
  mo : MoAt c H m d.mode
  obj : H e = some (.ins c.D dx (fB b ++ fE m d.own d.grp))
  dict : H b = some (.dK kvs)
  perm : kvs.Perm (bs.map kvOf)
  fo : FoAt c H ch bs F1
theorem DirAt.keys {c : Ad} {H : Hp} {e : Addr} {d : Dat} {ch : Fo} {dx m b : Addr} {kvs : List (Key × V)} {bs : List (Str × Addr)} {F1 : List Addr} (h : DirAt c H e d ch dx m b kvs bs F1) : (kvs.map (·.1)).Perm (ch.names.map Sum.inr) := by
  have := h.perm.map (·.1)
  rw [keys_kvOf, h.fo.names] at this
  exact this
theorem DirAt.nd {c : Ad} {H : Hp} {e : Addr} {d : Dat} {ch : Fo} {dx m b : Addr} {kvs : List (Key × V)} {bs : List (Str × Addr)} {F1 : List Addr} (h : DirAt c H e d ch dx m b kvs bs F1) (w : ch.Wf) : (bs.map (·.1)).Nodup := by
  rw [h.fo.names]; exact pw_nodup w.pw
theorem DirAt.get {c : Ad} {H : Hp} {e : Addr} {d : Dat} {ch : Fo} {dx m b : Addr} {kvs : List (Key × V)} {bs : List (Str × Addr)} {F1 : List Addr} (h : DirAt c H e d ch dx m b kvs bs F1) (w : ch.Wf) (x : Str) : valV kvs (.inr x) = (bs.lookup x).map V.ref := by
  rw [valV_perm h.perm (by rw [keys_kvOf]; exact nodup_inr (h.nd w)), valV_kvOf]
theorem NodeAt.cases {c : Ad} {H : Hp} {e : Addr} {d : Dat} {ch : Fo} {F : List Addr} (h : NodeAt c H e d ch F) :
    (d.dir = false ∧ ch = .nil ∧ ∃ dx m, MoAt c H m d.mode ∧ H e = some (.ins c.F dx (fE m d.own d.grp)) ∧ F = [e, m]) ∨
    (d.dir = true ∧ ∃ dx m b kvs bs F1, DirAt c H e d ch dx m b kvs bs F1 ∧ F = e :: m :: b :: F1) := by
  obtain ⟨dx, m, hm, h⟩ := h
  rcases h with ⟨h1, h2, h3, h4⟩ | ⟨h1, b, kvs, bs, F1, h2, h3, h4, h5, h6⟩
  · refine .inl ⟨h1, ?_, dx, m, hm, h2, h3⟩
    cases ch with
    | nil => rfl
    | cons n d ch rest =>
      obtain ⟨_, _, _, _, e1, _⟩ := h4
      cases e1
  · exact .inr ⟨h1, dx, m, b, kvs, bs, F1, ⟨hm, h2, h3, h4, h5⟩, h6⟩
theorem DirAt.node {c : Ad} {H : Hp} {e : Addr} {d : Dat} {ch : Fo} {dx m b : Addr} {kvs : List (Key × V)} {bs : List (Str × Addr)} {F1 : List Addr} (h : DirAt c H e d ch dx m b kvs bs F1) (hd : d.dir = true) : NodeAt c H e d ch (e :: m :: b :: F1) :=
  ⟨dx, m, h.mo, .inr ⟨hd, b, kvs, bs, F1, h.obj, h.dict, h.perm, h.fo, rfl⟩⟩
theorem DirAt.keep {c : Ad} {H H' : Hp} {e : Addr} {d : Dat} {ch : Fo} {dx m b : Addr} {kvs : List (Key × V)} {bs : List (Str × Addr)} {F1 : List Addr} (h : DirAt c H e d ch dx m b kvs bs F1) (k : ∀ a ∈ e :: m :: b :: F1, ∀ o, H a = some o → H' a = some o) : DirAt c H' e d ch dx m b kvs bs F1 :=
  ⟨h.mo.same (k m (by simp)), k e (by simp) _ h.obj, k b (by simp) _ h.dict, h.perm, h.fo.keep fun a ha => k a (by simp [ha])⟩
/-- what isinstance(e, Holder), isinstance(e, Entry) say -/
theorem NodeAt.hold {K : PySem.W.Frag} {mg : Str → Option Value} {c : Ad} {H : Hp} {e : Addr} {d : Dat} {ch : Fo} {F : List Addr} (Z : Cs K mg c) (h : NodeAt c H e d ch F) : ∃ t, TyX K H (.ref e) t ∧ PySem.W.kitOne K t (.ref c.Ho) = some d.dir ∧ PySem.W.kitOne K t (.ref c.E) = some true := by
  rcases h.cases with ⟨h1, _, dx, m, hm, he, _⟩ | ⟨h1, dx, m, b, kvs, bs, F1, hd, _⟩
  · exact ⟨_, Z.oF.ty he, by rw [h1]; exact Z.isFH, Z.isFE⟩
  · exact ⟨_, Z.oD.ty hd.obj, by rw [h1]; exact Z.isDH, Z.isDE⟩
section
variable {P : Program} {w : World} {K : PySem.W.Frag} {mg : Str → Option Value} {base : Heap} {c : Ad}
abbrev Grow (H H' : Hp) : Prop := ∀ a o, H a = some o → H' a = some o
theorem NodeAt.grow {H H' : Hp} {e : Addr} {d : Dat} {ch : Fo} {F : List Addr} (h : NodeAt c H e d ch F) (g : Grow H H') : NodeAt c H' e d ch F := h.keep fun b _ o q => g b o q
/-! ### size_of -/
def spSize (c : Ad) (k : Nat) : Sp := fun vs H Q _ => ∃ e d ch F, vs = [.ref e] ∧ NodeAt c H e d ch F ∧ ch.Wf ∧ ch.depth ≤ k ∧ ch.size < 64 ∧ ∀ H', Grow H H' → Q (.int (1 + ch.size : Nat)) H'
theorem sc_size_of : FnScope ["entry", "name"] ["entry"] (defScope s_size_of) := ⟨rfl, rfl, rfl, by decide +kernel, rfl, by decide +kernel, by decide +kernel⟩
theorem size_step (B : Bt mg) (Z : Cs K mg c) (nm : Me P w K mg base CX0 1 c.D "names" (spNames c)) (gi : Du P w K mg base CX0 2 c.D "__getitem__" (spGet c)) (D : Dn K mg "size_of" s_size_of) {k : Nat}
    (rec_ : Ca P w K mg base CX0 (4 + k) "size_of" (fun vs H Q E => ∃ j, j + 1 ≤ k ∧ spSize c j vs H Q E)) : Ca P w K mg base CX0 (4 + (k + 1)) "size_of" (spSize c k) := by
  refine ca_ok (k := 4 + k) D sc_size_of (fun _ _ _ _ _ _ us hl => match us, hl with | [_], _ => rfl) (fun vs H Q E h => ?_) (fun f cdv A outer s H vs Q E hr h => ?_)
  · obtain ⟨e, d, ch, F, rfl, _⟩ := h
    rfl
  · obtain ⟨e, d, ch, F, rfl, hn, hw, hdp, hsz, q⟩ := h
    refine ⟨_, pss_cons (ps_if (pt_not (pt_val (pe_callB call_isi rfl B.isi boot_isinstance (pa_cons (pv 0) (pa_cons (pe_glob (v := .ref c.Ho) rfl Z.gHo rfl) pa_nil))))) (pss_one (ps_ret pe_int)) pss_nil)
      (pss_one (ps_ret (pe_op op_add pe_int (pe_callB (cr_sum rfl) rfl B.sum boot_sum (pa_cons (pe_lc (own := [("name", 1)]) (g := gName 1) (tt := tYes) rfl sc_size_of.nd (pi_list (pe_me0 nm hr (by omega) pass0 (pv 0))) (blkOk_by (own := [("name", 1)]) (N := ["entry", "name"]) (sc := defScope s_size_of) (by decide +kernel))
        (fun _ _ _ _ _ => pg_name (i := 1) sc_size_of.nd rfl (Or.inl rfl)) (fun _ _ _ _ _ => pts_nil) (fun _ _ _ _ _ => pe_ca rec_ hr (Nat.le_refl _) pass0 rfl (pa_cons (pe_subO gi hr (by omega) pass0 (pv 0) (pv 1)) pa_nil))) pa_nil))))), ?_⟩
    obtain ⟨t, ht, hk, _⟩ := hn.hold Z
    refine ⟨_, rfl, .ref e, .ref c.Ho, t, .ref c.Ho, d.dir, rfl, .own _, ht, hk, d.dir, rfl, ?_⟩
    rcases hn.cases with ⟨hd, hc, _⟩ | ⟨hd, dx, m, b, kvs, bs, F1, hD, eF⟩
    · rw [hd]
      refine iteT ?_
      subst hc
      exact q H fun _ _ z => z
    · rw [hd]
      refine iteF ?_
      refine ⟨_, rfl, e, dx, _, rfl, hD.obj, rfl, e, dx, b, _, kvs, ch.names, rfl, hD.obj, hD.dict, hD.keys, hw.pw, Nat.lt_of_le_of_lt ch.names_le hsz, fun L H1 g1 hL eL => ⟨L, rfl, ⟨_, SqL.of eL⟩, fun D' hD' => ?_⟩⟩
      have nLD : L ≠ D' := ne_of_none eL hD'
      refine lc_it (walk_list (K := K) (a := L) (xs := ch.names.map V.str)) (fun i H2 => Grow H H2 ∧ H2 L = some (.lst (ch.names.map V.str)) ∧ H2 D' = some (.lst (((ch.kids.take i).map fun k => ((1 + k.2.2.size : Nat) : Int)).map V.int))) ⟨?_, ?_, upd_same⟩ (fun _ _ _ z => SqL.of z.2.1) ?_ ?_
      · exact fun a o z => by rw [upd_ne (ne_of_none (g1 a o z) hD')]; exact g1 a o z
      · rw [upd_ne nLD]; exact eL
      · rintro i x H2 H3 hi ⟨s1, l1, d1⟩ ⟨rfl, hx⟩
        have hi' : i < ch.kids.length := by rw [List.length_map, Fo.names_kids, List.length_map] at hi; exact hi
        obtain ⟨n', d', ch', hk⟩ : ∃ n' d' ch', ch.kids[i]? = some (n', d', ch') := ⟨_, _, _, List.getElem?_eq_getElem hi'⟩
        have hxn : x = .str n' := by
          rw [List.getElem?_map, Fo.names_kids, List.getElem?_map, hk] at hx
          exact (Option.some.inj hx).symm
        subst hxn
        obtain ⟨e', G, hb, hne, hG⟩ := hD.fo.kid hk
        obtain ⟨w1, w2, w3, w4, w5, w6⟩ := Fo.kid_wf hw _ (List.mem_of_getElem? hk)
        refine ⟨rfl, _, rfl, _, rfl, e, dx, _, rfl, s1 _ _ hD.obj, e, dx, b, _, kvs, n', .ref e', rfl, s1 _ _ hD.obj, s1 _ _ hD.dict, ?_, ?_⟩
        · rw [hD.get hw, lookup_of_nodup (hD.nd hw) hb]; rfl
        refine ⟨ch'.depth, by dsimp only at w5; omega, e', d', ch', G, rfl, hne.grow s1, w4, Nat.le_refl _, by dsimp only at w6; omega, fun H4 g4 => ⟨_, g4 _ _ d1, ?_, ?_, ?_, ?_⟩⟩
        · rw [List.length_map, List.length_map, List.length_take]
          have h1 : ch.kids.length ≤ ch.size := by have := ch.names_le; rw [Fo.names_kids, List.length_map] at this; exact this
          exact Nat.lt_of_le_of_lt (Nat.min_le_right _ _) (Nat.lt_of_lt_of_le (Nat.lt_of_le_of_lt h1 hsz) (small_line (by decide)))
        · exact fun a o z => by
            have hDH : H D' = none := by
              cases y : H D' with
              | none => rfl
              | some o => rw [g1 D' o y] at hD'; cases hD'
            rw [upd_ne (ne_of_none z hDH)]; exact g4 a o (s1 a o z)
        · rw [upd_ne nLD]; exact g4 _ _ l1
        · rw [upd_same, List.take_add_one, hk, List.map_append, List.map_append]
          rfl
      · rintro H2 ⟨s1, l1, d1⟩
        have hl : (ch.names.map V.str).length = ch.kids.length := by rw [List.length_map, Fo.names_kids, List.length_map]
        rw [hl, List.take_length] at d1
        refine ⟨D', _, rfl, SqL.of d1, ⟨_, _, rfl, rfl, ?_⟩⟩
        have e1 : ((1 : Int) + (ch.kids.map fun k => ((1 + k.2.2.size : Nat) : Int)).sum) = ((1 + ch.size : Nat) : Int) := by
          have h2 : ∀ l : List (Str × Dat × Fo), (l.map fun k => ((1 + k.2.2.size : Nat) : Int)).sum = (((l.map fun k => 1 + k.2.2.size).sum : Nat) : Int) := by
            intro l
            induction l with
            | nil => rfl
            | cons a r ih => rw [List.map_cons, List.map_cons, List.sum_cons, List.sum_cons, ih]; omega
          rw [h2, ch.size_kids]
          omega
        show Q (V.int (1 + (ch.kids.map fun k => ((1 + k.2.2.size : Nat) : Int)).sum)) H2
        rw [e1]
        exact q H2 s1
theorem ca_size (B : Bt mg) (Z : Cs K mg c) (nm : Me P w K mg base CX0 1 c.D "names" (spNames c)) (gi : Du P w K mg base CX0 2 c.D "__getitem__" (spGet c)) (D : Dn K mg "size_of" s_size_of) : ∀ k, Ca P w K mg base CX0 (4 + (k + 1)) "size_of" (spSize c k)
  | 0 => size_step B Z nm gi D (by
      obtain ⟨f, fd, F, hm⟩ := D
      exact ⟨f, fd, ["entry"], ⟨fun vs H Q E h => absurd h (by rintro ⟨j, hj, _⟩; omega), fun A outer s H args us vs Q E _ _ _ _ h => absurd h (by rintro ⟨j, hj, _⟩; omega)⟩, hm, F.kp, F.binds (fun _ _ _ _ _ _ us hl => match us, hl with | [_], _ => rfl)⟩)
  | k + 1 => size_step B Z nm gi D (by
      obtain ⟨f, fd, ps, F, h2, h3, h4⟩ := (ca_size B Z nm gi D k).ex
      refine ⟨f, fd, ps, F.imp fun vs H Q E h => ?_, h2, h3, h4⟩
      obtain ⟨j, hj, e, d, ch, F', h1, h5, h6, h7, h8⟩ := h
      exact ⟨e, d, ch, F', h1, h5, h6, Nat.le_trans h7 (by omega), h8⟩)
end
end K18
namespace K18
open PySem PySem.Spec PyProof.Rows L2 NdefX StX
section
variable {P : Program} {w : World} {K : PySem.W.Frag} {mg : Str → Option Value} {base : Heap} {c : Ad}
/-! ### Folder.__init__ -/
def ND0 : List Str := ["self", "mode", "owner", "group", "children", "__class__", "names", "name"]
theorem sc_dinit : NScope ND0 ((["self", "mode", "owner", "group"] : List Str) ++ [("children" : Str)]) ["__class__"] (defScope s_Folder_init) := nscope_by (by decide +kernel)
theorem fr_dinit (B : Bt mg) (Z : Cs K mg c) (CC : Cc P K mg c) (su : Su P w K mg base CX0 9 c.D c.D "__init__" (spEInit c c.D preD)) {f : Addr} {fd : FuncData} (F : SFun K P.main.file "__init__" "Folder.__init__" s_Folder_init f fd c.D) :
    FnR P w K mg base CX0 13 f (spEInit c c.D preD) := by
  refine sfn_kw (N := ND0) (pd := "children") (ps := ["self", "mode", "owner", "group"]) cxUp_none F sc_dinit rfl CC.top B.super ⟨_, rfl, rfl, rfl⟩ spEInit_len (fun _ _ _ _ _ _ _ us hl => match us, hl with | [_, _, _, _], _ => rfl) (fun cd cc A outer s H dk vs Q E hr SX hdk h => ?_)
  obtain ⟨x, dx, mv, n, o, g, rfl, ex, hmv, ho, hg, hne, q⟩ := h
  have nxk := ne_of_none ex hdk
  refine ⟨_, psa_sup (C := c.D) (j := 12) SX su hr (by decide) (pass0 (X := ncx CX0 P w K mg base ND0 (nfS "__init__" "Folder.__init__" s_Folder_init cd cc) f A outer s (upd H dk (.dK [])) E)) (pa_cons (pv 1) (pa_cons (pv 2) (pa_cons (pv 3) pa_nil)))
    (PSs.nox (pss_cons (ps_set (i := 6) sc_dinit.nd rfl (.inl rfl) (pe_lock (pe_callB cr_sortedS rfl B.sorted boot_sorted (pa_cons (pe_lc (own := [("name", 7)]) (g := gName 7) (tt := tYes) rfl sc_dinit.nd (pi_keys (pv 4)) (blkOk_by (own := [("name", 7)]) (N := ND0) (sc := defScope s_Folder_init) (by decide +kernel))
        (fun _ _ _ _ _ => pg_name (i := 7) sc_dinit.nd rfl (Or.inl rfl)) (fun _ _ _ _ _ => pts_nil) (fun _ _ _ _ _ => pe_callTy SkE.call_str_str rfl B.str boot_str (pa_cons (pv 7) pa_nil))) pa_nil))))
      (pss_cons (ps_for PassesOwn.never rfl (pi_list (pv 6)) (pg_name (i := 7) sc_dinit.nd rfl (.inl rfl)) (pss_never)) (pss_one (ps_for PassesOwn.never rfl (pi_list (pv 6)) (pg_name (i := 7) sc_dinit.nd rfl (.inl rfl)) (pss_never)))))), x, dx, [], rfl, (upd_ne nxk).trans ex, fun p f2 hp => ?_⟩
  have npk : p ≠ dk := Ne.symm (ne_of_none upd_same hp)
  have hpH : H p = none := by rw [upd_ne npk] at hp; exact hp
  have nxp := ne_of_none ex hpH
  refine ⟨_, rfl, _, rfl, _, rfl, upd_same, x, dx, mv, n, o, g, rfl, ?_, ?_, ho, hg, hne, fun H' m fs k1 k2 k3 k4 k5 k6 => ?_⟩
  · rw [upd_ne nxp, upd_ne nxk]; exact ex
  · obtain ⟨hn, (⟨m, rfl, hm⟩ | rfl)⟩ := hmv
    · exact ⟨hn, .inl ⟨m, rfl, hm.same fun o z => by rw [upd_ne (ne_of_none z hpH), upd_ne (ne_of_none z hdk)]; exact z⟩⟩
    · exact ⟨hn, .inr rfl⟩
  obtain ⟨b, rfl, hb0, hb1⟩ := k2
  have ek : H' dk = some (.dK []) := k1 dk _ (by rw [upd_ne (Ne.symm npk), upd_same]) (by simpa using Ne.symm nxk)
  have ndb : b ≠ dk := fun z => by rw [z, upd_ne (Ne.symm npk), upd_same] at hb0; cases hb0
  have ndm : m ≠ dk := fun z => by rw [z, upd_ne (Ne.symm npk), upd_same] at k4; cases k4
  have hbH : H b = none := by
    have : b ≠ p := Ne.symm (ne_of_none upd_same hb0)
    rw [upd_ne this, upd_ne ndb] at hb0; exact hb0
  have hmH : H m = none := by
    have : m ≠ p := Ne.symm (ne_of_none upd_same k4)
    rw [upd_ne this, upd_ne ndm] at k4; exact k4
  refine ⟨dk, _, ek, trivial, fun od => ?_⟩
  refine ⟨_, rfl, dk, od, rfl, .inl ⟨[], upd_same, fun L hL => ?_⟩⟩
  have hLk : L ≠ dk := Ne.symm (ne_of_none upd_same hL)
  refine lc_it walk_keys (fun i H2 => H2 = upd (upd H' dk (.frz od (.dK []))) L (.lst [])) rfl (fun _ H2 _ z => by rw [z, upd_ne (Ne.symm hLk), upd_same]) ?_ ?_
  · rintro i y H2 H3 hi
    exact absurd hi (Nat.not_lt_zero _)
  rintro H2 rfl
  refine ⟨L, [], rfl, .of upd_same, by decide, fun ys L2 py hs hL2 => ?_⟩
  have e1 : ys = [] := List.Perm.eq_nil py
  subst e1
  have hL2k : L2 ≠ dk := Ne.symm (ne_of_none (by rw [upd_ne (Ne.symm hLk), upd_same]) hL2)
  have hL2L : L2 ≠ L := Ne.symm (ne_of_none upd_same hL2)
  refine ⟨by rw [upd_ne (Ne.symm hL2k), upd_ne (Ne.symm hLk), upd_same], ?_⟩
  generalize hH3 : upd (upd (upd (upd H' dk (HO.frz od (HO.dK []))) L (HO.lst [])) L2 (HO.lst (List.map V.str []))) dk (HO.dK []) = H3
  have g3 : ∀ a u, H' a = some u → H3 a = some u := fun a u z => by
    rw [← hH3]
    by_cases na : a = dk
    · rw [na, upd_same]; rw [na, ek] at z; exact z
    rw [upd_ne na]
    have z1 : upd H' dk (HO.frz od (HO.dK [])) a = some u := by rw [upd_ne na]; exact z
    have z2 : upd (upd H' dk (HO.frz od (HO.dK []))) L (HO.lst []) a = some u := by rw [upd_ne (ne_of_none z1 hL)]; exact z1
    rw [upd_ne (ne_of_none z2 hL2)]; exact z2
  have eL3 : H3 L2 = some (.lst []) := by rw [← hH3, upd_ne hL2k, upd_same]; rfl
  refine ⟨_, rfl, L2, rfl, ⟨_, .of eL3⟩, ?_⟩
  refine for_it (walk_list (xs := [])) (fun i σ' H' => H' = H3 ∧ σ'[6]? = some (some (.ref L2))) ⟨rfl, rfl⟩ (fun i σ' H4 _ z => by rw [z.1]; exact .of eL3) ?_ ?_
  · rintro i y σ' H4 H5 hi
    exact absurd hi (Nat.not_lt_zero _)
  rintro σ' H4 ⟨rfl, h6⟩
  refine ⟨_, h6, L2, rfl, ⟨_, .of eL3⟩, ?_⟩
  refine for_it (walk_list (xs := [])) (fun i σ' H' => H' = H4) rfl (fun i σ' H5 _ z => by rw [z]; exact .of eL3) ?_ ?_
  · rintro i y σ' H5 H6 hi
    exact absurd hi (Nat.not_lt_zero _)
  rintro σ' H5 rfl
  refine q H5 m (fB b) ?_ ⟨b, rfl, hbH, g3 _ _ hb1⟩ k3 hmH ?_ (g3 _ _ k6)
  · intro a u z na
    exact g3 _ _ (k1 a u (by rw [upd_ne (ne_of_none z hpH), upd_ne (ne_of_none z hdk)]; exact z) na)
  · exact k5.same fun o z => g3 _ _ z
/-- File(..), Folder(..) -/
theorem ma_file (B : Bt mg) (Z : Cs K mg c) (CC : Cc P K mg c) (no : Ca P w K mg base CX0 3 "number_of" (spNumberOf c)) (nm : Ca P w K mg base CX0 1 "is_name" spIsName) (mm : Ma P w K mg base CX0 2 "Mode" c.M (spMInit c)) : Ma P w K mg base CX0 9 "File" c.F (spEInit c c.F preF) := by
  obtain ⟨f, fd, F, M, _⟩ := CC.ei
  refine ⟨f, fd, _, M, fn_einitF B Z CC no nm mm F, Z.gF, ?_⟩
  obtain ⟨oc, od, kV, doc, pm, an, c', ct, osl, cc, rfl, _⟩ := F.ex
  exact .all fun us hl => match us, hl with | [_, _, _, _], _ => rfl
structure Mr (P : Program) (w : World) (K : PySem.W.Frag) (mg : Str → Option Value) (base : Heap) (CX : CXT) (k : Nat) (x : Str) (C : Addr) (sp : Sp) : Prop where
  ex : ∃ f, Mk K C f ∧ FnR P w K mg base CX k f sp ∧ mg x = some (.ref C)
theorem mr_folder (B : Bt mg) (Z : Cs K mg c) (CC : Cc P K mg c) (no : Ca P w K mg base CX0 3 "number_of" (spNumberOf c)) (nm : Ca P w K mg base CX0 1 "is_name" spIsName) (mm : Ma P w K mg base CX0 2 "Mode" c.M (spMInit c)) : Mr P w K mg base CX0 13 "Folder" c.D (spEInit c c.D preD) := by
  obtain ⟨f, fd, F, _, M2, _⟩ := CC.ei
  obtain ⟨f', fd', F', M'⟩ := CC.di
  refine ⟨f', M', fr_dinit B Z CC ⟨f, fd, _, M2, fn_einitD B Z CC no nm mm F, ?_⟩ F', Z.gD⟩
  obtain ⟨oc, od, kV, doc, pm, an, c', ct, osl, cc, rfl, _⟩ := F.ex
  exact .all fun us hl => match us, hl with | [_, _, _, _], _ => rfl
theorem pe_mr {X : Cx} {CX : CXT} {k j : Nat} {C : Addr} {x : Str} {sp : Sp} {E : XK} {p pos : Pos} {e : Expr} {es : List Expr} {t : TA} (m : Mr X.prog X.w X.K X.mg X.base CX k x C sp) (hr : Room j X.A) (hk : k + 1 ≤ j) (hx : Passes CX X E) (hg : Gl X x) (ha : PA X (e :: es) t)
    (hdb : (x == ("__debug__" : Str)) = false := by decide) (he : starEach (e :: es) X.env = (false, eval e X.env) :: starEach es X.env := by rfl) (hpl : (backTo pos (starEach es X.env)).any (·.1) = false := by rfl) : PE X (.Call (.Name x p) (e :: es) [] pos) (tMakeR C sp E t) := by
  obtain ⟨f, M, F, hm⟩ := m.ex
  exact pe_makeR M F (hr.mono hk) hg hm hx ha hdb he hpl
end
end K18
namespace K18
open PySem PySem.Spec PyProof.Rows L2 NdefX StX
/-! ### children as a list -/
def KidsAt (c : Ad) (H : Hp) : List (Str × Dat × Fo) → List (Str × Addr) → List Addr → Prop
  | [], as, F => as = [] ∧ F = []
  | k :: ks, as, F => ∃ e as' F1 F2, as = (k.1, e) :: as' ∧ F = F1 ++ F2 ∧ NodeAt c H e k.2.1 k.2.2 F1 ∧ KidsAt c H ks as' F2
theorem foAt_kids {c : Ad} {H : Hp} : ∀ {fo : Fo} {as : List (Str × Addr)} {F : List Addr}, FoAt c H fo as F ↔ KidsAt c H fo.kids as F
  | .nil, _, _ => Iff.rfl
  | .cons x d ch rest, as, F => by
    constructor
    · rintro ⟨e, as', F1, F2, e1, e2, h1, h2⟩
      exact ⟨e, as', F1, F2, e1, e2, h1, foAt_kids.mp h2⟩
    · rintro ⟨e, as', F1, F2, e1, e2, h1, h2⟩
      exact ⟨e, as', F1, F2, e1, e2, h1, foAt_kids.mpr h2⟩
theorem KidsAt.snoc {c : Ad} {H : Hp} {x : Str} {d : Dat} {ch : Fo} {e : Addr} {G : List Addr} (h2 : NodeAt c H e d ch G) : ∀ {l : List (Str × Dat × Fo)} {as : List (Str × Addr)} {F : List Addr}, KidsAt c H l as F → KidsAt c H (l ++ [(x, d, ch)]) (as ++ [(x, e)]) (F ++ G)
  | [], _, _, h => by
    obtain ⟨rfl, rfl⟩ := h
    exact ⟨e, [], G, [], rfl, by simp, h2, rfl, rfl⟩
  | k :: ks, as, F, h => by
    obtain ⟨e', as', F1, F2, rfl, rfl, h1, h3⟩ := h
    exact ⟨e', as' ++ [(x, e)], F1, F2 ++ G, rfl, by rw [List.append_assoc], h1, KidsAt.snoc h2 h3⟩
theorem KidsAt.keep {c : Ad} {H H' : Hp} : ∀ {l : List (Str × Dat × Fo)} {as : List (Str × Addr)} {F : List Addr}, KidsAt c H l as F → (∀ b ∈ F, ∀ o, H b = some o → H' b = some o) → KidsAt c H' l as F
  | [], _, _, h, _ => h
  | k :: ks, as, F, h, g => by
    obtain ⟨e', as', F1, F2, e1, rfl, h1, h3⟩ := h
    exact ⟨e', as', F1, F2, e1, rfl, h1.keep fun b hb => g b (List.mem_append_left _ hb), KidsAt.keep h3 fun b hb => g b (List.mem_append_right _ hb)⟩
theorem KidsAt.names {c : Ad} {H : Hp} : ∀ {l : List (Str × Dat × Fo)} {as : List (Str × Addr)} {F : List Addr}, KidsAt c H l as F → as.map (·.1) = l.map (·.1)
  | [], _, _, h => by rw [h.1]; rfl
  | k :: ks, as, F, h => by
    obtain ⟨e', as', F1, F2, rfl, _, h1, h3⟩ := h
    rw [List.map_cons, List.map_cons, KidsAt.names h3]
theorem NodeAt.tracked {c : Ad} {H : Hp} {e : Addr} {d : Dat} {ch : Fo} {F : List Addr} (hF : ∀ bs G, FoAt c H ch bs G → ∀ b ∈ G, ∃ o, H b = some o) (h : NodeAt c H e d ch F) : ∀ b ∈ F, ∃ o, H b = some o := by
  intro a ha
  rcases h.cases with ⟨_, _, dx, m, ⟨_, dm, hm⟩, he, rfl⟩ | ⟨_, dx, m, b, kvs, bs, F1, hd, rfl⟩
  · simp at ha
    rcases ha with rfl | rfl
    · exact ⟨_, he⟩
    · exact ⟨_, hm⟩
  · obtain ⟨_, dm, hm⟩ := hd.mo
    rcases List.mem_cons.mp ha with rfl | ha
    · exact ⟨_, hd.obj⟩
    rcases List.mem_cons.mp ha with rfl | ha
    · exact ⟨_, hm⟩
    rcases List.mem_cons.mp ha with rfl | ha
    · exact ⟨_, hd.dict⟩
    · exact hF bs F1 hd.fo a ha
theorem FoAt.tracked {c : Ad} {H : Hp} : ∀ {fo : Fo} {as : List (Str × Addr)} {F : List Addr}, FoAt c H fo as F → ∀ b ∈ F, ∃ o, H b = some o
  | .nil, _, F, h, b, hb => by rw [h.2] at hb; cases hb
  | .cons x d ch rest, as, F, h, b, hb => by
    obtain ⟨e, as', F1, F2, e1, rfl, h1, h2⟩ := h
    rcases List.mem_append.mp hb with z | z
    · exact NodeAt.tracked (fun bs G hG => FoAt.tracked hG) h1 b z
    · exact FoAt.tracked h2 b z
theorem NodeAt.trk {c : Ad} {H : Hp} {e : Addr} {d : Dat} {ch : Fo} {F : List Addr} (h : NodeAt c H e d ch F) : ∀ b ∈ F, ∃ o, H b = some o := NodeAt.tracked (fun bs G hG => FoAt.tracked hG) h
section
variable {P : Program} {w : World} {K : PySem.W.Frag} {mg : Str → Option Value} {base : Heap} {c : Ad}
/-! ### the plain properties -/
def spFld (C : Addr) (f : Str) : Sp := fun vs H Q _ => ∃ a dx fs v, vs = [.ref a] ∧ H a = some (.ins C dx fs) ∧ fs.lookup f = some v ∧ Q v H
theorem sc_mode : FnScope ["self"] ["self"] (defScope s_Entry_mode) := ⟨rfl, rfl, rfl, by decide +kernel, rfl, by decide +kernel, by decide +kernel⟩
theorem sc_owner : FnScope ["self"] ["self"] (defScope s_Entry_owner) := ⟨rfl, rfl, rfl, by decide +kernel, rfl, by decide +kernel, by decide +kernel⟩
theorem sc_group : FnScope ["self"] ["self"] (defScope s_Entry_group) := ⟨rfl, rfl, rfl, by decide +kernel, rfl, by decide +kernel, by decide +kernel⟩
theorem sc_form : FnScope ["self"] ["self"] (defScope s_Entry_form) := ⟨rfl, rfl, rfl, by decide +kernel, rfl, by decide +kernel, by decide +kernel⟩
theorem pg_mode {C : Addr} (O : OwnC K C) (n : NoAttr K C "mode_now") (D : Pn K C "mode" "Entry.mode" s_Entry_mode) : Pg P w K mg base 1 C "mode" (spFld C "mode_now") := by
  refine pg_ok O D sc_mode rfl (fun _ _ _ _ _ _ us hl => match us, hl with | [_], _ => rfl) (fun vs H Q E h => ?_) (fun f cdv A outer s H vs Q E hr h => ?_)
  · obtain ⟨a, dx, fs, v, rfl, _⟩ := h
    rfl
  · obtain ⟨a, dx, fs, v, rfl, e, l, q⟩ := h
    exact ⟨_, gfld (gvar 0) rfl, _, rfl, a, C, dx, fs, v, rfl, e, O.cls, n, l, q⟩
theorem pg_owner {C : Addr} (O : OwnC K C) (n : NoAttr K C "own_owner") (D : Pn K C "owner" "Entry.owner" s_Entry_owner) : Pg P w K mg base 1 C "owner" (spFld C "own_owner") := by
  refine pg_ok O D sc_owner rfl (fun _ _ _ _ _ _ us hl => match us, hl with | [_], _ => rfl) (fun vs H Q E h => ?_) (fun f cdv A outer s H vs Q E hr h => ?_)
  · obtain ⟨a, dx, fs, v, rfl, _⟩ := h
    rfl
  · obtain ⟨a, dx, fs, v, rfl, e, l, q⟩ := h
    exact ⟨_, gfld (gvar 0) rfl, _, rfl, a, C, dx, fs, v, rfl, e, O.cls, n, l, q⟩
theorem pg_group {C : Addr} (O : OwnC K C) (n : NoAttr K C "own_group") (D : Pn K C "group" "Entry.group" s_Entry_group) : Pg P w K mg base 1 C "group" (spFld C "own_group") := by
  refine pg_ok O D sc_group rfl (fun _ _ _ _ _ _ us hl => match us, hl with | [_], _ => rfl) (fun vs H Q E h => ?_) (fun f cdv A outer s H vs Q E hr h => ?_)
  · obtain ⟨a, dx, fs, v, rfl, _⟩ := h
    rfl
  · obtain ⟨a, dx, fs, v, rfl, e, l, q⟩ := h
    exact ⟨_, gfld (gvar 0) rfl, _, rfl, a, C, dx, fs, v, rfl, e, O.cls, n, l, q⟩
def formOf (d : Dat) : Str := if d.dir then "folder" else "file"
def spForm (c : Ad) : Sp := fun vs H Q _ => ∃ e d ch F, vs = [.ref e] ∧ NodeAt c H e d ch F ∧ Q (.str (formOf d)) H
theorem pg_form (B : Bt mg) (Z : Cs K mg c) {C : Addr} (O : OwnC K C) (D : Pn K C "form" "Entry.form" s_Entry_form) : Pg P w K mg base 1 C "form" (spForm c) := by
  refine pg_ok O D sc_form rfl (fun _ _ _ _ _ _ us hl => match us, hl with | [_], _ => rfl) (fun vs H Q E h => ?_) (fun f cdv A outer s H vs Q E hr h => ?_)
  · obtain ⟨e, d, ch, F, rfl, _⟩ := h
    rfl
  · obtain ⟨e, d, ch, F, rfl, hn, q⟩ := h
    obtain ⟨t, ht, hk, _⟩ := hn.hold Z
    refine ⟨_, gifExp (gtval (gisi rfl B.isi boot_isinstance (gcons (gvar 0) (gcons (gglob (v := .ref c.Ho) rfl Z.gHo rfl) gnil)))) gstr gstr, ?_⟩
    refine ⟨_, rfl, .ref e, .ref c.Ho, t, .ref c.Ho, d.dir, rfl, .own _, ht, hk, d.dir, rfl, ?_⟩
    unfold formOf at q
    cases hd : d.dir with
    | true => rw [hd] at q; exact q
    | false => rw [hd] at q; exact q
/-- the properties of an entry -/
structure Pp (P : Program) (w : World) (K : PySem.W.Frag) (mg : Str → Option Value) (base : Heap) (c : Ad) (C : Addr) : Prop where
  mode : Pg P w K mg base 1 C "mode" (spFld C "mode_now")
  owner : Pg P w K mg base 1 C "owner" (spFld C "own_owner")
  group : Pg P w K mg base 1 C "group" (spFld C "own_group")
  form : Pg P w K mg base 1 C "form" (spForm c)
/-! ### copied -/
def spCopy (c : Ad) (k : Nat) : Sp := fun vs H Q _ => ∃ e d ch F, vs = [.ref e] ∧ NodeAt c H e d ch F ∧ DatOk d ∧ ch.Wf ∧ ch.depth ≤ k ∧ ch.size < 64 ∧
  ∀ e' F' H', Grow H H' → NodeAt c H' e' d ch F' → F'.Nodup → (∀ b ∈ F', H b = none) → Q (.ref e') H'
theorem sc_copied : FnScope ["entry", "made", "name"] ["entry"] (defScope s_copied) := ⟨rfl, rfl, rfl, by decide +kernel, rfl, by decide +kernel, by decide +kernel⟩
theorem kp_own {H H' : Hp} {x dx : Addr} {o : HO} (hx : H x = none) (hd : H dx = none) (k : Kp [x] (upd (upd H dx (.own x)) x o) H') : Grow H H' := fun a u z => by
  have nx := ne_of_none z hx
  exact k a u (by rw [upd_ne nx, upd_ne (ne_of_none z hd)]; exact z) (by simpa using nx)
theorem none_of {H : Hp} {x dx m : Addr} {o : HO} (h : upd (upd H dx (.own x)) x o m = none) (nm : m ≠ x) : H m = none := by
  rw [upd_ne nm] at h
  by_cases e : m = dx
  · rw [e, upd_same] at h; cases h
  · rw [upd_ne e] at h; exact h
theorem copy_step (B : Bt mg) (Z : Cs K mg c) (nm : Me P w K mg base CX0 1 c.D "names" (spNames c)) (gi : Du P w K mg base CX0 2 c.D "__getitem__" (spGet c)) (pF : Pp P w K mg base c c.F) (pD : Pp P w K mg base c c.D) (mf : Ma P w K mg base CX0 9 "File" c.F (spEInit c c.F preF)) (md : Mr P w K mg base CX0 13 "Folder" c.D (spEInit c c.D preD)) (D : Dn K mg "copied" s_copied) {k : Nat}
    (rec_ : Ca P w K mg base CX0 (15 + k) "copied" (fun vs H Q E => ∃ j, j + 1 ≤ k ∧ spCopy c j vs H Q E)) : Ca P w K mg base CX0 (15 + (k + 1)) "copied" (spCopy c k) := by
  refine ca_ok (k := 15 + k) D sc_copied (fun _ _ _ _ _ _ us hl => match us, hl with | [_], _ => rfl) (fun vs H Q E h => ?_) (fun f cdv A outer s H vs Q E hr h => ?_)
  · obtain ⟨e, d, ch, F, rfl, _⟩ := h
    rfl
  · obtain ⟨e, d, ch, F, rfl, hn, hdo, hw, hdp, hsz, q⟩ := h
    refine ⟨_, pss_cons (ps_if (pt_not (pt_val (pe_callB call_isi rfl B.isi boot_isinstance (pa_cons (pv 0) (pa_cons (pe_glob (v := .ref c.Ho) rfl Z.gHo rfl) pa_nil))))) (pss_one (ps_ret (pe_ma mf hr (by omega) pass0 rfl (pa_cons (pe_pr pF.mode.pr hr (by omega) (pv 0) rfl) (pa_cons (pe_pr pF.owner.pr hr (by omega) (pv 0) rfl) (pa_cons (pe_pr pF.group.pr hr (by omega) (pv 0) rfl) pa_nil)))))) pss_nil)
      (pss_cons (ps_set (i := 1) sc_copied.nd rfl (.inl rfl) (pe_mr md hr (by omega) pass0 rfl (pa_cons (pe_pr pD.mode.pr hr (by omega) (pv 0) rfl) (pa_cons (pe_pr pD.owner.pr hr (by omega) (pv 0) rfl) (pa_cons (pe_pr pD.group.pr hr (by omega) (pv 0) rfl) pa_nil)))))
      (pss_cons (ps_for PassesOwn.never rfl (pi_list (pe_me0 nm hr (by omega) pass0 (pv 0))) (pg_name (i := 2) sc_copied.nd rfl (.inl rfl)) (pss_one (ps_dput (hu_of hr) (pe_fld (pv 1) rfl) (pv 2) (pe_ca rec_ hr (Nat.le_refl _) pass0 rfl (pa_cons (pe_subO gi hr (by omega) pass0 (pv 0) (pv 2)) pa_nil)) rfl)))
      (pss_one (ps_ret (pv 1))))), ?_⟩
    obtain ⟨t, ht, hk, _⟩ := hn.hold Z
    refine ⟨_, rfl, .ref e, .ref c.Ho, t, .ref c.Ho, d.dir, rfl, .own _, ht, hk, d.dir, rfl, ?_⟩
    rcases hn.cases with ⟨hd, hc, dx, m, hm, he, eF⟩ | ⟨hd, dx, m, b, kvs, bs, F1, hD, eF⟩
    · rw [hd]
      refine iteT ?_
      subst hc
      refine ⟨_, rfl, e, dx, _, rfl, he, e, dx, _, .ref m, rfl, he, rfl, _, rfl, e, dx, _, rfl, he, e, dx, _, .str d.own, rfl, he, rfl, _, rfl, e, dx, _, rfl, he, e, dx, _, .str d.grp, rfl, he, rfl, ?_⟩
      intro x dx' hx hdx hne
      have hmx : m ≠ x := by obtain ⟨_, dm, z⟩ := hm; exact ne_of_none z hx
      refine ⟨x, dx', .ref m, d.mode, d.own, d.grp, rfl, upd_same, ⟨hdo.1, .inl ⟨m, rfl, hm.same fun o z => ?_⟩⟩, hdo.2.1, hdo.2.2, fun m' z => by injection z with z; rw [← z]; exact hmx, ?_⟩
      · rw [upd_ne hmx, upd_ne (ne_of_none z hdx)]; exact z
      · intro H' m' fs k1 k2 k3 k4 k5 k6
        have k2 : fs = [] := k2
        subst k2
        refine ⟨rfl, q x [x, m'] H' (kp_own hx hdx k1) ⟨dx', m', k5, .inl ⟨hd, k6, rfl, rfl, rfl⟩⟩ (by simpa using Ne.symm k3) fun a ha => ?_⟩
        simp at ha
        rcases ha with rfl | rfl
        · exact hx
        · exact none_of k4 k3
    · rw [hd]
      refine iteF ?_
      refine ⟨_, rfl, e, dx, _, rfl, hD.obj, e, dx, _, .ref m, rfl, hD.obj, rfl, _, rfl, e, dx, _, rfl, hD.obj, e, dx, _, .str d.own, rfl, hD.obj, rfl, _, rfl, e, dx, _, rfl, hD.obj, e, dx, _, .str d.grp, rfl, hD.obj, rfl, ?_⟩
      intro x dx' hx hdx hne
      have hmx : m ≠ x := by obtain ⟨_, dm, z⟩ := hD.mo; exact ne_of_none z hx
      refine ⟨x, dx', .ref m, d.mode, d.own, d.grp, rfl, upd_same, ⟨hdo.1, .inl ⟨m, rfl, hD.mo.same fun o z => ?_⟩⟩, hdo.2.1, hdo.2.2, fun m' z => by injection z with z; rw [← z]; exact hmx, ?_⟩
      · rw [upd_ne hmx, upd_ne (ne_of_none z hdx)]; exact z
      · intro H' m' fs k1 k2 k3 k4 k5 k6
        obtain ⟨b', rfl, hb0, hb1⟩ := k2
        refine ⟨rfl, ?_⟩
        have g0 := kp_own hx hdx k1
        have nbx : b' ≠ x := fun z => by rw [z, upd_same] at hb0; cases hb0
        have hbH := none_of hb0 nbx
        have hmH := none_of k4 k3
        have nbm : b' ≠ m' := fun z => by obtain ⟨_, dm, y⟩ := k5; rw [z, y] at hb1; cases hb1
        have hD' := hD.keep (H' := H') fun a _ o z => g0 a o z
        refine ⟨_, rfl, e, dx, _, rfl, hD'.obj, rfl, e, dx, b, _, kvs, ch.names, rfl, hD'.obj, hD'.dict, hD'.keys, hw.pw, Nat.lt_of_le_of_lt ch.names_le hsz, fun L H1 g1 hL eL => ⟨L, rfl, ⟨_, SqL.of eL⟩, ?_⟩⟩
        have g01 : Grow H H1 := fun a o z => g1 a o (g0 a o z)
        refine for_it (walk_list (K := K) (a := L) (xs := ch.names.map V.str)) (fun i σ' H2 => σ'.take 2 = [some (.ref e), some (.ref x)] ∧ 2 < σ'.length ∧ Grow H H2 ∧ H2 L = some (.lst (ch.names.map V.str)) ∧ H2 x = some (.ins c.D dx' (fB b' ++ fE m' d.own d.grp)) ∧ MoAt c H2 m' d.mode ∧
          ∃ bs' Fi, KidsAt c H2 (ch.kids.take i) bs' Fi ∧ H2 b' = some (.dK (bs'.map kvOf)) ∧ Fi.Nodup ∧ (∀ a ∈ Fi, H a = none) ∧ x ∉ Fi ∧ m' ∉ Fi ∧ b' ∉ Fi)
          ⟨rfl, Nat.le_of_ble_eq_true rfl, g01, eL, g1 _ _ k6, k5.same (fun o z => g1 _ _ z), [], [], ⟨rfl, rfl⟩, g1 _ _ hb1, List.nodup_nil, by simp, by simp, by simp, by simp⟩ (fun _ _ _ _ z => SqL.of z.2.2.2.1) ?_ ?_
        · rintro i y σ' H2 H3 hi ⟨t2, l2, gg, l1, ex, mo, bs', Fi, kd, eb, nd, fr, nx, nm', nb⟩ ⟨rfl, hy⟩
          have hi' : i < ch.kids.length := by rw [List.length_map, Fo.names_kids, List.length_map] at hi; exact hi
          obtain ⟨n', d', ch', hk⟩ : ∃ n' d' ch', ch.kids[i]? = some (n', d', ch') := ⟨_, _, _, List.getElem?_eq_getElem hi'⟩
          have hyn : y = .str n' := by
            rw [List.getElem?_map, Fo.names_kids, List.getElem?_map, hk] at hy
            exact (Option.some.inj hy).symm
          subst hyn
          obtain ⟨e', G, hbb, hne', hG⟩ := hD.fo.kid hk
          obtain ⟨w1, w2, w3, w4, w5, w6⟩ := Fo.kid_wf hw _ (List.mem_of_getElem? hk)
          have s0 : (σ'.set 2 (some (V.str n')))[0]? = some (some (.ref e)) := by
            rw [List.getElem?_set_ne (by decide)]
            have := congrArg (·[0]?) t2; simpa using this
          have s1 : (σ'.set 2 (some (V.str n')))[1]? = some (some (.ref x)) := by
            rw [List.getElem?_set_ne (by decide)]
            have := congrArg (·[1]?) t2; simpa using this
          have s2 : (σ'.set 2 (some (V.str n')))[2]? = some (some (.str n')) := List.getElem?_set_self l2
          refine ⟨_, s0, _, s2, e, dx, _, rfl, gg _ _ hD.obj, e, dx, b, _, kvs, n', .ref e', rfl, gg _ _ hD.obj, gg _ _ hD.dict, ?_, ?_⟩
          · rw [hD.get hw, lookup_of_nodup (hD.nd hw) hbb]; rfl
          refine ⟨ch'.depth, by dsimp only at w5; omega, e', d', ch', G, rfl, hne'.grow gg, w2, w4, Nat.le_refl _, by dsimp only at w6; omega, fun e2 F2 H4 g4 n2 nd2 fr2 => ?_⟩
          have fr2H : ∀ a ∈ F2, H a = none := fun a ha => by
            cases y : H a with
            | none => rfl
            | some o => have := gg a o y; rw [fr2 a ha] at this; cases this
          have trk2 : ∀ a o, H3 a = some o → a ∉ F2 := fun a o z ha => by rw [fr2 a ha] at z; cases z
          have eb4 := g4 _ _ eb
          have nb2 : b' ∉ F2 := trk2 _ _ eb
          have nx2 : x ∉ F2 := trk2 _ _ ex
          have nm2 : m' ∉ F2 := by obtain ⟨_, dm, z⟩ := mo; exact trk2 _ _ z
          have nL2 : L ≠ b' := ne_of (g4 _ _ l1) eb4 (by simp)
          have nbx2 : x ≠ b' := ne_of (g4 _ _ ex) eb4 (by simp)
          have nbm2 : m' ≠ b' := by obtain ⟨_, dm, z⟩ := mo; exact ne_of (g4 _ _ z) eb4 (by simp)
          have key : valV (bs'.map kvOf) (.inr n') = none := by
            rw [valV_kvOf]
            cases z : bs'.lookup n' with
            | none => rfl
            | some v =>
              have hm : n' ∈ bs'.map (·.1) := List.mem_map.mpr ⟨(n', v), PySem.mem_of_lookup z, rfl⟩
              rw [kd.names, List.map_take, ← Fo.names_kids] at hm
              have hnd := pw_nodup hw.pw
              have hin : ch.names[i]? = some n' := by rw [Fo.names_kids, List.getElem?_map, hk]; rfl
              obtain ⟨j, hj, ej⟩ := List.mem_iff_getElem.mp hm
              rw [List.length_take] at hj
              rw [List.getElem_take] at ej
              have hil : i < ch.names.length := (List.getElem?_eq_some_iff.mp hin).1
              have ei : ch.names[i] = n' := (List.getElem?_eq_some_iff.mp hin).2
              have : j = i := (List.getElem_inj hnd).mp (ej.trans ei.symm)
              omega
          have eput : putK (bs'.map kvOf) (.inr n') (.ref e2) = (bs' ++ [(n', e2)]).map kvOf := by
            unfold putK
            rw [if_neg (by rw [valV_any, key]; simp), List.map_append]; rfl
          refine ⟨_, s1, x, c.D, dx', _, .ref b', rfl, g4 _ _ ex, Z.oD.cls, Z.naD0, rfl, _, s2, b', _, rfl, .k (k := .inr n') eb4 ?_, ?_⟩
          · have h1 : bs'.length ≤ ch.size := by
              have h2 := congrArg List.length kd.names
              rw [List.length_map, List.length_map, List.length_take] at h2
              have h3 := ch.names_le
              rw [Fo.names_kids, List.length_map] at h3
              omega
            rw [List.length_map]
            exact Nat.lt_of_lt_of_le (Nat.lt_of_le_of_lt h1 hsz) (small_line (by decide))
          rw [eput]
          have gH4 : Grow H (upd H4 b' (.dK ((bs' ++ [(n', e2)]).map kvOf))) := fun a o z => by
            rw [upd_ne (ne_of_none z hbH)]; exact g4 a o (gg a o z)
          refine ⟨?_, by rw [List.length_set]; exact l2, gH4, ?_, ?_, mo.same (fun o z => ?_), bs' ++ [(n', e2)], Fi ++ F2, ?_, upd_same, ?_, ?_, ?_, ?_, ?_⟩
          · rw [List.take_set, t2]; rfl
          · rw [upd_ne nL2]; exact g4 _ _ l1
          · rw [upd_ne nbx2]; exact g4 _ _ ex
          · rw [upd_ne nbm2]; exact g4 _ _ z
          · rw [List.take_add_one, hk]
            refine KidsAt.snoc (n2.keep fun a ha o z => by rw [upd_ne (fun y => nb2 (by rw [← y]; exact ha))]; exact z) (kd.keep fun a ha o z => ?_)
            rw [upd_ne (fun y => nb (by rw [← y]; exact ha))]
            exact g4 _ _ z
          · refine List.nodup_append.mpr ⟨nd, nd2, fun a ha a' ha' z => ?_⟩
            subst z
            have : ∃ o, H3 a = some o := by
              obtain ⟨bs3, hfo⟩ : ∃ l, KidsAt c H3 (ch.kids.take i) l Fi := ⟨_, kd⟩
              clear hfo bs3
              have : ∀ {l : List (Str × Dat × Fo)} {as : List (Str × Addr)} {F : List Addr}, KidsAt c H3 l as F → ∀ b ∈ F, ∃ o, H3 b = some o := by
                intro l
                induction l with
                | nil => intro as F h b hb; rw [h.2] at hb; cases hb
                | cons k ks ih =>
                  intro as F h b hb
                  obtain ⟨e', as', F1, F2, _, rfl, h1, h3⟩ := h
                  rcases List.mem_append.mp hb with z | z
                  · exact h1.trk b z
                  · exact ih h3 b z
              exact this kd a ha
            obtain ⟨o, z⟩ := this
            exact trk2 a o z ha'
          · intro a ha
            rcases List.mem_append.mp ha with z | z
            · exact fr a z
            · exact fr2H a z
          · simp [nx, nx2]
          · simp [nm', nm2]
          · simp [nb, nb2]
        · rintro σ' H2 ⟨t2, l2, gg, l1, ex, mo, bs', Fi, kd, eb, nd, fr, nx, nm', nb⟩
          have hl : (ch.names.map V.str).length = ch.kids.length := by rw [List.length_map, Fo.names_kids, List.length_map]
          rw [hl, List.take_length] at kd
          have s1 : σ'[1]? = some (some (.ref x)) := by
            have := congrArg (·[1]?) t2; simpa using this
          refine ⟨_, s1, ?_⟩
          refine q x (x :: m' :: b' :: Fi) H2 gg ⟨dx', m', mo, .inr ⟨hd, b', _, bs', Fi, ex, eb, List.Perm.refl _, foAt_kids.mpr kd, rfl⟩⟩ ?_ fun a ha => ?_
          · simp [nx, nm', nb, nd, Ne.symm k3, Ne.symm nbx, Ne.symm nbm]
          · simp at ha
            rcases ha with rfl | rfl | rfl | ha
            · exact hx
            · exact hmH
            · exact hbH
            · exact fr a ha
end
end K18
namespace K18
open PySem PySem.Spec PyProof.Rows L2
abbrev Nd := Dat × Fo
namespace Fo
def getN (x : Str) : Fo → Option Nd
  | .nil => none
  | .cons n d ch rest => if n = x then some (d, ch) else rest.getN x
def setN (x : Str) (k : Nd) : Fo → Fo
  | .nil => .nil
  | .cons n d ch rest => if n = x then .cons n k.1 k.2 rest else .cons n d ch (rest.setN x k)
def putN (x : Str) (k : Nd) : Fo → Fo
  | .nil => .cons x k.1 k.2 .nil
  | .cons n d ch rest => if n = x then .cons n k.1 k.2 rest else if nlt x n then .cons x k.1 k.2 (.cons n d ch rest) else .cons n d ch (rest.putN x k)
def delN (x : Str) : Fo → Fo
  | .nil => .nil
  | .cons n d ch rest => if n = x then rest else .cons n d ch (rest.delN x)
theorem getN_none : ∀ {fo : Fo} {x : Str}, fo.getN x = none ↔ x ∉ fo.names
  | .nil, x => by simp [getN, names]
  | .cons n d ch rest, x => by
    by_cases h : n = x
    · simp [getN, names, h]
    · simp [getN, names, h, getN_none (fo := rest), Ne.symm h]
theorem names_set : ∀ (fo : Fo) (x : Str) (k : Nd), (fo.setN x k).names = fo.names
  | .nil, _, _ => rfl
  | .cons n d ch rest, x, k => by
    by_cases h : n = x
    · simp [setN, names, h]
    · simp [setN, names, h, names_set rest x k]
theorem mem_put : ∀ (fo : Fo) (x : Str) (k : Nd) (y : Str), y ∈ (fo.putN x k).names ↔ y = x ∨ y ∈ fo.names
  | .nil, x, k, y => by simp [putN, names]
  | .cons n d ch rest, x, k, y => by
    unfold putN
    by_cases h : n = x
    · simp [names, h]
    · rw [if_neg h]
      by_cases h2 : nlt x n
      · rw [if_pos h2]; simp [names]
      · rw [if_neg h2]
        simp only [names, List.mem_cons, mem_put rest x k y]
        constructor
        · rintro (z | z | z)
          · exact .inr (.inl z)
          · exact .inl z
          · exact .inr (.inr z)
        · rintro (z | z | z)
          · exact .inr (.inl z)
          · exact .inl z
          · exact .inr (.inr z)
theorem mem_del : ∀ {fo : Fo} (x y : Str), fo.Wf → (y ∈ (fo.delN x).names ↔ y ≠ x ∧ y ∈ fo.names)
  | .nil, x, y, _ => by simp [delN, names]
  | .cons n d ch rest, x, y, w => by
    unfold delN
    by_cases h : n = x
    · rw [if_pos h]
      subst h
      simp only [names, List.mem_cons]
      constructor
      · intro z
        exact ⟨fun e => nlt_irrefl y (by have := w.2.2.2.2.2 y z; rw [← e] at this; exact this), .inr z⟩
      · rintro ⟨z1, z | z⟩
        · exact absurd z z1
        · exact z
    · rw [if_neg h]
      simp only [names, List.mem_cons, mem_del (fo := rest) x y w.2.2.2.2.1]
      constructor
      · rintro (z | ⟨z1, z2⟩)
        · exact ⟨by rw [z]; exact h, .inl z⟩
        · exact ⟨z1, .inr z2⟩
      · rintro ⟨z1, z | z⟩
        · exact .inl z
        · exact .inr ⟨z1, z⟩
/-- a node that may stand in a forest -/
def NdOk (k : Nd) : Prop := DatOk k.1 ∧ (k.1.dir = false → k.2 = .nil) ∧ k.2.Wf
theorem get_ok : ∀ {fo : Fo} {x : Str} {k : Nd}, fo.Wf → fo.getN x = some k → NdOk k ∧ k.2.depth + 1 ≤ fo.depth ∧ k.2.size + 1 ≤ fo.size ∧ NmOk x
  | .nil, x, k, _, h => by simp [getN] at h
  | .cons n d ch rest, x, k, w, h => by
    unfold getN at h
    by_cases e : n = x
    · rw [if_pos e] at h
      cases h
      refine ⟨⟨w.2.1, w.2.2.1, w.2.2.2.1⟩, ?_, ?_, by rw [← e]; exact w.1⟩
      · show ch.depth + 1 ≤ max (1 + ch.depth) rest.depth
        have := Nat.le_max_left (1 + ch.depth) rest.depth
        omega
      · show ch.size + 1 ≤ 1 + ch.size + rest.size
        omega
    · rw [if_neg e] at h
      obtain ⟨h1, h2, h3, h4⟩ := get_ok w.2.2.2.2.1 h
      refine ⟨h1, Nat.le_trans h2 (Nat.le_max_right _ _), ?_, h4⟩
      show k.2.size + 1 ≤ 1 + ch.size + rest.size
      omega
theorem set_wf : ∀ {fo : Fo} {x : Str} {k : Nd}, fo.Wf → NdOk k → (fo.setN x k).Wf
  | .nil, x, k, _, _ => trivial
  | .cons n d ch rest, x, k, w, hk => by
    unfold setN
    by_cases e : n = x
    · rw [if_pos e]
      exact ⟨w.1, hk.1, hk.2.1, hk.2.2, w.2.2.2.2.1, w.2.2.2.2.2⟩
    · rw [if_neg e]
      exact ⟨w.1, w.2.1, w.2.2.1, w.2.2.2.1, set_wf w.2.2.2.2.1 hk, by rw [names_set]; exact w.2.2.2.2.2⟩
theorem put_wf : ∀ {fo : Fo} {x : Str} {k : Nd}, fo.Wf → NmOk x → NdOk k → (fo.putN x k).Wf
  | .nil, x, k, _, hx, hk => ⟨hx, hk.1, hk.2.1, hk.2.2, trivial, by simp [names]⟩
  | .cons n d ch rest, x, k, w, hx, hk => by
    unfold putN
    by_cases e : n = x
    · rw [if_pos e]
      exact ⟨w.1, hk.1, hk.2.1, hk.2.2, w.2.2.2.2.1, w.2.2.2.2.2⟩
    · rw [if_neg e]
      by_cases h : nlt x n
      · rw [if_pos h]
        refine ⟨hx, hk.1, hk.2.1, hk.2.2, w, fun m hm => ?_⟩
        rcases List.mem_cons.mp hm with z | z
        · rw [z]; exact h
        · exact nlt_trans h (w.2.2.2.2.2 m z)
      · rw [if_neg h]
        refine ⟨w.1, w.2.1, w.2.2.1, w.2.2.2.1, put_wf w.2.2.2.2.1 hx hk, fun m hm => ?_⟩
        rcases (mem_put rest x k m).mp hm with z | z
        · rw [z]
          rcases nlt_tri e with y | y
          · exact y
          · exact absurd y h
        · exact w.2.2.2.2.2 m z
theorem del_wf : ∀ {fo : Fo} {x : Str}, fo.Wf → (fo.delN x).Wf
  | .nil, x, _ => trivial
  | .cons n d ch rest, x, w => by
    unfold delN
    by_cases e : n = x
    · rw [if_pos e]; exact w.2.2.2.2.1
    · rw [if_neg e]
      exact ⟨w.1, w.2.1, w.2.2.1, w.2.2.2.1, del_wf w.2.2.2.2.1, fun m hm => w.2.2.2.2.2 m ((mem_del x m w.2.2.2.2.1).mp hm).2⟩
end Fo
/-- the node at a path -/
def findP : Nd → List Str → Option Nd
  | k, [] => some k
  | k, x :: q => match k.2.getN x with
    | some k' => findP k' q
    | none => none
/-- .. replaced -/
def setP (k2 : Nd) : Nd → List Str → Nd
  | _, [] => k2
  | k, x :: q => match k.2.getN x with
    | some k' => (k.1, k.2.setN x (setP k2 k' q))
    | none => k
open Fo in
theorem find_ok : ∀ {k : Nd} {q : List Str} {k' : Nd}, NdOk k → findP k q = some k' → NdOk k' ∧ k'.2.depth ≤ k.2.depth ∧ k'.2.size ≤ k.2.size
  | k, [], k', h, e => by cases e; exact ⟨h, Nat.le_refl _, Nat.le_refl _⟩
  | k, x :: q, k', h, e => by
    unfold findP at e
    cases z : k.2.getN x with
    | none => rw [z] at e; cases e
    | some k1 =>
      rw [z] at e
      obtain ⟨h1, h2, h3, _⟩ := get_ok h.2.2 z
      obtain ⟨a1, a2, a3⟩ := find_ok h1 e
      exact ⟨a1, by omega, by omega⟩
open Fo in
theorem set_ok {k2 : Nd} (h2 : NdOk k2) : ∀ {k : Nd} {q : List Str}, NdOk k → (∀ k', findP k q = some k' → q = [] ∨ True) → NdOk (setP k2 k q)
  | k, [], _, _ => h2
  | k, x :: q, h, _ => by
    unfold setP
    cases z : k.2.getN x with
    | none => exact h
    | some k1 =>
      obtain ⟨h1, _⟩ := get_ok h.2.2 z
      refine ⟨h.1, fun hd => ?_, set_wf h.2.2 (set_ok h2 h1 fun _ _ => .inr trivial)⟩
      have := h.2.1 hd
      rw [this] at z
      simp [getN] at z
theorem findP_append : ∀ {k : Nd} {q r : List Str}, findP k (q ++ r) = (findP k q).bind fun k' => findP k' r
  | k, [], r => rfl
  | k, x :: q, r => by
    show (match k.2.getN x with | some k' => findP k' (q ++ r) | none => none) = (match k.2.getN x with | some k' => findP k' q | none => none).bind fun k' => findP k' r
    cases z : k.2.getN x with
    | none => rfl
    | some k1 => exact findP_append
theorem setP_append {k2 : Nd} : ∀ {k : Nd} {q r : List Str} {k' : Nd}, findP k q = some k' → setP k2 k (q ++ r) = setP (setP k2 k' r) k q
  | k, [], r, k', e => by cases e; rfl
  | k, x :: q, r, k', e => by
    show (match k.2.getN x with | some k' => (k.1, k.2.setN x (setP k2 k' (q ++ r))) | none => k) = (match k.2.getN x with | some k1 => (k.1, k.2.setN x (setP (setP k2 k' r) k1 q)) | none => k)
    have e : (match k.2.getN x with | some k' => findP k' q | none => none) = some k' := e
    cases z : k.2.getN x with
    | none => rfl
    | some k1 =>
      rw [z] at e
      show (k.1, k.2.setN x (setP k2 k1 (q ++ r))) = (k.1, k.2.setN x (setP (setP k2 k' r) k1 q))
      rw [setP_append e]
/-! ### the heap's side -/
theorem FoAt.get {c : Ad} {H : Hp} : ∀ {fo : Fo} {as : List (Str × Addr)} {F : List Addr} {x : Str} {k : Nd}, FoAt c H fo as F → F.Nodup → fo.getN x = some k → ∃ e G, as.lookup x = some e ∧ NodeAt c H e k.1 k.2 G ∧ G.Nodup ∧ (∀ b ∈ G, b ∈ F) ∧
    ∀ (H' : Hp) (k2 : Nd) (G2 : List Addr), NodeAt c H' e k2.1 k2.2 G2 → G2.Nodup → (∀ b ∈ F, b ∉ G → ∀ o, H b = some o → H' b = some o) → (∀ b ∈ G2, b ∈ F → b ∈ G) → ∃ F', FoAt c H' (fo.setN x k2) as F' ∧ F'.Nodup ∧ ∀ b ∈ F', (b ∈ F ∧ b ∉ G) ∨ b ∈ G2
  | .nil, _, _, _, _, _, _, h => by simp [Fo.getN] at h
  | .cons n d ch rest, as, F, x, k, h, nd, hg => by
    obtain ⟨e, as', F1, F2, rfl, rfl, h1, h2⟩ := h
    obtain ⟨nd1, nd2, ndd⟩ := List.nodup_append.mp nd
    unfold Fo.getN at hg
    by_cases hn : n = x
    · rw [if_pos hn] at hg
      cases hg
      refine ⟨e, F1, by rw [List.lookup_cons]; simp [hn], h1, nd1, fun b hb => List.mem_append_left _ hb, fun H' k2 G2 a1 a2 a3 a4 => ⟨G2 ++ F2, ?_, ?_, ?_⟩⟩
      · unfold Fo.setN
        rw [if_pos hn]
        exact ⟨e, as', G2, F2, rfl, rfl, a1, h2.keep fun b hb => a3 b (List.mem_append_right _ hb) fun z => ndd b z b hb rfl⟩
      · refine List.nodup_append.mpr ⟨a2, nd2, fun a ha b hb z => ?_⟩
        subst z
        exact ndd a (a4 a ha (List.mem_append_right _ hb)) a hb rfl
      · intro b hb
        rcases List.mem_append.mp hb with z | z
        · exact .inr z
        · exact .inl ⟨List.mem_append_right _ z, fun y => ndd b y b z rfl⟩
    · rw [if_neg hn] at hg
      obtain ⟨e', G, b1, b2, b3, b4, b5⟩ := FoAt.get h2 nd2 hg
      refine ⟨e', G, by rw [List.lookup_cons, show (x == n) = false from by simpa using Ne.symm hn]; exact b1, b2, b3, fun b hb => List.mem_append_right _ (b4 b hb), fun H' k2 G2 a1 a2 a3 a4 => ?_⟩
      obtain ⟨F', c1, c2, c3⟩ := b5 H' k2 G2 a1 a2 (fun b hb => a3 b (List.mem_append_right _ hb)) fun b hb hb' => a4 b hb (List.mem_append_right _ hb')
      refine ⟨F1 ++ F', ?_, ?_, ?_⟩
      · unfold Fo.setN
        rw [if_neg hn]
        exact ⟨e, as', F1, F', rfl, rfl, NodeAt.keep h1 (fun b hb => a3 b (List.mem_append_left _ hb) fun z => ndd b hb b (b4 b z) rfl), c1⟩
      · refine List.nodup_append.mpr ⟨nd1, c2, fun a ha b hb z => ?_⟩
        subst z
        rcases c3 a hb with ⟨y, _⟩ | y
        · exact ndd a ha a y rfl
        · exact ndd a ha a (b4 a (a4 a y (List.mem_append_left _ ha))) rfl
      · intro b hb
        rcases List.mem_append.mp hb with z | z
        · exact .inl ⟨List.mem_append_left _ z, fun y => ndd b z b (b4 b y) rfl⟩
        · rcases c3 b z with ⟨y1, y2⟩ | y
          · exact .inl ⟨List.mem_append_right _ y1, y2⟩
          · exact .inr y
end K18
namespace K18
open PySem PySem.Spec PyProof.Rows L2
/-- the entry e' stands at the path q below e -/
structure SubAt (c : Ad) (H : Hp) (k : Nd) (e : Addr) (F : List Addr) (q : List Str) (e' : Addr) (k' : Nd) (G : List Addr) : Prop where
  find : findP k q = some k'
  node : NodeAt c H e' k'.1 k'.2 G
  nd : G.Nodup
  sub : ∀ b ∈ G, b ∈ F
  repl : ∀ (H' : Hp) (k2 : Nd) (G2 : List Addr), NodeAt c H' e' k2.1 k2.2 G2 → G2.Nodup → (∀ b ∈ F, b ∉ G → ∀ o, H b = some o → H' b = some o) → (∀ b ∈ G2, b ∈ F → b ∈ G) →
    ∃ F', NodeAt c H' e (setP k2 k q).1 (setP k2 k q).2 F' ∧ F'.Nodup ∧ ∀ b ∈ F', (b ∈ F ∧ b ∉ G) ∨ b ∈ G2
  top : q = [] → e' = e
theorem SubAt.root {c : Ad} {H : Hp} {k : Nd} {e : Addr} {F : List Addr} (h : NodeAt c H e k.1 k.2 F) (nd : F.Nodup) : SubAt c H k e F [] e k F :=
  ⟨rfl, h, nd, fun _ z => z, fun H' k2 G2 a1 a2 a3 a4 => ⟨G2, a1, a2, fun b hb => .inr hb⟩, fun _ => rfl⟩
theorem SubAt.step {c : Ad} {H : Hp} {k k' k'' : Nd} {e e' : Addr} {F G : List Addr} {q : List Str} {x : Str} {dx m b : Addr} {kvs : List (Key × V)} {bs : List (Str × Addr)} {F1 : List Addr} (h : SubAt c H k e F q e' k' G) (hd : k'.1.dir = true) (D : DirAt c H e' k'.1 k'.2 dx m b kvs bs F1) (eG : G = e' :: m :: b :: F1) (hg : k'.2.getN x = some k'') :
    ∃ e'' G'', bs.lookup x = some e'' ∧ SubAt c H k e F (q ++ [x]) e'' k'' G'' := by
  have nd := h.nd
  rw [eG] at nd
  have nd1 : F1.Nodup := (List.nodup_cons.mp (List.nodup_cons.mp (List.nodup_cons.mp nd).2).2).2
  obtain ⟨e'', G'', b1, b2, b3, b4, b5⟩ := D.fo.get nd1 hg
  have subG : ∀ a ∈ G'', a ∈ G := fun a ha => by rw [eG]; simp [b4 a ha]
  refine ⟨e'', G'', b1, ?_, b2, b3, fun a ha => h.sub a (subG a ha), fun H' k2 G2 a1 a2 a3 a4 => ?_, fun z => (by simp at z)⟩
  · rw [findP_append, h.find]
    show findP k' [x] = some k''
    unfold findP
    rw [hg]
    rfl
  have ne1 : e' ∉ F1 ∧ m ∉ F1 ∧ b ∉ F1 := by
    obtain ⟨z1, z2⟩ := List.nodup_cons.mp nd
    obtain ⟨z3, z4⟩ := List.nodup_cons.mp z2
    obtain ⟨z5, z6⟩ := List.nodup_cons.mp z4
    exact ⟨fun y => z1 (by simp [y]), fun y => z3 (by simp [y]), z5⟩
  obtain ⟨F1', c1, c2, c3⟩ := b5 H' k2 G2 a1 a2 (fun a ha n => a3 a (h.sub a (by rw [eG]; simp [ha])) n) fun a ha ha' => a4 a ha (h.sub a (by rw [eG]; simp [ha']))
  have kept : ∀ a ∈ [e', m, b], ∀ o, H a = some o → H' a = some o := fun a ha => by
    refine a3 a (h.sub a (by rw [eG]; simp at ha ⊢; rcases ha with z | z | z <;> simp [z])) fun z => ?_
    simp at ha
    rcases ha with rfl | rfl | rfl
    · exact ne1.1 (b4 _ z)
    · exact ne1.2.1 (b4 _ z)
    · exact ne1.2.2 (b4 _ z)
  have D' : DirAt c H' e' k'.1 (k'.2.setN x k2) dx m b kvs bs F1' := ⟨D.mo.same (kept m (by simp)), kept e' (by simp) _ D.obj, kept b (by simp) _ D.dict, D.perm, c1⟩
  have notIn : ∀ a ∈ [e', m, b], a ∉ F1' := fun a ha z => by
    rcases c3 a z with ⟨y, _⟩ | y
    · simp at ha
      rcases ha with rfl | rfl | rfl
      · exact ne1.1 y
      · exact ne1.2.1 y
      · exact ne1.2.2 y
    · have : a ∈ G'' := a4 a y (h.sub a (by rw [eG]; simp at ha ⊢; rcases ha with z | z | z <;> simp [z]))
      simp at ha
      rcases ha with rfl | rfl | rfl
      · exact ne1.1 (b4 _ this)
      · exact ne1.2.1 (b4 _ this)
      · exact ne1.2.2 (b4 _ this)
  have nd' : (e' :: m :: b :: F1').Nodup := by
    obtain ⟨z1, z2⟩ := List.nodup_cons.mp nd
    obtain ⟨z3, z4⟩ := List.nodup_cons.mp z2
    refine List.nodup_cons.mpr ⟨fun y => ?_, List.nodup_cons.mpr ⟨fun y => ?_, List.nodup_cons.mpr ⟨notIn b (by simp), c2⟩⟩⟩
    · simp at y
      rcases y with y | y | y
      · exact z1 (by simp [y])
      · exact z1 (by simp [y])
      · exact notIn e' (by simp) y
    · simp at y
      rcases y with y | y
      · exact z3 (by simp [y])
      · exact notIn m (by simp) y
  obtain ⟨F', d1, d2, d3⟩ := h.repl H' (k'.1, k'.2.setN x k2) (e' :: m :: b :: F1') (D'.node hd) nd' (fun a ha n => a3 a ha fun z => n (subG a z)) fun a ha ha' => by
    rw [eG]
    simp at ha ⊢
    rcases ha with z | z | z | z
    · exact .inl z
    · exact .inr (.inl z)
    · exact .inr (.inr (.inl z))
    · rcases c3 a z with ⟨y, _⟩ | y
      · exact .inr (.inr (.inr y))
      · exact .inr (.inr (.inr (b4 a (a4 a y ha'))))
  refine ⟨F', ?_, d2, fun a ha => ?_⟩
  · rw [setP_append h.find]
    have : setP k2 k' [x] = (k'.1, k'.2.setN x k2) := by
      unfold setP
      rw [hg]
      rfl
    rw [this]
    exact d1
  · rcases d3 a ha with ⟨y, n⟩ | y
    · exact .inl ⟨y, fun z => n (subG a z)⟩
    · simp at y
      rcases y with z | z | z | z
      · exact .inl ⟨h.sub a (by rw [eG]; simp [z]), fun y => ne1.1 (by rw [← z]; exact b4 a y)⟩
      · exact .inl ⟨h.sub a (by rw [eG]; simp [z]), fun y => ne1.2.1 (by rw [← z]; exact b4 a y)⟩
      · exact .inl ⟨h.sub a (by rw [eG]; simp [z]), fun y => ne1.2.2 (by rw [← z]; exact b4 a y)⟩
      · rcases c3 a z with ⟨y, n⟩ | y
        · exact .inl ⟨h.sub a (by rw [eG]; simp [y]), n⟩
        · exact .inr y
/-! ### put, drop -/
def putAs (x : Str) (e2 : Addr) : List (Str × Addr) → List (Str × Addr)
  | [] => [(x, e2)]
  | (n, e) :: r => if n = x then (n, e2) :: r else if nlt x n then (x, e2) :: (n, e) :: r else (n, e) :: putAs x e2 r
theorem FoAt.put {c : Ad} {H : Hp} {x : Str} {k2 : Nd} {e2 : Addr} {G2 : List Addr} (h2 : NodeAt c H e2 k2.1 k2.2 G2) (nd2 : G2.Nodup) : ∀ {fo : Fo} {as : List (Str × Addr)} {F : List Addr}, FoAt c H fo as F → F.Nodup → (∀ b ∈ G2, b ∉ F) → ∃ F', FoAt c H (fo.putN x k2) (putAs x e2 as) F' ∧ F'.Nodup ∧ ∀ b ∈ F', b ∈ F ∨ b ∈ G2
  | .nil, _, _, h, _, _ => by
    obtain ⟨rfl, rfl⟩ := h
    exact ⟨G2 ++ [], ⟨e2, [], G2, [], rfl, rfl, h2, rfl, rfl⟩, by simpa using nd2, fun b hb => .inr (by simpa using hb)⟩
  | .cons n d ch rest, as, F, h, nd, dj => by
    obtain ⟨e, as', F1, F2, rfl, rfl, h1, h3⟩ := h
    obtain ⟨nd1, nd3, ndd⟩ := List.nodup_append.mp nd
    unfold Fo.putN putAs
    by_cases hn : n = x
    · rw [if_pos hn, if_pos hn]
      refine ⟨G2 ++ F2, ⟨e2, as', G2, F2, rfl, rfl, h2, h3⟩, List.nodup_append.mpr ⟨nd2, nd3, fun a ha b hb z => dj a ha (by rw [z]; exact List.mem_append_right _ hb)⟩, fun b hb => ?_⟩
      rcases List.mem_append.mp hb with z | z
      · exact .inr z
      · exact .inl (List.mem_append_right _ z)
    · rw [if_neg hn, if_neg hn]
      by_cases hl : nlt x n
      · rw [if_pos hl, if_pos hl]
        refine ⟨G2 ++ (F1 ++ F2), ⟨e2, (n, e) :: as', G2, F1 ++ F2, rfl, rfl, h2, e, as', F1, F2, rfl, rfl, h1, h3⟩, List.nodup_append.mpr ⟨nd2, nd, fun a ha b hb z => dj a ha (by rw [z]; exact hb)⟩, fun b hb => ?_⟩
        rcases List.mem_append.mp hb with z | z
        · exact .inr z
        · exact .inl z
      · rw [if_neg hl, if_neg hl]
        obtain ⟨F', a1, a2, a3⟩ := FoAt.put h2 nd2 h3 nd3 fun b hb z => dj b hb (List.mem_append_right _ z)
        refine ⟨F1 ++ F', ⟨e, putAs x e2 as', F1, F', rfl, rfl, h1, a1⟩, List.nodup_append.mpr ⟨nd1, a2, fun a ha b hb z => ?_⟩, fun b hb => ?_⟩
        · subst z
          rcases a3 a hb with y | y
          · exact ndd a ha a y rfl
          · exact dj a y (List.mem_append_left _ ha)
        · rcases List.mem_append.mp hb with z | z
          · exact .inl (List.mem_append_left _ z)
          · rcases a3 b z with y | y
            · exact .inl (List.mem_append_right _ y)
            · exact .inr y
theorem FoAt.del {c : Ad} {H : Hp} {x : Str} : ∀ {fo : Fo} {as : List (Str × Addr)} {F : List Addr}, FoAt c H fo as F → F.Nodup → fo.Wf → ∃ F', FoAt c H (fo.delN x) (as.filter fun p => decide (p.1 ≠ x)) F' ∧ F'.Nodup ∧ ∀ b ∈ F', b ∈ F
  | .nil, _, _, h, _, _ => by
    obtain ⟨rfl, rfl⟩ := h
    exact ⟨[], ⟨rfl, rfl⟩, List.nodup_nil, fun b hb => hb⟩
  | .cons n d ch rest, as, F, h, nd, w => by
    obtain ⟨e, as', F1, F2, rfl, rfl, h1, h3⟩ := h
    obtain ⟨nd1, nd3, ndd⟩ := List.nodup_append.mp nd
    unfold Fo.delN
    by_cases hn : n = x
    · rw [if_pos hn, List.filter_cons_of_neg (by simp [hn])]
      have : as'.filter (fun p => decide (p.1 ≠ x)) = as' := List.filter_eq_self.mpr fun p hp => by
        have hm : p.1 ∈ rest.names := by rw [← h3.names]; exact List.mem_map.mpr ⟨p, hp, rfl⟩
        have := w.2.2.2.2.2 p.1 hm
        simp only [decide_eq_true_eq]
        intro z
        rw [z, ← hn] at this
        exact nlt_irrefl _ this
      rw [this]
      exact ⟨F2, h3, nd3, fun b hb => List.mem_append_right _ hb⟩
    · rw [if_neg hn, List.filter_cons_of_pos (by simpa using hn)]
      obtain ⟨F', a1, a2, a3⟩ := FoAt.del (x := x) h3 nd3 w.2.2.2.2.1
      refine ⟨F1 ++ F', ⟨e, _, F1, F', rfl, rfl, h1, a1⟩, List.nodup_append.mpr ⟨nd1, a2, fun a ha b hb z => ndd a ha b (a3 b hb) z⟩, fun b hb => ?_⟩
      rcases List.mem_append.mp hb with z | z
      · exact List.mem_append_left _ z
      · exact List.mem_append_right _ (a3 b z)
theorem perm_drop {kvs : List (Key × V)} {as : List (Str × Addr)} (p : kvs.Perm (as.map kvOf)) (x : Str) : (dropK kvs (.inr x)).Perm ((as.filter fun p => decide (p.1 ≠ x)).map kvOf) := by
  have h := p.filter fun kv => decide (kv.1 ≠ Sum.inr x)
  rw [List.filter_map] at h
  refine h.trans (List.Perm.of_eq ?_)
  congr 1
  refine List.filter_congr fun q _ => ?_
  show decide ((Sum.inr q.1 : Key) ≠ Sum.inr x) = decide (q.1 ≠ x)
  exact decide_eq_decide.mpr ⟨fun h z => h (by rw [z]), fun h z => h (Sum.inr.inj z)⟩
theorem putAs_perm {x : Str} {e2 : Addr} : ∀ {as : List (Str × Addr)}, (as.map (·.1)).Pairwise nlt → (putK (as.map kvOf) (.inr x) (.ref e2)).Perm ((putAs x e2 as).map kvOf)
  | [], _ => by
    show List.Perm (putK [] _ _) _
    rw [show putK ([] : List (Key × V)) (.inr x) (.ref e2) = [(.inr x, .ref e2)] from rfl]
    exact List.Perm.refl _
  | (n, e) :: r, pw => by
    have pw' := List.pairwise_cons.mp pw
    unfold putAs
    by_cases hn : n = x
    · rw [if_pos hn]
      have hmap : (r.map kvOf).map (fun kv => if kv.1 = Sum.inr x then (kv.1, V.ref e2) else kv) = r.map kvOf := by
        rw [List.map_map]
        refine List.map_congr_left fun p hp => ?_
        have h1 := pw'.1 p.1 (List.mem_map.mpr ⟨p, hp, rfl⟩)
        have h2 : ¬ ((Sum.inr p.1 : Key) = Sum.inr x) := fun z => by
          have z := Sum.inr.inj z
          rw [z, ← hn] at h1
          exact nlt_irrefl _ h1
        show (if (Sum.inr p.1 : Key) = Sum.inr x then _ else _) = _
        rw [if_neg h2]
      unfold putK
      rw [List.map_cons, if_pos (by rw [List.any_cons]; simp [hn]), List.map_cons, hmap, List.map_cons]
      show List.Perm ((if (Sum.inr n : Key) = Sum.inr x then (Sum.inr n, V.ref e2) else (Sum.inr n, V.ref e)) :: _) _
      rw [if_pos (by rw [hn])]
    · rw [if_neg hn]
      have hne : ¬ ((Sum.inr n : Key) = Sum.inr x) := fun z => hn (Sum.inr.inj z)
      have step : putK (((n, e) :: r).map kvOf) (.inr x) (.ref e2) = kvOf (n, e) :: putK (r.map kvOf) (.inr x) (.ref e2) := by
        unfold putK
        rw [List.map_cons, List.any_cons]
        have : decide ((kvOf (n, e)).1 = (Sum.inr x : Key)) = false := decide_eq_false hne
        rw [this, Bool.false_or]
        by_cases ha : ((r.map kvOf).any fun kv => decide (kv.1 = (Sum.inr x : Key))) = true
        · rw [if_pos ha, if_pos ha, List.map_cons]
          show (if (kvOf (n, e)).1 = (Sum.inr x : Key) then _ else _) :: _ = _
          rw [if_neg hne]
        · rw [if_neg ha, if_neg ha]; rfl
      rw [step]
      by_cases hl : nlt x n
      · rw [if_pos hl]
        have hno : ¬ ((r.map kvOf).any fun kv => decide (kv.1 = (Sum.inr x : Key))) = true := by
          rw [List.any_eq_true]
          rintro ⟨kv, hkv, z⟩
          obtain ⟨p, hp, rfl⟩ := List.mem_map.mp hkv
          have z : p.1 = x := Sum.inr.inj (of_decide_eq_true z)
          have h1 := pw'.1 p.1 (List.mem_map.mpr ⟨p, hp, rfl⟩)
          rw [z] at h1
          exact nlt_irrefl _ (nlt_trans h1 hl)
        unfold putK
        rw [if_neg hno, List.map_cons, List.map_cons]
        exact (List.perm_append_singleton (kvOf (x, e2)) (kvOf (n, e) :: r.map kvOf) : List.Perm ((kvOf (n, e) :: r.map kvOf) ++ [kvOf (x, e2)]) _)
      · rw [if_neg hl, List.map_cons]
        exact List.Perm.cons _ (putAs_perm pw'.2)
theorem putK_perm {l l' : List (Key × V)} (p : l.Perm l') (k : Key) (v : V) : (putK l k v).Perm (putK l' k v) := by
  unfold putK
  have ha : (l.any fun kv => decide (kv.1 = k)) = (l'.any fun kv => decide (kv.1 = k)) := by
    rw [Bool.eq_iff_iff, List.any_eq_true, List.any_eq_true]
    exact ⟨fun ⟨x, h, z⟩ => ⟨x, p.mem_iff.mp h, z⟩, fun ⟨x, h, z⟩ => ⟨x, p.mem_iff.mpr h, z⟩⟩
  rw [ha]
  by_cases h : (l'.any fun kv => decide (kv.1 = k)) = true
  · rw [if_pos h, if_pos h]; exact p.map _
  · rw [if_neg h, if_neg h]; exact p.append_right _
end K18
namespace K18
open PySem PySem.Spec PyProof.Rows L2 NdefX StX
section
variable {P : Program} {w : World} {K : PySem.W.Frag} {mg : Str → Option Value} {base : Heap} {c : Ad}
theorem ca_copied (B : Bt mg) (Z : Cs K mg c) (nm : Me P w K mg base CX0 1 c.D "names" (spNames c)) (gi : Du P w K mg base CX0 2 c.D "__getitem__" (spGet c)) (pF : Pp P w K mg base c c.F) (pD : Pp P w K mg base c c.D) (mf : Ma P w K mg base CX0 9 "File" c.F (spEInit c c.F preF)) (md : Mr P w K mg base CX0 13 "Folder" c.D (spEInit c c.D preD)) (D : Dn K mg "copied" s_copied) : ∀ k, Ca P w K mg base CX0 (15 + (k + 1)) "copied" (spCopy c k)
  | 0 => copy_step B Z nm gi pF pD mf md D (by
      obtain ⟨f, fd, F, hm⟩ := D
      exact ⟨f, fd, ["entry"], ⟨fun vs H Q E h => absurd h (by rintro ⟨j, hj, _⟩; omega), fun A outer s H args us vs Q E _ _ _ _ h => absurd h (by rintro ⟨j, hj, _⟩; omega)⟩, hm, F.kp, F.binds (fun _ _ _ _ _ _ us hl => match us, hl with | [_], _ => rfl)⟩)
  | k + 1 => copy_step B Z nm gi pF pD mf md D (by
      obtain ⟨f, fd, ps, F, h2, h3, h4⟩ := (ca_copied B Z nm gi pF pD mf md D k).ex
      refine ⟨f, fd, ps, F.imp fun vs H Q E h => ?_, h2, h3, h4⟩
      obtain ⟨j, hj, e, d, ch, F', h1, h5, h6, h7, h8, h9⟩ := h
      exact ⟨e, d, ch, F', h1, h5, h6, h7, Nat.le_trans h8 (by omega), h9⟩)
/-! ### found_below -/
def spFound (K : PySem.W.Frag) (c : Ad) : Sp := fun vs H Q _ => ∃ (e t : Addr) (k : Nd) (F : List Addr) (q : List Str), vs = [.ref e, .ref t] ∧ NodeAt c H e k.1 k.2 F ∧ F.Nodup ∧ Fo.NdOk k ∧ (SqT K H t (q.map V.str) ∨ SqL K H t (q.map V.str)) ∧
  (findP k q = none → Q .non H) ∧ (∀ e' k' G, SubAt c H k e F q e' k' G → Q (.ref e') H)
theorem sc_found : FnScope ["entry", "names", "name"] ["entry", "names"] (defScope s_found_below) := ⟨rfl, rfl, rfl, by decide +kernel, rfl, by decide +kernel, by decide +kernel⟩
theorem ca_found (B : Bt mg) (Z : Cs K mg c) (hs : Du P w K mg base CX0 1 c.D "__contains__" (spHas c)) (gi : Du P w K mg base CX0 2 c.D "__getitem__" (spGet c)) (D : Dn K mg "found_below" s_found_below) : Ca P w K mg base CX0 4 "found_below" (spFound K c) := by
  refine ca_ok D sc_found (fun _ _ _ _ _ _ us hl => match us, hl with | [_, _], _ => rfl) (fun vs H Q E h => ?_) (fun f cdv A outer s H vs Q E hr h => ?_)
  · obtain ⟨e, t, k, F, q, rfl, _⟩ := h
    rfl
  · obtain ⟨e, t, k, F, q, rfl, hn, nd, hk, hq, qn, qs⟩ := h
    rcases hq with hq | hq
    · refine ⟨_, pss_cons (ps_for PassesOwn.never rfl (pi_tup (pv 1)) (pg_name (i := 2) sc_found.nd rfl (.inl rfl)) (pss_cons (ps_if (PW.pt (pw_or (pt_not (pt_val (pe_callB call_isi rfl B.isi boot_isinstance (pa_cons (pv 0) (pa_cons (pe_glob (v := .ref c.Ho) rfl Z.gHo rfl) pa_nil)))))
          (pw_or1 (pt_cmpR (op_ninO hs hr (by decide)) (pv 2) (pv 0) (by rfl))))) (pss_one (ps_ret pe_non)) pss_nil) (pss_one (ps_set (i := 0) sc_found.nd rfl (.inl rfl) (pe_subO gi hr (by decide) pass0 (pv 0) (pv 2)))))) (pss_one (ps_ret (pv 0))), ?_⟩
      refine ⟨_, rfl, t, rfl, ⟨_, hq⟩, ?_⟩
      refine for_it (walk_tup (K := K) (a := t) (xs := q.map V.str)) (fun i σ' H2 => H2 = H ∧ 2 < σ'.length ∧ σ'[1]? = some (some (.ref t)) ∧ ∃ e1 k1 G1, σ'[0]? = some (some (.ref e1)) ∧ SubAt c H k e F (q.take i) e1 k1 G1) ⟨rfl, Nat.le_of_ble_eq_true rfl, rfl, e, k, F, rfl, .root hn nd⟩ (fun i _ _ _ z => by rw [z.1]; exact hq) ?_ ?_
      · rintro i y σ' H2 H3 hi ⟨eH, l2, sT, e1, k1, G1, s0, hs1⟩ ⟨rfl, hy⟩
        subst eH
        have hi' : i < q.length := by rw [List.length_map] at hi; exact hi
        have hx : y = .str q[i] := by
          rw [List.getElem?_map, List.getElem?_eq_getElem hi'] at hy
          exact (Option.some.inj hy).symm
        subst hx
        have htk : q.take (i + 1) = q.take i ++ [q[i]] := by rw [List.take_add_one, List.getElem?_eq_getElem hi']; rfl
        have s0' : (σ'.set 2 (some (V.str q[i])))[0]? = some (some (.ref e1)) := by rw [List.getElem?_set_ne (by decide)]; exact s0
        have s2' : (σ'.set 2 (some (V.str q[i])))[2]? = some (some (.str q[i])) := List.getElem?_set_self l2
        have ok1 := (find_ok hk hs1.find).1
        obtain ⟨tt, ht, hki, _⟩ := hs1.node.hold Z
        have none_of : k1.2.getN q[i] = none → findP k q = none := fun hg => by
          have : q = q.take i ++ q[i] :: q.drop (i + 1) := by
            rw [← List.drop_eq_getElem_cons hi', List.take_append_drop]
          rw [this, findP_append, hs1.find]
          show findP k1 (q[i] :: _) = none
          unfold findP
          rw [hg]
        refine ⟨_, s0', .ref e1, .ref c.Ho, tt, .ref c.Ho, k1.1.dir, rfl, .own _, ht, hki, k1.1.dir, rfl, ?_⟩
        rcases hs1.node.cases with ⟨hd, hc, dx, m, hm, he, eF⟩ | ⟨hd, dx, m, b, kvs, bs, F1, hD, eF⟩
        · rw [hd]
          refine iteT (iteT (qn (none_of ?_)))
          rw [hc]; rfl
        · rw [hd]
          refine iteF ?_
          have hval := hD.get ok1.2.2 q[i]
          refine ⟨_, s2', _, s0', e1, dx, _, rfl, hD.obj, e1, dx, b, _, kvs, q[i], rfl, hD.obj, hD.dict, _, rfl, _, rfl, ?_⟩
          cases hg : k1.2.getN q[i] with
          | none =>
            have : bs.lookup q[i] = none := by
              cases z : bs.lookup q[i] with
              | none => rfl
              | some v =>
                have hm : q[i] ∈ bs.map (·.1) := List.mem_map.mpr ⟨(q[i], v), PySem.mem_of_lookup z, rfl⟩
                rw [hD.fo.names] at hm
                exact absurd hm (Fo.getN_none.mp hg)
            rw [this] at hval
            rw [hval]
            exact iteT (qn (none_of hg))
          | some k2 =>
            obtain ⟨e2, G2, hl, hs2⟩ := hs1.step hd hD eF hg
            rw [hl] at hval
            rw [hval]
            refine iteF ⟨_, s0', _, s2', e1, dx, _, rfl, hD.obj, e1, dx, b, _, kvs, q[i], .ref e2, rfl, hD.obj, hD.dict, hval, ?_⟩
            refine ⟨rfl, by rw [List.length_set, List.length_set]; exact l2, ?_, e2, k2, G2, ?_, by rw [htk]; exact hs2⟩
            · rw [List.getElem?_set_ne (by decide), List.getElem?_set_ne (by decide)]; exact sT
            · rw [List.getElem?_set_self (by rw [List.length_set]; omega)]
      · rintro σ' H2 ⟨eH, l2, sT, e1, k1, G1, s0, hs1⟩
        subst eH
        rw [List.length_map, List.take_length] at hs1
        exact ⟨_, s0, qs e1 k1 G1 hs1⟩
    · refine ⟨_, pss_cons (ps_for PassesOwn.never rfl (pi_list (pv 1)) (pg_name (i := 2) sc_found.nd rfl (.inl rfl)) (pss_cons (ps_if (PW.pt (pw_or (pt_not (pt_val (pe_callB call_isi rfl B.isi boot_isinstance (pa_cons (pv 0) (pa_cons (pe_glob (v := .ref c.Ho) rfl Z.gHo rfl) pa_nil)))))
          (pw_or1 (pt_cmpR (op_ninO hs hr (by decide)) (pv 2) (pv 0) (by rfl))))) (pss_one (ps_ret pe_non)) pss_nil) (pss_one (ps_set (i := 0) sc_found.nd rfl (.inl rfl) (pe_subO gi hr (by decide) pass0 (pv 0) (pv 2)))))) (pss_one (ps_ret (pv 0))), ?_⟩
      refine ⟨_, rfl, t, rfl, ⟨_, hq⟩, ?_⟩
      refine for_it (walk_list (K := K) (a := t) (xs := q.map V.str)) (fun i σ' H2 => H2 = H ∧ 2 < σ'.length ∧ σ'[1]? = some (some (.ref t)) ∧ ∃ e1 k1 G1, σ'[0]? = some (some (.ref e1)) ∧ SubAt c H k e F (q.take i) e1 k1 G1) ⟨rfl, Nat.le_of_ble_eq_true rfl, rfl, e, k, F, rfl, .root hn nd⟩ (fun i _ _ _ z => by rw [z.1]; exact hq) ?_ ?_
      · rintro i y σ' H2 H3 hi ⟨eH, l2, sT, e1, k1, G1, s0, hs1⟩ ⟨rfl, hy⟩
        subst eH
        have hi' : i < q.length := by rw [List.length_map] at hi; exact hi
        have hx : y = .str q[i] := by
          rw [List.getElem?_map, List.getElem?_eq_getElem hi'] at hy
          exact (Option.some.inj hy).symm
        subst hx
        have htk : q.take (i + 1) = q.take i ++ [q[i]] := by rw [List.take_add_one, List.getElem?_eq_getElem hi']; rfl
        have s0' : (σ'.set 2 (some (V.str q[i])))[0]? = some (some (.ref e1)) := by rw [List.getElem?_set_ne (by decide)]; exact s0
        have s2' : (σ'.set 2 (some (V.str q[i])))[2]? = some (some (.str q[i])) := List.getElem?_set_self l2
        have ok1 := (find_ok hk hs1.find).1
        obtain ⟨tt, ht, hki, _⟩ := hs1.node.hold Z
        have none_of : k1.2.getN q[i] = none → findP k q = none := fun hg => by
          have : q = q.take i ++ q[i] :: q.drop (i + 1) := by
            rw [← List.drop_eq_getElem_cons hi', List.take_append_drop]
          rw [this, findP_append, hs1.find]
          show findP k1 (q[i] :: _) = none
          unfold findP
          rw [hg]
        refine ⟨_, s0', .ref e1, .ref c.Ho, tt, .ref c.Ho, k1.1.dir, rfl, .own _, ht, hki, k1.1.dir, rfl, ?_⟩
        rcases hs1.node.cases with ⟨hd, hc, dx, m, hm, he, eF⟩ | ⟨hd, dx, m, b, kvs, bs, F1, hD, eF⟩
        · rw [hd]
          refine iteT (iteT (qn (none_of ?_)))
          rw [hc]; rfl
        · rw [hd]
          refine iteF ?_
          have hval := hD.get ok1.2.2 q[i]
          refine ⟨_, s2', _, s0', e1, dx, _, rfl, hD.obj, e1, dx, b, _, kvs, q[i], rfl, hD.obj, hD.dict, _, rfl, _, rfl, ?_⟩
          cases hg : k1.2.getN q[i] with
          | none =>
            have : bs.lookup q[i] = none := by
              cases z : bs.lookup q[i] with
              | none => rfl
              | some v =>
                have hm : q[i] ∈ bs.map (·.1) := List.mem_map.mpr ⟨(q[i], v), PySem.mem_of_lookup z, rfl⟩
                rw [hD.fo.names] at hm
                exact absurd hm (Fo.getN_none.mp hg)
            rw [this] at hval
            rw [hval]
            exact iteT (qn (none_of hg))
          | some k2 =>
            obtain ⟨e2, G2, hl, hs2⟩ := hs1.step hd hD eF hg
            rw [hl] at hval
            rw [hval]
            refine iteF ⟨_, s0', _, s2', e1, dx, _, rfl, hD.obj, e1, dx, b, _, kvs, q[i], .ref e2, rfl, hD.obj, hD.dict, hval, ?_⟩
            refine ⟨rfl, by rw [List.length_set, List.length_set]; exact l2, ?_, e2, k2, G2, ?_, by rw [htk]; exact hs2⟩
            · rw [List.getElem?_set_ne (by decide), List.getElem?_set_ne (by decide)]; exact sT
            · rw [List.getElem?_set_self (by rw [List.length_set]; omega)]
      · rintro σ' H2 ⟨eH, l2, sT, e1, k1, G1, s0, hs1⟩
        subst eH
        rw [List.length_map, List.take_length] at hs1
        exact ⟨_, s0, qs e1 k1 G1 hs1⟩
end
end K18
namespace K18
open PySem PySem.Spec PyProof.Rows L2 NdefX StX
theorem str_len_app (a b : Str) : (a ++ b).length = a.length + b.length := by
  rw [TL.len_tl, TL.len_tl, TL.len_tl, TL.tl_append, List.length_append]
theorem empty_app (a : Str) : Str.empty ++ a = a := TL.ext_tl (by rw [TL.tl_append]; rfl)
theorem Fo.size_put : ∀ {fo : Fo} {x : Str} {k : Nd}, fo.Wf → (fo.putN x k).size + (match fo.getN x with | some o => 1 + o.2.size | none => 0) = fo.size + (1 + k.2.size)
  | .nil, x, k, _ => by simp [Fo.putN, Fo.getN, Fo.size]
  | .cons n d ch rest, x, k, w => by
    unfold Fo.putN Fo.getN
    by_cases h : n = x
    · rw [if_pos h, if_pos h]
      show 1 + k.2.size + rest.size + (1 + ch.size) = 1 + ch.size + rest.size + (1 + k.2.size)
      omega
    · rw [if_neg h, if_neg h]
      by_cases h2 : nlt x n
      · rw [if_pos h2]
        have hn : rest.getN x = none := Fo.getN_none.mpr fun hm => nlt_irrefl _ (nlt_trans (w.2.2.2.2.2 x hm) h2)
        rw [hn]
        show 1 + k.2.size + (1 + ch.size + rest.size) + 0 = 1 + ch.size + rest.size + (1 + k.2.size)
        omega
      · rw [if_neg h2]
        have ih := Fo.size_put (fo := rest) (x := x) (k := k) w.2.2.2.2.1
        show 1 + ch.size + (rest.putN x k).size + _ = 1 + ch.size + rest.size + (1 + k.2.size)
        omega
theorem Fo.depth_put : ∀ {fo : Fo} {x : Str} {k : Nd} {m : Nat}, fo.depth ≤ m → 1 + k.2.depth ≤ m → (fo.putN x k).depth ≤ m
  | .nil, x, k, m, _, h => by show max (1 + k.2.depth) 0 ≤ m; omega
  | .cons n d ch rest, x, k, m, h1, h => by
    have h1 : max (1 + ch.depth) rest.depth ≤ m := h1
    unfold Fo.putN
    by_cases e : n = x
    · rw [if_pos e]; show max (1 + k.2.depth) rest.depth ≤ m; omega
    · rw [if_neg e]
      by_cases e2 : nlt x n
      · rw [if_pos e2]; show max (1 + k.2.depth) (max (1 + ch.depth) rest.depth) ≤ m; omega
      · rw [if_neg e2]
        have := Fo.depth_put (fo := rest) (x := x) (k := k) (m := m) (by omega) h
        show max (1 + ch.depth) (rest.putN x k).depth ≤ m
        omega
section
variable {P : Program} {w : World} {K : PySem.W.Frag} {mg : Str → Option Value} {base : Heap} {c : Ad}
/-! ### joined -/
def spJoined : Sp := fun vs H Q _ => ∃ p n, vs = [.str (pj p), .str n] ∧ (∀ m ∈ p, NmOk m) ∧ NmOk n ∧ p.length ≤ 100 ∧ Q (.str (pj (p ++ [n]))) H
theorem sc_joined : FnScope ["path", "name"] ["path", "name"] (defScope s_joined) := ⟨rfl, rfl, rfl, by decide +kernel, rfl, by decide +kernel, by decide +kernel⟩
theorem ca_joined (D : Dn K mg "joined" s_joined) : Ca P w K mg base CX0 1 "joined" spJoined := by
  refine ca_ok D sc_joined (fun _ _ _ _ _ _ us hl => match us, hl with | [_, _], _ => rfl) (fun vs H Q E h => ?_) (fun f cdv A outer s H vs Q E hr h => ?_)
  · obtain ⟨p, n, rfl, _⟩ := h
    rfl
  · obtain ⟨p, n, rfl, hp, hn, hl, q⟩ := h
    refine ⟨_, pss_one (ps_ret (pe_ifExp (pt_cmpR op_eq (pv 0) pe_str (nomark _)) (pv 1) (pe_joined (.cons (pe_fmt (pv 0)) (.cons pe_str (.cons (pe_fmt (pv 1)) .nil)))))), ?_⟩
    refine ⟨_, rfl, rfl, decide (p = []), congrArg V.bl (pj_eq_empty hp), ?_⟩
    by_cases e : p = []
    · rw [decide_eq_true e]
      subst e
      refine iteT ⟨_, rfl, ?_⟩
      have : pj [n] = n := pj_one n
      rw [show ([] : List Str) ++ [n] = [n] from rfl, this] at q
      exact q
    rw [decide_eq_false e]
    refine iteF ?_
    have h1 := pj_len hp
    have h2 := hn.2.1
    refine ⟨_, rfl, .inl ⟨_, rfl, small_line (by omega), _, rfl, ?_, _, rfl, ?_, _, rfl, .inl ⟨_, rfl, small_line (by omega), _, rfl, ?_, ?_⟩⟩⟩
    · rw [empty_app]; exact small_line (by omega)
    · rw [empty_app, str_len_app]
      have : ("/" : Str).length = 1 := len_slash
      exact small_line (by omega)
    · rw [empty_app, str_len_app, str_len_app]
      have : ("/" : Str).length = 1 := len_slash
      exact small_line (by omega)
    · rw [empty_app]
      show Q (V.str (pj p ++ slash ++ n)) H
      rw [← pj_snoc n e]
      exact q
/-! ### Holder.put -/
def spHPut (c : Ad) (kk : Nat) : Sp := fun vs H Q _ => ∃ (e e1 : Addr) (x : Str) (k k1 : Nd) (F F1 : List Addr), vs = [.ref e, .str x, .ref e1] ∧ NmOk x ∧ NodeAt c H e k.1 k.2 F ∧ F.Nodup ∧ k.1.dir = true ∧ Fo.NdOk k ∧ k.2.depth ≤ kk ∧ k.2.size < 60 ∧
  NodeAt c H e1 k1.1 k1.2 F1 ∧ Fo.NdOk k1 ∧ k1.2.depth ≤ kk ∧ (k.2.putN x k1).size + 1 ≤ 60 ∧
  ∀ H' F' b, b ∈ F → Kp [b] H H' → NodeAt c H' e k.1 (k.2.putN x k1) F' → F'.Nodup → (∀ a ∈ F', a ∈ F ∨ H a = none) → Q .non H'
theorem sc_hput : FnScope ["self", "name", "entry", "fresh", "kept"] ["self", "name", "entry"] (defScope s_Holder_put) := ⟨rfl, rfl, rfl, by decide +kernel, rfl, by decide +kernel, by decide +kernel⟩
theorem Fo.size_kid {fo : Fo} {x : Str} {k : Nd} (w : fo.Wf) (h : fo.getN x = some k) : k.2.size + 1 ≤ fo.size := (Fo.get_ok w h).2.2.1
theorem me_hput (B : Bt mg) (Z : Cs K mg c) (nm : Ca P w K mg base CX0 1 "is_name" spIsName) {kk : Nat} (co : Ca P w K mg base CX0 (15 + (kk + 1)) "copied" (spCopy c kk)) (sz : Ca P w K mg base CX0 (4 + (kk + 1)) "size_of" (spSize c kk)) (D : Mn K c.D "put" "Holder.put" s_Holder_put) : Me P w K mg base CX0 (16 + (kk + 1)) c.D "put" (spHPut c kk) := by
  obtain ⟨tm, em⟩ := B.most
  refine me_ok (k := 16 + kk) Z.oD D sc_hput (fun _ _ _ _ _ _ us hl => match us, hl with | [_, _, _], _ => rfl) (fun vs H Q E h => ?_) (fun f cdv A outer s H vs Q E hr h => ?_)
  · obtain ⟨e, e1, x, k, k1, F, F1, rfl, _⟩ := h
    rfl
  · obtain ⟨e, e1, x, k, k1, F, F1, rfl, hx, hn, nd, hd, hk, hdp, hsz, hn1, hk1, hdp1, hput, q⟩ := h
    refine ⟨_, pss_cons (ps_if (pt_not (pt_val (pe_ca nm hr (by omega) pass0 rfl (pa_cons (pv 1) pa_nil)))) (pss_one ps_never) pss_nil)
      (pss_cons (ps_set (i := 3) sc_hput.nd rfl (.inl rfl) (pe_ca co hr (by omega) pass0 rfl (pa_cons (pv 2) pa_nil)))
      (pss_cons (ps_set (i := 4) sc_hput.nd rfl (.inl rfl) (pe_op op_sub (pe_ca sz hr (by omega) pass0 rfl (pa_cons (pv 0) pa_nil)) (pe_ifExp (pt_cmp (pc_din (hu_of hr) (pv 1) (pe_fld (pv 0) rfl))) (pe_ca sz hr (by omega) pass0 rfl (pa_cons (pe_dget (hu_of hr) (pe_fld (pv 0) rfl) (pv 1) (fun _ _ => rfl)) pa_nil)) pe_int)))
      (pss_cons (ps_if (pt_cmpR op_gt (pe_op op_add (pv 4) (pe_ca sz hr (by omega) pass0 rfl (pa_cons (pv 3) pa_nil))) (pe_glob (v := .int 60) rfl em ⟨_, rfl⟩) (nomark _)) (pss_one ps_never) pss_nil)
      (pss_one (ps_dput (hu_of hr) (pe_fld (pv 0) rfl) (pv 1) (pv 3) rfl))))), ?_⟩
    have hs1 : k1.2.size < 64 := by
      have := Fo.size_put (fo := k.2) (x := x) (k := k1) hk.2.2
      cases hg : k.2.getN x with
      | none => rw [hg] at this; dsimp only at this; omega
      | some o =>
        rw [hg] at this
        have h3 := Fo.size_kid hk.2.2 hg
        have h4 : (k.2.putN x k1).size + (1 + o.2.size) = k.2.size + (1 + k1.2.size) := this
        omega
    refine ⟨_, rfl, x, rfl, hx, fun H1 g1 => ⟨true, rfl, iteF ?_⟩⟩
    have hn' := hn.grow g1
    have hn1' := hn1.grow g1
    refine ⟨_, rfl, e1, k1.1, k1.2, F1, rfl, hn1', hk1.1, hk1.2.2, hdp1, hs1, fun e2 F2 H2 g2 n2 nd2 fr2 => ?_⟩
    have g12 : Grow H H2 := fun a o z => g2 a o (g1 a o z)
    have fr2H : ∀ a ∈ F2, H a = none := fun a ha => by
      cases y : H a with
      | none => rfl
      | some o => have := g1 a o y; rw [fr2 a ha] at this; cases this
    have hnH2 := hn'.grow g2
    refine ⟨_, rfl, e, k.1, k.2, F, rfl, hnH2, hk.2.2, hdp, by omega, fun H3 g3 => ?_⟩
    rcases (hnH2.grow g3).cases with ⟨hd0, _⟩ | ⟨_, dx, m, b, kvs, bs, Fb, hD, eF⟩
    · rw [hd] at hd0; cases hd0
    have hval := hD.get hk.2.2 x
    have ndb := nd
    rw [eF] at ndb
    have ndFb : Fb.Nodup := (List.nodup_cons.mp (List.nodup_cons.mp (List.nodup_cons.mp ndb).2).2).2
    -- what is behind the sizes
    have rest : ∀ (H5 : Hp) (old : Nat), Grow H3 H5 → (k.2.putN x k1).size + old = k.2.size + (1 + k1.2.size) → 
        ∀ (σ' : L2.St), σ' = [some (V.ref e), some (V.str x), some (V.ref e1), some (V.ref e2), some (V.int (((1 + k.2.size : Nat) : Int) - (old : Nat)))] →
        (∃ v, σ'[4]? = some (some v) ∧ ∃ v2, σ'[3]? = some (some v2) ∧ spSize c kk [v2] H5 (fun y H6 => ∃ i j, v = .int i ∧ y = .int j ∧ ∃ i' j', V.int (i + j) = .int i' ∧ V.int 60 = .int j' ∧ ∃ bb, V.bl (decide (j' < i')) = .bl bb ∧ (if bb = true then False else
          ∃ v3, σ'[3]? = some (some v3) ∧ ∃ v0, σ'[0]? = some (some v0) ∧ ∃ a C dx' fs y0, v0 = .ref a ∧ H6 a = some (.ins C dx' fs) ∧ Cls K C ∧ NoAttr K C "below" ∧ fs.lookup ("below" : Str) = some y0 ∧ ∃ v1, σ'[1]? = some (some v1) ∧ ∃ a' H7, y0 = .ref a' ∧ DPut H6 a' v1 v3 H7 ∧ Q .non H7)) E0) := by
      intro H5 old g5 hold σ' hσ
      subst hσ
      refine ⟨_, rfl, _, rfl, e2, k1.1, k1.2, F2, rfl, (n2.grow g3).grow g5, hk1.2.2, hdp1, hs1, fun H6 g6 => ⟨_, _, rfl, rfl, _, _, rfl, rfl, false, ?_, ?_⟩⟩
      · have : ¬ ((60 : Int) < ((1 + k.2.size : Nat) : Int) - (old : Nat) + ((1 + k1.2.size : Nat) : Int)) := by omega
        rw [decide_eq_false this]
      refine iteF ⟨_, rfl, _, rfl, e, c.D, dx, fB b ++ fE m k.1.own k.1.grp, .ref b, rfl, ?_, Z.oD.cls, Z.naD0, rfl, _, rfl, b, _, rfl, .k (k := .inr x) (kvs := kvs) ?_ ?_, ?_⟩
      · exact g6 _ _ (g5 _ _ hD.obj)
      · exact g6 _ _ (g5 _ _ hD.dict)
      · have h1 : kvs.length = k.2.names.length := by have := hD.keys.length_eq; simpa using this
        have h2 := k.2.names_le
        exact Nat.lt_of_lt_of_le (show kvs.length < 61 by omega) (small_line (by decide))
      have gAll : Grow H H6 := fun a o z => g6 a o (g5 a o (g3 a o (g12 a o z)))
      have bF : b ∈ F := by rw [eF]; simp
      have bH : ∃ o, H b = some o := hn.trk b bF
      have dj : ∀ a ∈ F2, a ∉ F := fun a ha z => by
        obtain ⟨o, y⟩ := hn.trk a z
        rw [fr2H a ha] at y; cases y
      have kB : ∀ a, a ≠ b → ∀ o, H6 a = some o → upd H6 b (.dK (putK kvs (.inr x) (.ref e2))) a = some o := fun a na o z => by rw [upd_ne na]; exact z
      have e2at : NodeAt c (upd H6 b (.dK (putK kvs (.inr x) (.ref e2)))) e2 k1.1 k1.2 F2 := (((n2.grow g3).grow g5).grow g6).keep fun a ha o z => kB a (fun y => dj a ha (by rw [y]; exact bF)) o z
      have bFb : b ∉ Fb := (List.nodup_cons.mp (List.nodup_cons.mp (List.nodup_cons.mp ndb).2).2).1
      have foat : FoAt c (upd H6 b (.dK (putK kvs (.inr x) (.ref e2)))) k.2 bs Fb := (hD.fo.keep fun a _ o z => g6 a o (g5 a o z)).keep fun a ha o z => kB a (fun y => bFb (by rw [← y]; exact ha)) o z
      obtain ⟨F', f1, f2, f3⟩ := FoAt.put (x := x) e2at nd2 foat ndFb fun a ha z => dj a ha (by rw [eF]; simp [z])
      have nbe : e ≠ b := fun z => (List.nodup_cons.mp ndb).1 (by simp [z])
      have nbm : m ≠ b := fun z => (List.nodup_cons.mp (List.nodup_cons.mp ndb).2).1 (by simp [z])
      have D' : DirAt c (upd H6 b (.dK (putK kvs (.inr x) (.ref e2)))) e k.1 (k.2.putN x k1) dx m b (putK kvs (.inr x) (.ref e2)) (putAs x e2 bs) F' := by
        refine ⟨hD.mo.same fun o z => kB m nbm o (g6 _ _ (g5 _ _ z)), kB e nbe _ (g6 _ _ (g5 _ _ hD.obj)), upd_same, ?_, f1⟩
        exact (putK_perm hD.perm _ _).trans (putAs_perm (by rw [hD.fo.names]; exact hk.2.2.pw))
      refine q _ (e :: m :: b :: F') b bF ?_ (D'.node hd) ?_ fun a ha => ?_
      · intro a o z n
        exact kB a (by simpa using n) o (gAll a o z)
      · have inF : ∀ a ∈ [e, m, b], a ∉ F' := fun a ha z => by
          have aF : a ∈ F := by rw [eF]; simp at ha ⊢; rcases ha with y | y | y <;> simp [y]
          rcases f3 a z with y | y
          · obtain ⟨z1, z2⟩ := List.nodup_cons.mp ndb
            obtain ⟨z3, z4⟩ := List.nodup_cons.mp z2
            simp at ha
            rcases ha with rfl | rfl | rfl
            · exact z1 (by simp [y])
            · exact z3 (by simp [y])
            · exact bFb y
          · exact dj a y aF
        have nem : e ≠ m := fun z => (List.nodup_cons.mp ndb).1 (by simp [z])
        simp [inF e (by simp), inF m (by simp), inF b (by simp), f2, nem, nbe, nbm]
      · simp at ha
        rcases ha with rfl | rfl | rfl | ha
        · exact .inl (by rw [eF]; simp)
        · exact .inl (by rw [eF]; simp)
        · exact .inl bF
        · rcases f3 a ha with y | y
          · exact .inl (by rw [eF]; simp [y])
          · exact .inr (fr2H a y)
    refine ⟨_, rfl, _, rfl, e, c.D, dx, _, .ref b, rfl, hD.obj, Z.oD.cls, Z.naD0, rfl, b, _, rfl, .k (k := .inr x) hD.dict, _, rfl, ?_⟩
    cases hg : k.2.getN x with
    | none =>
      have : bs.lookup x = none := by
        cases z : bs.lookup x with
        | none => rfl
        | some v =>
          have hm : x ∈ bs.map (·.1) := List.mem_map.mpr ⟨(x, v), PySem.mem_of_lookup z, rfl⟩
          rw [hD.fo.names] at hm
          exact absurd hm (Fo.getN_none.mp hg)
      rw [this] at hval
      rw [hval]
      refine iteF ⟨_, _, rfl, rfl, ?_⟩
      have hps := Fo.size_put (fo := k.2) (x := x) (k := k1) hk.2.2
      rw [hg] at hps
      exact rest H3 0 (fun _ _ z => z) hps _ rfl
    | some o =>
      obtain ⟨eo, Go, l1, no, _, _, _⟩ := hD.fo.get ndFb hg
      rw [l1] at hval
      rw [hval]
      obtain ⟨oo, od, os, _⟩ := Fo.get_ok hk.2.2 hg
      have hps := Fo.size_put (fo := k.2) (x := x) (k := k1) hk.2.2
      rw [hg] at hps
      refine iteT ⟨_, rfl, e, c.D, dx, _, .ref b, rfl, hD.obj, Z.oD.cls, Z.naD0, rfl, _, rfl, b, .ref eo, rfl, by have := DGet.k (k := .inr x) hD.dict; rw [hval] at this; exact this, ?_⟩
      refine ⟨eo, o.1, o.2, Go, rfl, no, oo.2.2, by omega, by omega, fun H5 g5 => ⟨_, _, rfl, rfl, ?_⟩⟩
      exact rest H5 (1 + o.2.size) g5 hps _ rfl
end
end K18
namespace K18
open PySem PySem.Spec PyProof.Rows L2 NdefX StX
section
variable {prog : Program} {w : World} {A : Around} {E : Value → Shared → Prop} {s : Shared} {env : Env} {elts : List Expr} {k : Nat} {pos : Pos}
/-- *a, b = a tuple: all but the last in a new list -/
theorem assign_star2 {l : Addr} {items : Array Value} {mids : List Value} {z : Value} {Q : Unit → Shared → Prop} (hl : IsTup s.heap l items) (hh : A.handled = none) (hlen : (assignEach elts env).length = 2) (hstar : (assignEach elts env).findIdx? (·.1) = some 0)
    (hit : items.toList = mids ++ [z]) (hz : items.size ≤ 16384)
    (h : ∀ (h' : Heap) (tk : Nat), (∀ b o, s.heap.get? b = some o → h'.get? b = some o) → wpAny (model prog w) A (assignInOrder ((assignEach elts env).map (·.2)) [.ref h'.objs.size, z]) Q E { s with heap := h'.push { cls := .type "list", data := .seq mids.toArray 0 }, toks := tk }) :
    wpAny (model prog w) A (assign (.Tuple elts k pos) env (.ref l)) Q E s := by
  have hn : items.size = mids.length + 1 := by
    have := congrArg List.length hit
    rw [List.length_append, Array.length_toList] at this
    exact this
  have hlt : l ≠ s.heap.objs.size := by obtain ⟨o, ho, _⟩ := hl; exact Nat.ne_of_lt (Heap.lt_size ho)
  have hll : l < s.heap.objs.size := by obtain ⟨o, ho, _⟩ := hl; exact Heap.lt_size ho
  rw [assign_Tuple]
  refine wpAny_bind (wpAny_standAt ?_)
  unfold unpack
  rw [hlen, hstar]
  refine wpAny_bind (wpAny_holding ?_)
  unfold unpackItems
  refine wpAny_bind ?_
  unfold notIterableAtAll
  refine wpAny_bind (wpAny_specialOf hl.typeIs slot_tuple_iter.lookup ?_)
  refine wpAny_pure ?_
  simp only [Bool.false_eq_true, if_false]
  refine wpAny_bind (wpAny_holding (iter_tuple hl ?_))
  refine wpAny_bind (wpAny_holding (draw_tuple hlt 0 0 _ _ ⟨_, Heap.get?_push_size _ rfl, rfl, rfl⟩ (hl.push _) (by omega) fun h₁ hit₁ hs₁ => ?_))
  have hl₁ : IsTup h₁ l items := (hl.push _).extBut hs₁.extBut hlt
  have hit₁' := hit₁
  obtain ⟨oi, hoi, _⟩ := hit₁'
  have hl₁' := hl₁
  obtain ⟨ol, hol, _⟩ := hl₁'
  rw [List.drop_zero, List.take_zero]
  rw [if_neg (show ¬ (([] : List Value).length < 0) by exact Nat.not_lt_zero _)]
  refine wpAny_bind (wpAny_holding (PySem.W.kun_collect (s := { s with heap := h₁ }) (T := "tuple_iterator") (.inr (.inr (.inr rfl))) (Walks.tuple (A := A.in1) hh s.heap.objs.size l hlt items) (fun j u st => st.1.typeIs) (k := 0) (by omega) ⟨hit₁, hl₁⟩ (Heap.lt_size hoi) (Heap.lt_size hol) (fun h₂ tk hk => ?_) (by rw [sizeLine_eq]; omega)))
  rw [List.drop_zero, hit]
  show wpAny _ _ (if (mids ++ [z]).length < 1 then _ else _) _ _ _
  rw [if_neg (by rw [List.length_append]; simp)]
  have e1 : (mids ++ [z]).length - 1 = mids.length := by rw [List.length_append]; rfl
  show wpAny _ _ (newList ((mids ++ [z]).take ((mids ++ [z]).length - 1)) >>= fun d => pure ([] ++ [d] ++ (mids ++ [z]).drop ((mids ++ [z]).length - 1))) _ _ _
  rw [e1, List.take_left, List.drop_left]
  refine wpAny_bind (wpAny_newList ?_ (by rw [sizeLine_eq]; omega))
  refine wpAny_pure ?_
  exact h h₂ tk (fun b o e => hk b o (Nat.ne_of_lt (Heap.lt_size e)) (hs₁.extBut b o (Nat.ne_of_lt (Heap.lt_size e)) (Heap.get?_push_of_some _ e)))
end
section
variable {X : Cx} {pos : Pos}
def gStar (K : PySem.W.Frag) (t : TGs) : TG := fun v σ H Q => ∃ a ys z, v = .ref a ∧ SqT K H a (ys ++ [z]) ∧ ys.length < 16000 ∧ ∀ D, H D = none → t [.ref D, z] σ (upd H D (.lst ys)) Q
theorem pg_star {es : List Expr} {k : Nat} {t : TGs} (hc : X.calm = true) (h : PGs X es t)
    (hn : (assignEach es X.env).length = 2 := by rfl) (hst : (assignEach es X.env).findIdx? (·.1) = some 0 := by rfl) : PG X (.Tuple es k pos) (gStar X.K t) := by
  refine ⟨fun pins s σ H v u Q I r hw => ?_⟩
  obtain ⟨a, ys, z, e1, hq, hl, hw⟩ := hw
  subst e1
  cases r
  obtain ⟨its, rv, ht, hz⟩ := I.tuple hq
  obtain ⟨us, ul, rfl, r1, r2⟩ : ∃ us ul, its = us ++ [ul] ∧ Vals ys us ∧ RelV z ul := by
    clear hq ht hz hw hl
    induction ys generalizing its with
    | nil =>
      cases rv with
      | cons r rr => cases rr; exact ⟨[], _, rfl, .nil, r⟩
    | cons y ys ih =>
      cases rv with
      | cons r rr =>
        obtain ⟨us, ul, rfl, q1, q2⟩ := ih _ rr
        exact ⟨_ :: us, ul, rfl, .cons r q1, q2⟩
  have hlen : us.length = ys.length := r1.length.symm
  refine assign_star2 ht (I.ok.hd hc) hn hst (mids := us) (z := ul) (by simp) (by simp [hlen]; omega) fun h' tk hx => ?_
  have I1 : L2.Inv X pins σ H { s with heap := h', toks := tk } := I.kept hx
  have hf : H h'.objs.size = none := I1.hok.fresh (Nat.le_refl _)
  have I2 : L2.Inv X pins σ (upd H h'.objs.size (.lst ys)) { s with heap := h'.push { cls := .type "list", data := .seq us.toArray 0 }, toks := tk } :=
    I1.laid (fun b u e => Heap.get?_push_of_some _ e) (Nat.le_refl _) (show ObjOk X.prog X.w _ _ _ (.lst ys) from ⟨by rw [sizeLine_eq]; omega, us, 0, r1, Heap.get?_push_size _ rfl⟩)
  exact h.run pins _ σ _ _ _ Q I2 (.cons (show RelV (.ref _) (.ref _) from rfl) (.cons r2 .nil)) (hw _ hf)
/-- the starred one's own rule -/
theorem pgs_star {e : Expr} {es : List Expr} {p : Pos} {t : TG} {u : TGs} (h1 : PG X e t) (h2 : PGs X es u)
    (hs : (assignEach (.Starred e p :: es) X.env).map (·.2) = assign e X.env :: (assignEach es X.env).map (·.2) := by rfl) : PGs X (.Starred e p :: es) (gCons t u) := by
  refine ⟨fun pins s σ H vs us Q I r h => ?_⟩
  obtain ⟨v, vr, e1, h⟩ := h
  subst e1
  cases r with
  | cons r rr =>
    rw [hs]
    refine assignInOrder_cons (thn (h1.run pins s σ H _ _ _ I r h) fun _ s1 ⟨σ1, H1, I1, q1⟩ => ?_)
    exact h2.run pins s1 σ1 H1 _ _ Q I1 rr q1
end
end K18
namespace K18
open PySem PySem.Spec PyProof.Rows L2 NdefX StX
/-- the proved defs below the tree -/
structure Lv (P : Program) (w : World) (K : PySem.W.Frag) (mg : Str → Option Value) (base : Heap) (c : Ad) : Prop where
  isn : Ca P w K mg base CX0 1 "is_name" spIsName
  isi : Ca P w K mg base CX0 1 "is_integer" spIsInt
  isp : Ca P w K mg base CX0 2 "is_path" spIsPath
  nof : Ca P w K mg base CX0 1 "names_of" spNamesOf
  num : Ca P w K mg base CX0 3 "number_of" (spNumberOf c)
  mkM : Ma P w K mg base CX0 2 "Mode" c.M (spMInit c)
  mnu : Pg P w K mg base 1 c.M "number" (spMNum c)
  meq : Du P w K mg base CX0 1 c.M "__eq__" (spMEq c)
  nms : Me P w K mg base CX0 1 c.D "names" (spNames c)
  has : Du P w K mg base CX0 1 c.D "__contains__" (spHas c)
  get : Du P w K mg base CX0 2 c.D "__getitem__" (spGet c)
  siz : Ca P w K mg base CX0 17 "size_of" (spSize c 12)
  cop : Ca P w K mg base CX0 28 "copied" (spCopy c 12)
  fnd : Ca P w K mg base CX0 4 "found_below" (spFound K c)
  joi : Ca P w K mg base CX0 1 "joined" spJoined
  hpu : Me P w K mg base CX0 29 c.D "put" (spHPut c 12)
  pF : Pp P w K mg base c c.F
  pD : Pp P w K mg base c c.D
  mkF : Ma P w K mg base CX0 9 "File" c.F (spEInit c c.F preF)
  mkD : Mr P w K mg base CX0 13 "Folder" c.D (spEInit c c.D preD)
/-- a tree -/
def TreeAt (c : Ad) (H : Hp) (t : Addr) (k : Nd) (F : List Addr) : Prop := ∃ dx top, H t = some (.ins c.T dx [("top", .ref top)]) ∧ NodeAt c H top k.1 k.2 F ∧ F.Nodup ∧ t ∉ F
theorem TreeAt.keep {c : Ad} {H H' : Hp} {t : Addr} {k : Nd} {F : List Addr} (h : TreeAt c H t k F) (g : ∀ b ∈ t :: F, ∀ o, H b = some o → H' b = some o) : TreeAt c H' t k F := by
  obtain ⟨dx, top, h1, h2, h3, h4⟩ := h
  exact ⟨dx, top, g t (by simp) _ h1, h2.keep fun b hb => g b (by simp [hb]), h3, h4⟩
theorem TreeAt.grow {c : Ad} {H H' : Hp} {t : Addr} {k : Nd} {F : List Addr} (h : TreeAt c H t k F) (g : Grow H H') : TreeAt c H' t k F := h.keep fun b _ o z => g b o z
theorem TreeAt.trk {c : Ad} {H : Hp} {t : Addr} {k : Nd} {F : List Addr} (h : TreeAt c H t k F) : ∀ b ∈ F, ∃ o, H b = some o := by
  obtain ⟨dx, top, h1, h2, h3, h4⟩ := h
  exact h2.trk
theorem NodeAt.ne {c : Ad} {H : Hp} {e : Addr} {d : Dat} {ch : Fo} {F : List Addr} (h : NodeAt c H e d ch F) : e ∈ F := by
  rcases h.cases with ⟨_, _, dx, m, _, _, rfl⟩ | ⟨_, dx, m, b, kvs, bs, F1, _, rfl⟩ <;> simp
section
variable {P : Program} {w : World} {K : PySem.W.Frag} {mg : Str → Option Value} {base : Heap} {c : Ad} 
/-! ### Tree(..) -/
def spTInit (c : Ad)  : Sp := fun vs H Q _ => ∃ (x dx e : Addr) (k : Nd) (F : List Addr), vs = [.ref x, .ref e] ∧ H x = some (.ins c.T dx []) ∧ NodeAt c H e k.1 k.2 F ∧ x ∉ F ∧ Fo.NdOk k ∧ k.2.depth ≤ 12 ∧ k.2.size ≤ 59 ∧
  ∀ top F' H', Kp [x] H H' → H' x = some (.ins c.T dx [("top", .ref top)]) → NodeAt c H' top k.1 k.2 F' → F'.Nodup → (∀ b ∈ F', H b = none) → Q .non H'
theorem sc_tinit : FnScope ["self", "top"] ["self", "top"] (defScope s_Tree_init) := ⟨rfl, rfl, rfl, by decide +kernel, rfl, by decide +kernel, by decide +kernel⟩
theorem ma_tree (B : Bt mg) (Z : Cs K mg c) (L : Lv P w K mg base c) (D : In0 K c.T "Tree.__init__" s_Tree_init) : Ma P w K mg base CX0 30 "Tree" c.T (spTInit c) := by
  obtain ⟨tm, em⟩ := B.most
  refine ma_ok (k := 29) Z.gT D sc_tinit (fun _ _ _ _ _ _ us hl => match us, hl with | [_, _], _ => rfl) (fun vs H Q E h => ?_) (fun f cdv A outer s H vs Q E hr h => ?_)
  · obtain ⟨x, dx, e, k, F, rfl, _⟩ := h
    rfl
  · obtain ⟨x, dx, e, k, F, rfl, ex, hn, hx, hk, hd, hs, q⟩ := h
    refine ⟨_, pss_cons (ps_if (pt_cmpR op_gt (pe_ca L.siz hr (by omega) pass0 rfl (pa_cons (pv 1) pa_nil)) (pe_glob (v := .int 60) rfl em ⟨_, rfl⟩) (nomark _)) (pss_one ps_never) pss_nil)
      (pss_one (ps_fld (pv 0) (pe_ca L.cop hr (by omega) pass0 rfl (pa_cons (pv 1) pa_nil)) rfl)), ?_⟩
    refine ⟨_, rfl, e, k.1, k.2, F, rfl, hn, hk.2.2, hd, by omega, fun H1 g1 => ⟨_, _, rfl, rfl, false, ?_, iteF ?_⟩⟩
    · have : ¬ ((60 : Int) < ((1 + k.2.size : Nat) : Int)) := by omega
      exact congrArg V.bl (decide_eq_false this)
    refine ⟨_, rfl, e, k.1, k.2, F, rfl, hn.grow g1, hk.1, hk.2.2, hd, by omega, fun top F' H2 g2 n2 nd2 fr2 => ?_⟩
    have ex2 := g2 _ _ (g1 _ _ ex)
    refine ⟨_, rfl, x, c.T, dx, [], rfl, ex2, Z.oT.cls, Z.naT, Nat.zero_lt_succ _, ?_⟩
    have fr : ∀ b ∈ F', H b = none := fun b hb => by
      cases z : H b with
      | none => rfl
      | some o => have := g1 _ _ z; rw [fr2 b hb] at this; cases this
    have xF : x ∉ F' := fun z => by rw [fr x z] at ex; cases ex
    refine q top F' _ (fun a o z n => ?_) upd_same (n2.keep fun b hb o z => ?_) nd2 fr
    · rw [upd_ne (by simpa using n)]; exact g2 _ _ (g1 _ _ z)
    · rw [upd_ne (fun y => xF (by rw [← y]; exact hb))]; exact z
/-! ### Tree.size -/
def spTSize (c : Ad)  : Sp := fun vs H Q _ => ∃ (t : Addr) (k : Nd) (F : List Addr), vs = [.ref t] ∧ TreeAt c H t k F ∧ Fo.NdOk k ∧ k.2.depth ≤ 12 ∧ k.2.size < 64 ∧ ∀ H', Grow H H' → Q (.int (1 + k.2.size : Nat)) H'
theorem sc_tsize : FnScope ["self"] ["self"] (defScope s_Tree_size) := ⟨rfl, rfl, rfl, by decide +kernel, rfl, by decide +kernel, by decide +kernel⟩
theorem me_tsize (Z : Cs K mg c) (L : Lv P w K mg base c) (D : Mn K c.T "size" "Tree.size" s_Tree_size) : Me P w K mg base CX0 18 c.T "size" (spTSize c) := by
  refine me_ok (k := 17) Z.oT D sc_tsize (fun _ _ _ _ _ _ us hl => match us, hl with | [_], _ => rfl) (fun vs H Q E h => ?_) (fun f cdv A outer s H vs Q E hr h => ?_)
  · obtain ⟨t, k, F, rfl, _⟩ := h
    rfl
  · obtain ⟨t, k, F, rfl, ⟨dx, top, e1, hn, nd, nt⟩, hk, hd, hs, q⟩ := h
    refine ⟨_, pss_one (ps_ret (pe_ca L.siz hr (Nat.le_refl _) pass0 rfl (pa_cons (pe_fld (pv 0) rfl) pa_nil))), ?_⟩
    exact ⟨_, rfl, t, c.T, dx, _, .ref top, rfl, e1, Z.oT.cls, Z.naT, rfl, top, k.1, k.2, F, rfl, hn, hk.2.2, hd, hs, q⟩
/-! ### Tree.entry: there -/
def spEntry (c : Ad) : Sp := fun vs H Q _ => ∃ (t : Addr) (k k' : Nd) (F : List Addr) (q : List Str), vs = [.ref t, .str (pj q)] ∧ TreeAt c H t k F ∧ Fo.NdOk k ∧ (∀ n ∈ q, NmOk n) ∧ q.length ≤ 100 ∧ findP k q = some k' ∧
  ∀ H' dx top e' G, Grow H H' → H t = some (.ins c.T dx [("top", .ref top)]) → t ∉ F → SubAt c H' k top F q e' k' G → Q (.ref e') H'
theorem sc_tentry : FnScope ["self", "path", "found"] ["self", "path"] (defScope s_Tree_entry) := ⟨rfl, rfl, rfl, by decide +kernel, rfl, by decide +kernel, by decide +kernel⟩
theorem me_entry (Z : Cs K mg c) (L : Lv P w K mg base c) (D : Mn K c.T "entry" "Tree.entry" s_Tree_entry) : Me P w K mg base CX0 5 c.T "entry" (spEntry c) := by
  refine me_ok (k := 4) Z.oT D sc_tentry (fun _ _ _ _ _ _ us hl => match us, hl with | [_, _], _ => rfl) (fun vs H Q E h => ?_) (fun f cdv A outer s H vs Q E hr h => ?_)
  · obtain ⟨t, k, k', F, q, rfl, _⟩ := h
    rfl
  · obtain ⟨t, k, k', F, p, rfl, hT, hk, hp, hl, hf, q⟩ := h
    refine ⟨_, pss_cons (ps_if (pt_not (pt_val (pe_ca L.isp hr (by decide) pass0 rfl (pa_cons (pv 1) pa_nil)))) (pss_one ps_never) pss_nil)
      (pss_cons (ps_set (i := 2) sc_tentry.nd rfl (.inl rfl) (pe_ca L.fnd hr (by decide) pass0 rfl (pa_cons (pe_fld (pv 0) rfl) (pa_cons (pe_ca L.nof hr (by decide) pass0 rfl (pa_cons (pv 1) pa_nil)) pa_nil))))
      (pss_cons (ps_if (pt_cmp (pc_isN (pv 2))) (pss_one ps_never) pss_nil) (pss_one (ps_ret (pv 2))))), ?_⟩
    obtain ⟨dx, top, e1, hn, nd, nt⟩ := hT
    refine ⟨_, rfl, p, rfl, hp, hl, fun H1 g1 => ⟨true, rfl, iteF ?_⟩⟩
    refine ⟨_, rfl, t, c.T, dx, _, .ref top, rfl, g1 _ _ e1, Z.oT.cls, Z.naT, rfl, _, rfl, p, rfl, hp, hl, fun a H2 g2 ha1 ha2 => ?_⟩
    refine ⟨top, a, k, F, p, rfl, (hn.grow g1).grow g2, nd, hk, .inl (.of ha2), fun z => (by rw [hf] at z; cases z), fun e' k1 G hs => ?_⟩
    have ek : k1 = k' := by have := hs.find; rw [hf] at this; exact (Option.some.inj this).symm
    subst ek
    exact ⟨_, rfl, false, rfl, iteF ⟨_, rfl, q H2 dx top e' G (fun a o z => g2 _ _ (g1 _ _ z)) e1 nt hs⟩⟩
end
end K18
namespace K18
open PySem PySem.Spec PyProof.Rows L2 NdefX StX
/-- what of a tree's own memory a change may touch -/
def KpT (t : Addr) (F : List Addr) (H H' : Hp) : Prop := ∀ b o, H b = some o → b ∉ F → b ≠ t → H' b = some o
section
variable {P : Program} {w : World} {K : PySem.W.Frag} {mg : Str → Option Value} {base : Heap} {c : Ad}
theorem start_set {N : List Str} {vs : List V} : True := trivial
theorem none_grow {H H' : Hp} (g : Grow H H') {b : Addr} (h : H' b = none) : H b = none := by
  cases z : H b with
  | none => rfl
  | some o => rw [g b o z] at h; cases h
/-! ### Tree.put -/
def spTPut (c : Ad) : Sp := fun vs H Q _ => ∃ (t e1 : Addr) (k k0 k1 : Nd) (F F1 : List Addr) (q : List Str) (x : Str), vs = [.ref t, .str (pj (q ++ [x])), .ref e1] ∧ TreeAt c H t k F ∧ Fo.NdOk k ∧ k.2.depth ≤ 12 ∧ k.2.size ≤ 50 ∧
  (∀ n ∈ q, NmOk n) ∧ NmOk x ∧ q.length ≤ 90 ∧ findP k q = some k0 ∧ k0.1.dir = true ∧ NodeAt c H e1 k1.1 k1.2 F1 ∧ Fo.NdOk k1 ∧ k1.2 = .nil ∧
  ∀ H' F', KpT t F H H' → TreeAt c H' t (setP (k0.1, k0.2.putN x k1) k q) F' → (∀ b ∈ F', b ∈ F ∨ H b = none) → Q .non H'
theorem sc_tput : FnScope ["self", "path", "entry", "above", "name", "folder", "kept"] ["self", "path", "entry"] (defScope s_Tree_put) := ⟨rfl, rfl, rfl, by decide +kernel, rfl, by decide +kernel, by decide +kernel⟩
theorem me_tput (B : Bt mg) (Z : Cs K mg c) (L : Lv P w K mg base c) (D : Mn K c.T "put" "Tree.put" s_Tree_put) : Me P w K mg base CX0 30 c.T "put" (spTPut c) := by
  obtain ⟨tm, em⟩ := B.most
  refine me_ok (k := 29) Z.oT D sc_tput (fun _ _ _ _ _ _ us hl => match us, hl with | [_, _, _], _ => rfl) (fun vs H Q E h => ?_) (fun f cdv A outer s H vs Q E hr h => ?_)
  · obtain ⟨t, e1, k, k0, k1, F, F1, q, x, rfl, _⟩ := h
    rfl
  · obtain ⟨t, e1, k, k0, k1, F, F1, p, x, rfl, hT, hk, hdp, hsz, hp, hx, hl, hf, hd, hn1, hk1, hnil, q⟩ := h
    refine ⟨_, pss_cons (ps_if (PW.pt (pw_or (pt_not (pt_val (pe_ca L.isp hr (by decide) pass0 rfl (pa_cons (pv 1) pa_nil)))) (pw_or1 (pt_cmpR op_eq (pv 1) pe_str (nomark _))))) (pss_one ps_never) pss_nil)
      (pss_cons (ps_asg (pe_ca L.nof hr (by decide) pass0 rfl (pa_cons (pv 1) pa_nil)) (pg_star rfl (pgs_star (pg_name (i := 3) sc_tput.nd rfl (.inl rfl)) (pgs_cons (pg_name (i := 4) sc_tput.nd rfl (.inl rfl)) pgs_nil))))
      (pss_cons (ps_set (i := 5) sc_tput.nd rfl (.inl rfl) (pe_ca L.fnd hr (by decide) pass0 rfl (pa_cons (pe_fld (pv 0) rfl) (pa_cons (pv 3) pa_nil))))
      (pss_cons (ps_if (pt_not (pt_val (pe_callB call_isi rfl B.isi boot_isinstance (pa_cons (pv 5) (pa_cons (pe_glob (v := .ref c.Ho) rfl Z.gHo rfl) pa_nil))))) (pss_one ps_never) pss_nil)
      (pss_cons (ps_set (i := 6) sc_tput.nd rfl (.inl rfl) (pe_op op_sub (pe_ca L.siz hr (by decide) pass0 rfl (pa_cons (pe_fld (pv 0) rfl) pa_nil)) (pe_ifExp (pt_cmpR (op_inO L.has hr (by decide)) (pv 4) (pv 5) (by rfl)) (pe_ca L.siz hr (by decide) pass0 rfl (pa_cons (pe_subO L.get hr (by decide) pass0 (pv 5) (pv 4)) pa_nil)) pe_int)))
      (pss_cons (ps_if (pt_cmpR op_gt (pe_op op_add (pv 6) (pe_ca L.siz hr (by decide) pass0 rfl (pa_cons (pv 2) pa_nil))) (pe_glob (v := .int 60) rfl em ⟨_, rfl⟩) (nomark _)) (pss_one ps_never) pss_nil)
      (pss_one (ps_expr (pe_me L.hpu hr (by decide) pass0 (pv 5) (pa_cons (pv 4) (pa_cons (pv 2) pa_nil)))))))))), ?_⟩
    obtain ⟨dx, top, eT, hn, nd, nt⟩ := hT
    have hpx : ∀ n ∈ p ++ [x], NmOk n := fun n hn => by
      rcases List.mem_append.mp hn with z | z
      · exact hp n z
      · rw [List.mem_singleton.mp z]; exact hx
    have hlx : (p ++ [x]).length ≤ 100 := by rw [List.length_append]; show p.length + 1 ≤ 100; omega
    refine ⟨_, rfl, p ++ [x], rfl, hpx, hlx, fun H1 g1 => ⟨true, rfl, iteF ?_⟩⟩
    refine ⟨_, rfl, rfl, false, ?_, iteF ?_⟩
    · exact (congrArg V.bl (pj_eq_empty hpx)).trans (congrArg V.bl (decide_eq_false (by simp)))
    refine ⟨_, rfl, p ++ [x], rfl, hpx, hlx, fun a H2 g2 ha1 ha2 => ?_⟩
    refine ⟨a, p.map V.str, .str x, rfl, .of (by rw [ha2, List.map_append]; rfl), by rw [List.length_map]; omega, fun Da hDa => ?_⟩
    refine ⟨_, _, rfl, _, _, rfl, rfl, ?_⟩
    have g02 : Grow H H2 := fun b o z => g2 _ _ (g1 _ _ z)
    have g3 : Grow H (upd H2 Da (.lst (p.map V.str))) := fun b o z => by rw [upd_ne (ne_of_none (g02 b o z) hDa)]; exact g02 b o z
    generalize hH3 : upd H2 Da (.lst (p.map V.str)) = H3 at g3
    have eDa : H3 Da = some (.lst (p.map V.str)) := by rw [← hH3, upd_same]
    have hT3 := g3 _ _ eT
    refine ⟨_, rfl, t, c.T, dx, _, .ref top, rfl, hT3, Z.oT.cls, Z.naT, rfl, _, rfl, ?_⟩
    refine ⟨top, Da, k, F, p, rfl, hn.grow g3, nd, hk, .inr (.of eDa), fun z => (by rw [hf] at z; cases z), fun e' k' G hs => ?_⟩
    have ek : k' = k0 := by have := hs.find; rw [hf] at this; exact (Option.some.inj this).symm
    subst ek
    obtain ⟨ok', dp', sz'⟩ := find_ok hk hf
    obtain ⟨tt, htt, hho, _⟩ := hs.node.hold Z
    rw [hd] at hho
    refine ⟨_, rfl, .ref e', .ref c.Ho, tt, .ref c.Ho, true, rfl, .own _, htt, hho, true, rfl, iteF ?_⟩
    refine ⟨_, rfl, t, c.T, dx, _, .ref top, rfl, hT3, Z.oT.cls, Z.naT, rfl, top, k.1, k.2, F, rfl, hn.grow g3, hk.2.2, hdp, by omega, fun H4 g4 => ?_⟩
    have g04 : Grow H H4 := fun b o z => g4 _ _ (g3 _ _ z)
    have hs4n := hs.node.grow g4
    have hsz1 : k1.2.size = 0 := by rw [hnil]; rfl
    have hdp1 : k1.2.depth ≤ 12 := by rw [hnil]; exact Nat.zero_le _
    -- the end: the folder's own put
    have fin : ∀ (H5 : Hp) (old : Int), Grow H4 H5 → 0 ≤ old → ∀ σ' : L2.St, σ' = [some (V.ref t), some (V.str (pj (p ++ [x]))), some (V.ref e1), some (V.ref Da), some (V.str x), some (V.ref e'), some (V.int (((1 + k.2.size : Nat) : Int) - old))] →
        (∃ v, σ'[6]? = some (some v) ∧ ∃ v2, σ'[2]? = some (some v2) ∧ spSize c 12 [v2] H5 (fun y H6 => ∃ i j, v = .int i ∧ y = .int j ∧ ∃ i' j', V.int (i + j) = .int i' ∧ V.int 60 = .int j' ∧ ∃ bb, V.bl (decide (j' < i')) = .bl bb ∧ (if bb = true then False else
          ∃ v5, σ'[5]? = some (some v5) ∧ ∃ a' dx' fs', v5 = .ref a' ∧ H6 a' = some (.ins c.D dx' fs') ∧ fs'.lookup ("put" : Str) = none ∧ ∃ v4, σ'[4]? = some (some v4) ∧ ∃ v2, σ'[2]? = some (some v2) ∧ spHPut c 12 [v5, v4, v2] H6 (fun _ H7 => Q .non H7) E0)) E0) := by
      intro H5 old g5 ho σ' hσ
      subst hσ
      have g05 : Grow H H5 := fun b o z => g5 _ _ (g04 _ _ z)
      refine ⟨_, rfl, _, rfl, e1, k1.1, k1.2, F1, rfl, hn1.grow g05, hk1.2.2, hdp1, by omega, fun H6 g6 => ⟨_, _, rfl, rfl, _, _, rfl, rfl, false, ?_, ?_⟩⟩
      · have : ¬ ((60 : Int) < ((1 + k.2.size : Nat) : Int) - old + ((1 + k1.2.size : Nat) : Int)) := by omega
        rw [decide_eq_false this]
      have g06 : Grow H H6 := fun b o z => g6 _ _ (g05 _ _ z)
      have hs6 := (hs4n.grow g5).grow g6
      rw [if_neg (by decide)]
      have hm6 := hs6
      rcases hs6.cases with ⟨hd0, _⟩ | ⟨_, dx', m, b, kvs, bs, Fb, hD, eG⟩
      · rw [hd] at hd0; cases hd0
      refine ⟨_, rfl, e', dx', _, rfl, hD.obj, rfl, _, rfl, _, rfl, e', e1, x, k', k1, G, F1, rfl, hx, hm6, hs.nd, hd, ok', by omega, by omega, hn1.grow g06, hk1, hdp1, ?_, fun H7 G' b7 hb7 k7 n7 nd7 fr7 => ?_⟩
      · have := Fo.size_put (fo := k'.2) (x := x) (k := k1) ok'.2.2
        cases hg : k'.2.getN x with
        | none => rw [hg] at this; dsimp only at this; omega
        | some o => rw [hg] at this; dsimp only at this; omega
      have g36 : Grow H3 H6 := fun b o z => g6 _ _ (g5 _ _ (g4 _ _ z))
      have kp37 : ∀ b ∈ F, b ∉ G → ∀ o, H3 b = some o → H7 b = some o := fun b _ hb o z => k7 b o (g36 _ _ z) (by simp; rintro rfl; exact hb hb7)
      obtain ⟨F', n', nd', fr'⟩ := hs.repl H7 (k'.1, k'.2.putN x k1) G' n7 nd7 kp37 (fun b hb hF => by
        rcases fr7 b hb with z | z
        · exact z
        · obtain ⟨o, y⟩ := hn.trk b hF
          rw [g06 _ _ y] at z; cases z)
      have tb : t ≠ b7 := fun z => nt (hs.sub _ (by rw [z]; exact hb7))
      have fr0 : ∀ a ∈ F', a ∈ F ∨ H a = none := fun a ha => by
        rcases fr' a ha with ⟨z, _⟩ | z
        · exact .inl z
        · rcases fr7 a z with y | y
          · exact .inl (hs.sub a y)
          · exact .inr (none_grow g06 y)
      refine q H7 F' (fun a o z na nat => k7 a o (g06 _ _ z) (by simp; rintro rfl; exact na (hs.sub _ hb7))) ⟨dx, top, k7 _ _ (g06 _ _ eT) (by simpa using tb), n', nd', fun z => ?_⟩ fr0
      rcases fr0 t z with y | y
      · exact nt y
      · rw [eT] at y; cases y
    rcases hs4n.cases with ⟨hd0, _⟩ | ⟨_, dx', m, b, kvs, bs, Fb, hD, eG⟩
    · rw [hd] at hd0; cases hd0
    have hval := hD.get ok'.2.2 x
    refine ⟨_, rfl, _, rfl, e', dx', _, rfl, hD.obj, e', dx', b, _, kvs, x, rfl, hD.obj, hD.dict, _, rfl, _, rfl, ?_⟩
    have ndb := hs.nd
    rw [eG] at ndb
    have ndFb : Fb.Nodup := (List.nodup_cons.mp (List.nodup_cons.mp (List.nodup_cons.mp ndb).2).2).2
    cases hg : k'.2.getN x with
    | none =>
      have : bs.lookup x = none := by
        cases z : bs.lookup x with
        | none => rfl
        | some v =>
          have hm : x ∈ bs.map (·.1) := List.mem_map.mpr ⟨(x, v), PySem.mem_of_lookup z, rfl⟩
          rw [hD.fo.names] at hm
          exact absurd hm (Fo.getN_none.mp hg)
      rw [this] at hval
      rw [hval]
      refine iteF ⟨_, _, rfl, rfl, ?_⟩
      exact fin H4 0 (fun _ _ z => z) (Int.le_refl _) _ rfl
    | some o =>
      obtain ⟨eo, Go, l1, no, _, _, _⟩ := hD.fo.get ndFb hg
      rw [l1] at hval
      rw [hval]
      obtain ⟨oo, od, os, _⟩ := Fo.get_ok ok'.2.2 hg
      refine iteT ⟨_, rfl, _, rfl, e', dx', _, rfl, hD.obj, e', dx', b, _, kvs, x, .ref eo, rfl, hD.obj, hD.dict, hval, ?_⟩
      refine ⟨eo, o.1, o.2, Go, rfl, no, oo.2.2, by omega, by omega, fun H5 g5 => ⟨_, _, rfl, rfl, ?_⟩⟩
      exact fin H5 ((1 + o.2.size : Nat) : Int) g5 (by omega) _ rfl
end
end K18
namespace K18
open PySem PySem.Spec PyProof.Rows L2 NdefX StX
section
variable {P : Program} {w : World} {K : PySem.W.Frag} {mg : Str → Option Value} {base : Heap} {c : Ad}
/-! ### Tree.take_out -/
def spTOut (c : Ad) : Sp := fun vs H Q _ => ∃ (t : Addr) (k k0 k' : Nd) (F : List Addr) (q : List Str) (x : Str), vs = [.ref t, .str (pj (q ++ [x]))] ∧ TreeAt c H t k F ∧ Fo.NdOk k ∧
  (∀ n ∈ q, NmOk n) ∧ NmOk x ∧ q.length ≤ 90 ∧ findP k q = some k0 ∧ k0.2.getN x = some k' ∧
  ∀ v H' F', KpT t F H H' → TreeAt c H' t (setP (k0.1, k0.2.delN x) k q) F' → (∀ b ∈ F', b ∈ F ∨ H b = none) → Q v H'
theorem sc_tout : FnScope ["self", "path", "found", "above", "name"] ["self", "path"] (defScope s_Tree_take_out) := ⟨rfl, rfl, rfl, by decide +kernel, rfl, by decide +kernel, by decide +kernel⟩
theorem me_tout (B : Bt mg) (Z : Cs K mg c) (L : Lv P w K mg base c) (en : Me P w K mg base CX0 5 c.T "entry" (spEntry c)) (D : Mn K c.T "take_out" "Tree.take_out" s_Tree_take_out) : Me P w K mg base CX0 6 c.T "take_out" (spTOut c) := by
  refine me_ok (k := 5) Z.oT D sc_tout (fun _ _ _ _ _ _ us hl => match us, hl with | [_, _], _ => rfl) (fun vs H Q E h => ?_) (fun f cdv A outer s H vs Q E hr h => ?_)
  · obtain ⟨t, k, k0, k1, F, q, x, rfl, _⟩ := h
    rfl
  · obtain ⟨t, k, k0, k1, F, p, x, rfl, hT, hk, hp, hx, hl, hf, hg, q⟩ := h
    refine ⟨_, pss_cons (ps_if (PW.pt (pw_or (pt_not (pt_val (pe_ca L.isp hr (by decide) pass0 rfl (pa_cons (pv 1) pa_nil)))) (pw_or1 (pt_cmpR op_eq (pv 1) pe_str (nomark _))))) (pss_one ps_never) pss_nil)
      (pss_cons (ps_set (i := 2) sc_tout.nd rfl (.inl rfl) (pe_me en hr (by decide) pass0 (pv 0) (pa_cons (pv 1) pa_nil)))
      (pss_cons (ps_asg (pe_ca L.nof hr (by decide) pass0 rfl (pa_cons (pv 1) pa_nil)) (pg_star rfl (pgs_star (pg_name (i := 3) sc_tout.nd rfl (.inl rfl)) (pgs_cons (pg_name (i := 4) sc_tout.nd rfl (.inl rfl)) pgs_nil))))
      (pss_cons (ps_expr (pe_dpop1 (pe_fld (pe_ca L.fnd hr (by decide) pass0 rfl (pa_cons (pe_fld (pv 0) rfl) (pa_cons (pv 3) pa_nil))) rfl) (pv 4) ⟨rfl, rfl, rfl, rfl⟩))
      (pss_one (ps_ret (pv 2)))))), ?_⟩
    have hT0 := hT
    obtain ⟨dx, top, eT, hn, nd, nt⟩ := hT
    have hpx : ∀ n ∈ p ++ [x], NmOk n := fun n hn => by
      rcases List.mem_append.mp hn with z | z
      · exact hp n z
      · rw [List.mem_singleton.mp z]; exact hx
    have hlx : (p ++ [x]).length ≤ 100 := by rw [List.length_append]; show p.length + 1 ≤ 100; omega
    have hfx : findP k (p ++ [x]) = some k1 := by
      rw [findP_append, hf]
      show findP k0 [x] = _
      unfold findP
      rw [hg]
      rfl
    refine ⟨_, rfl, p ++ [x], rfl, hpx, hlx, fun H1 g1 => ⟨true, rfl, iteF ?_⟩⟩
    refine ⟨_, rfl, rfl, false, ?_, iteF ?_⟩
    · exact (congrArg V.bl (pj_eq_empty hpx)).trans (congrArg V.bl (decide_eq_false (by simp)))
    have g1 : Grow H H1 := fun b o z => g1 _ _ z
    refine ⟨_, rfl, t, dx, _, rfl, g1 _ _ eT, rfl, _, rfl, t, k, k1, F, p ++ [x], rfl, hT0.grow g1, hk, hpx, hlx, hfx, fun H2 dx2 top2 e2 G2 g2 _ _ hs2 => ?_⟩
    refine ⟨_, rfl, p ++ [x], rfl, hpx, hlx, fun a H3 g3 ha1 ha2 => ?_⟩
    refine ⟨a, p.map V.str, .str x, rfl, .of (by rw [ha2, List.map_append]; rfl), by rw [List.length_map]; omega, fun Da hDa => ?_⟩
    refine ⟨_, _, rfl, _, _, rfl, rfl, ?_⟩
    have g03 : Grow H H3 := fun b o z => g3 _ _ (g2 _ _ (g1 _ _ z))
    have g4 : Grow H (upd H3 Da (.lst (p.map V.str))) := fun b o z => by rw [upd_ne (ne_of_none (g03 b o z) hDa)]; exact g03 b o z
    generalize hH4 : upd H3 Da (.lst (p.map V.str)) = H4 at g4
    have eDa : H4 Da = some (.lst (p.map V.str)) := by rw [← hH4, upd_same]
    refine ⟨_, rfl, t, c.T, dx, _, .ref top, rfl, g4 _ _ eT, Z.oT.cls, Z.naT, rfl, _, rfl, ?_⟩
    refine ⟨top, Da, k, F, p, rfl, hn.grow g4, nd, hk, .inr (.of eDa), fun z => (by rw [hf] at z; cases z), fun e' k' G hs => ?_⟩
    have ek : k' = k0 := by have := hs.find; rw [hf] at this; exact (Option.some.inj this).symm
    subst ek
    obtain ⟨ok', dp', sz'⟩ := find_ok hk hf
    rcases hs.node.cases with ⟨hd0, hc0, _⟩ | ⟨hd, dx', m, b, kvs, bs, Fb, hD, eG⟩
    · rw [hc0] at hg
      simp [Fo.getN] at hg
    have hval := hD.get ok'.2.2 x
    have ndb := hs.nd
    rw [eG] at ndb
    have ndFb : Fb.Nodup := (List.nodup_cons.mp (List.nodup_cons.mp (List.nodup_cons.mp ndb).2).2).2
    obtain ⟨eo, Go, l1, no, _, _, _⟩ := hD.fo.get ndFb hg
    rw [l1] at hval
    refine ⟨e', c.D, dx', _, .ref b, rfl, hD.obj, Z.oD.cls, Z.naD0, lookup_below, b, rfl, .inl ⟨kvs, .of hD.dict⟩, _, rfl, kvs, .inr x, .ref eo, hD.dict, rfl, hval, _, rfl, ?_⟩
    generalize hH5 : upd H4 b (.dK (dropK kvs (.inr x))) = H5
    have k5 : ∀ a, a ≠ b → ∀ o, H4 a = some o → H5 a = some o := fun a n o z => by rw [← hH5, upd_ne n]; exact z
    obtain ⟨z1, z2⟩ := List.nodup_cons.mp ndb
    obtain ⟨z3, z4⟩ := List.nodup_cons.mp z2
    have bFb : b ∉ Fb := (List.nodup_cons.mp z4).1
    have nbe : e' ≠ b := fun z => z1 (by simp [z])
    have nbm : m ≠ b := fun z => z3 (by simp [z])
    have nem : e' ≠ m := fun z => z1 (by simp [z])
    obtain ⟨Fd, f1, f2, f3⟩ := FoAt.del (x := x) (hD.fo.keep (H' := H5) fun a ha o z => k5 a (fun y => bFb (by rw [← y]; exact ha)) o z) ndFb ok'.2.2
    have D' : DirAt c H5 e' k'.1 (k'.2.delN x) dx' m b (dropK kvs (.inr x)) (bs.filter fun p => decide (p.1 ≠ x)) Fd := ⟨hD.mo.same fun o z => k5 m nbm o z, k5 e' nbe _ hD.obj, by rw [← hH5, upd_same], perm_drop hD.perm x, f1⟩
    have bG : b ∈ G := by rw [eG]; simp
    have sub' : ∀ a ∈ e' :: m :: b :: Fd, a ∈ G := fun a ha => by
      rw [eG]
      simp at ha ⊢
      rcases ha with z | z | z | z
      · exact .inl z
      · exact .inr (.inl z)
      · exact .inr (.inr (.inl z))
      · exact .inr (.inr (.inr (f3 a z)))
    obtain ⟨F', n', nd', fr'⟩ := hs.repl H5 (k'.1, k'.2.delN x) (e' :: m :: b :: Fd) (D'.node hd) (by
      refine List.nodup_cons.mpr ⟨fun y => ?_, List.nodup_cons.mpr ⟨fun y => ?_, List.nodup_cons.mpr ⟨fun y => bFb (f3 _ y), f2⟩⟩⟩
      · simp at y
        rcases y with y | y | y
        · exact nem y
        · exact nbe y
        · exact z1 (by simp [f3 _ y])
      · simp at y
        rcases y with y | y
        · exact nbm y
        · exact z3 (by simp [f3 _ y])) (fun a _ n o z => k5 a (fun y => n (by rw [y]; exact bG)) o z) (fun a ha _ => sub' a ha)
    have fr0 : ∀ a ∈ F', a ∈ F := fun a ha => by
      rcases fr' a ha with ⟨z, _⟩ | z
      · exact z
      · exact hs.sub a (sub' a z)
    have bF : b ∈ F := hs.sub b bG
    refine q _ H5 F' (fun a o z na nat => k5 a (fun y => na (by rw [y]; exact bF)) o (g4 _ _ z)) ⟨dx, top, k5 t (fun y => nt (by rw [y]; exact bF)) _ (g4 _ _ eT), n', nd', fun z => nt (fr0 t z)⟩ fun a ha => .inl (fr0 a ha)
/-! ### set_mode, tree[path] = mode -/
def spSetM (c : Ad) (C : Addr) : Sp := fun vs H Q _ => ∃ (e dx m : Addr) (fs : List (Str × V)) (n : Nat) (o g : Str), vs = [.ref e, .int n] ∧ n ≤ 511 ∧ H e = some (.ins C dx (fs ++ fE m o g)) ∧ (fs = [] ∨ ∃ b, fs = fB b) ∧
  ∀ H' m', Kp [e] H H' → m' ≠ e → H m' = none → MoAt c H' m' n → H' e = some (.ins C dx (fs ++ fE m' o g)) → Q .non H'
theorem sc_setm : FnScope ["self", "mode"] ["self", "mode"] (defScope s_Entry_set_mode) := ⟨rfl, rfl, rfl, by decide +kernel, rfl, by decide +kernel, by decide +kernel⟩
theorem me_setm (Z : Cs K mg c) (L : Lv P w K mg base c) {C : Addr} (O : OwnC K C) (EC : EnC K C) (D : Mn K C "set_mode" "Entry.set_mode" s_Entry_set_mode) : Me P w K mg base CX0 4 C "set_mode" (spSetM c C) := by
  refine me_ok (k := 3) O D sc_setm (fun _ _ _ _ _ _ us hl => match us, hl with | [_, _], _ => rfl) (fun vs H Q E h => ?_) (fun f cdv A outer s H vs Q E hr h => ?_)
  · obtain ⟨e, dx, m, fs, n, o, g, rfl, _⟩ := h
    rfl
  · obtain ⟨e, dx, m, fs, n, o, g, rfl, hn, ee, hfs, q⟩ := h
    refine ⟨_, pss_one (ps_fld (pv 0) (pe_ma L.mkM hr (by decide) pass0 rfl (pa_cons (pe_ca L.num hr (by decide) pass0 rfl (pa_cons (pv 1) pa_nil)) pa_nil)) rfl), ?_⟩
    refine ⟨_, rfl, n, hn, .inr rfl, fun m' dm hm hdm hne => ?_⟩
    have n1 := ne_of_none ee hm
    have n2 := ne_of_none ee hdm
    refine ⟨m', dm, n, rfl, hn, upd_same, rfl, _, rfl, e, C, dx, fs ++ fE m o g, rfl, ?_, EC.cls, EC.n1, ?_, ?_⟩
    · rw [upd_ne n1, upd_ne n1, upd_ne n2]; exact ee
    · rcases hfs with rfl | ⟨b, rfl⟩ <;> exact Nat.le_of_ble_eq_true rfl
    refine q _ m' (fun b u z nb => ?_) (Ne.symm n1) hm ⟨hn, dm, ?_⟩ ?_
    · have nx : b ≠ e := by simpa using nb
      rw [upd_ne nx, upd_ne (ne_of_none z hm), upd_ne (ne_of_none z hm), upd_ne (ne_of_none z hdm)]
      exact z
    · rw [upd_ne (Ne.symm n1), upd_same]
    · rw [upd_same]
      rcases hfs with rfl | ⟨b, rfl⟩ <;> rfl
end
end K18
namespace K18
open PySem PySem.Spec PyProof.Rows L2 NdefX StX
/-- the same entry with another mode -/
def Nd.md (k : Nd) (n : Nat) : Nd := ({ k.1 with mode := n }, k.2)
section
variable {P : Program} {w : World} {K : PySem.W.Frag} {mg : Str → Option Value} {base : Heap} {c : Ad}
/-! ### tree[path] = mode -/
def spSetI (c : Ad) : Sp := fun vs H Q _ => ∃ (t : Addr) (k k' : Nd) (F : List Addr) (q : List Str) (n : Nat), vs = [.ref t, .str (pj q), .int n] ∧ n ≤ 511 ∧ TreeAt c H t k F ∧ Fo.NdOk k ∧ (∀ n ∈ q, NmOk n) ∧ q.length ≤ 100 ∧ findP k q = some k' ∧
  ∀ H' F', KpT t F H H' → TreeAt c H' t (setP (k'.md n) k q) F' → (∀ b ∈ F', b ∈ F ∨ H b = none) → Q .non H'
theorem sc_seti : FnScope ["self", "at", "worth", "found"] ["self", "at", "worth"] (defScope s_Tree_setitem) := ⟨rfl, rfl, rfl, by decide +kernel, rfl, by decide +kernel, by decide +kernel⟩
theorem du_seti (Z : Cs K mg c) (L : Lv P w K mg base c) (en : Me P w K mg base CX0 5 c.T "entry" (spEntry c)) (smF : Me P w K mg base CX0 4 c.F "set_mode" (spSetM c c.F)) (smD : Me P w K mg base CX0 4 c.D "set_mode" (spSetM c c.D)) (D : Dm K c.T "__setitem__" "Tree.__setitem__" s_Tree_setitem) : Du P w K mg base CX0 6 c.T "__setitem__" (spSetI c) := by
  refine du_ok (k := 5) D sc_seti (fun _ _ _ _ _ _ us hl => match us, hl with | [_, _, _], _ => rfl) (fun vs H Q E h => ?_) (fun f cdv A outer s H vs Q E hr h => ?_)
  · obtain ⟨t, k, k', F, q, n, rfl, _⟩ := h
    rfl
  · obtain ⟨t, k, k', F, p, n, rfl, hn, hT, hk, hp, hl, hf, q⟩ := h
    have hT0 := hT
    obtain ⟨dx, top, eT, hN, nd, nt⟩ := hT
    -- the end, from what set_mode leaves
    have fin : ∀ (H2 H3 : Hp) (e' m dx' m' : Addr) (G G1 : List Addr) (C : Addr) (fs : List (Str × V)), Grow H H2 → SubAt c H2 k top F p e' k' G → G = e' :: m :: G1 → NodeAt c H3 e' (k'.md n).1 (k'.md n).2 (e' :: m' :: G1) → Kp [e'] H2 H3 → m' ≠ e' → H2 m' = none → Q .non H3 := by
      intro H2 H3 e' m dx' m' G G1 C fs g2 hs eG hn3 k3 ne1 hm'
      have m'F : m' ∉ F := fun z => by
        obtain ⟨o, y⟩ := hN.trk m' z
        rw [g2 _ _ y] at hm'; cases hm'
      have ndG := hs.nd
      rw [eG] at ndG
      obtain ⟨z1, z2⟩ := List.nodup_cons.mp ndG
      obtain ⟨z3, z4⟩ := List.nodup_cons.mp z2
      have eF : e' ∈ F := hs.sub e' (by rw [eG]; simp)
      obtain ⟨F', n', nd', fr'⟩ := hs.repl H3 (k'.md n) (e' :: m' :: G1) hn3 (by
        refine List.nodup_cons.mpr ⟨fun y => ?_, List.nodup_cons.mpr ⟨fun y => ?_, z4⟩⟩
        · rcases List.mem_cons.mp y with y | y
          · exact ne1 y.symm
          · exact z1 (by simp [y])
        · exact m'F (hs.sub m' (by rw [eG]; simp [y]))) (fun a ha na o z => k3 a o z (by simp; rintro rfl; exact na (by rw [eG]; simp))) (fun a ha haF => by
          rw [eG]
          simp at ha ⊢
          rcases ha with y | y | y
          · exact .inl y
          · exact absurd (by rw [← y]; exact haF) m'F
          · exact .inr (.inr y))
      have fr0 : ∀ a ∈ F', a ∈ F ∨ H a = none := fun a ha => by
        rcases fr' a ha with ⟨z, _⟩ | z
        · exact .inl z
        · simp at z
          rcases z with y | y | y
          · rw [y]; exact .inl eF
          · rw [y]; exact .inr (none_grow g2 hm')
          · exact .inl (hs.sub a (by rw [eG]; simp [y]))
      refine q H3 F' (fun a o z na nat => k3 a o (g2 _ _ z) (by simp; rintro rfl; exact na eF)) ⟨dx, top, k3 t _ (g2 _ _ eT) (by simp; rintro rfl; exact nt eF), n', nd', fun z => ?_⟩ fr0
      rcases fr0 t z with y | y
      · exact nt y
      · rw [eT] at y; cases y
    cases hd : k'.1.dir with
    | false =>
      refine ⟨_, pss_cons (ps_set (i := 3) sc_seti.nd rfl (.inl rfl) (pe_me en hr (by decide) pass0 (pv 0) (pa_cons (pv 1) pa_nil))) (pss_one (ps_expr (pe_me smF hr (by decide) pass0 (pv 3) (pa_cons (pv 2) pa_nil)))), ?_⟩
      refine ⟨_, rfl, t, dx, _, rfl, eT, rfl, _, rfl, t, k, k', F, p, rfl, hT0, hk, hp, hl, hf, fun H2 dx2 top2 e2 G2 g2 e2t _ hs2 => ?_⟩
      have : top2 = top := by rw [eT] at e2t; cases e2t; rfl
      subst this
      rcases hs2.node.cases with ⟨_, hc, dx', m, hm, he, eG⟩ | ⟨hd1, _⟩
      · refine ⟨_, rfl, e2, dx', _, rfl, he, rfl, _, rfl, e2, dx', m, [], n, k'.1.own, k'.1.grp, rfl, hn, he, .inl rfl, fun H3 m' k3 ne hm' hmo he3 => ?_⟩
        refine fin H2 H3 e2 m dx' m' G2 [] c.F [] g2 hs2 eG ?_ k3 ne hm'
        exact ⟨dx', m', hmo, .inl ⟨hd, he3, rfl, by show FoAt c H3 k'.2 [] []; rw [hc]; exact ⟨rfl, rfl⟩⟩⟩
      · rw [hd] at hd1; cases hd1
    | true =>
      refine ⟨_, pss_cons (ps_set (i := 3) sc_seti.nd rfl (.inl rfl) (pe_me en hr (by decide) pass0 (pv 0) (pa_cons (pv 1) pa_nil))) (pss_one (ps_expr (pe_me smD hr (by decide) pass0 (pv 3) (pa_cons (pv 2) pa_nil)))), ?_⟩
      refine ⟨_, rfl, t, dx, _, rfl, eT, rfl, _, rfl, t, k, k', F, p, rfl, hT0, hk, hp, hl, hf, fun H2 dx2 top2 e2 G2 g2 e2t _ hs2 => ?_⟩
      have : top2 = top := by rw [eT] at e2t; cases e2t; rfl
      subst this
      rcases hs2.node.cases with ⟨hd1, _⟩ | ⟨_, dx', m, b, kvs, bs, F1, hD, eG⟩
      · rw [hd] at hd1; cases hd1
      · refine ⟨_, rfl, e2, dx', _, rfl, hD.obj, rfl, _, rfl, e2, dx', m, fB b, n, k'.1.own, k'.1.grp, rfl, hn, hD.obj, .inr ⟨b, rfl⟩, fun H3 m' k3 ne hm' hmo he3 => ?_⟩
        have ndG := hs2.nd
        rw [eG] at ndG
        obtain ⟨z1, z2⟩ := List.nodup_cons.mp ndG
        refine fin H2 H3 e2 m dx' m' G2 (b :: F1) c.D [] g2 hs2 eG ?_ k3 ne hm'
        refine DirAt.node (d := (k'.md n).1) ⟨hmo, he3, k3 b _ hD.dict (by simp; rintro rfl; exact z1 (by simp)), hD.perm, hD.fo.keep fun a ha o z => k3 a o z (by simp; rintro rfl; exact z1 (by simp [ha]))⟩ hd
end
end K18
namespace K18
open PySem PySem.Spec PyProof.Rows L2 NdefX StX
/-! ### the entries, path by path -/
def Fo.pre (p : List Str) : Fo → List (List Str × Nd)
  | .nil => []
  | .cons n d ch rest => (p ++ [n], (d, ch)) :: (ch.pre (p ++ [n]) ++ rest.pre p)
def Nd.pre (p : List Str) (k : Nd) : List (List Str × Nd) := (p, k) :: k.2.pre p
def kidsL (p : List Str) (fo : Fo) : List (List Str × Nd) := fo.kids.map fun k => (p ++ [k.1], k.2)
theorem Fo.pre_kids (p : List Str) : ∀ fo : Fo, fo.pre p = (kidsL p fo).flatMap fun pk => pk.2.pre pk.1
  | .nil => rfl
  | .cons n d ch rest => by
    show (p ++ [n], (d, ch)) :: (ch.pre (p ++ [n]) ++ rest.pre p) = _
    rw [Fo.pre_kids p rest]
    rfl
theorem Fo.pre_len (p : List Str) : ∀ fo : Fo, (fo.pre p).length = fo.size
  | .nil => rfl
  | .cons n d ch rest => by
    show (ch.pre (p ++ [n]) ++ rest.pre p).length + 1 = 1 + ch.size + rest.size
    rw [List.length_append, Fo.pre_len _ ch, Fo.pre_len _ rest]; omega
def Ent (c : Ad) (H : Hp) (F : List Addr) (pk : List Str × Nd) (tp : Addr) : Prop := (∀ n ∈ pk.1, NmOk n) ∧ Fo.NdOk pk.2 ∧ pk.1.length + pk.2.2.depth ≤ 90 ∧ pk.2.2.size < 64 ∧ ∃ e G, H tp = some (.tup [.str (pj pk.1), .ref e]) ∧ NodeAt c H e pk.2.1 pk.2.2 G ∧ ∀ b ∈ G, b ∈ F
def GrowB (D W : Addr) (H H' : Hp) : Prop := ∀ a o, a ≠ D → a ≠ W → H a = some o → H' a = some o
theorem Ent.keep {c : Ad} {H H' : Hp} {F : List Addr} {pk : List Str × Nd} {tp D W : Addr} (h : Ent c H F pk tp) (g : GrowB D W H H') (dF : D ∉ F) (wF : W ∉ F) (dl : ∃ xs, H D = some (.lst xs)) (wl : ∃ xs, H W = some (.lst xs)) : Ent c H' F pk tp := by
  obtain ⟨h1, h2, h3, h3', e, G, h4, h5, h6⟩ := h
  obtain ⟨_, dl⟩ := dl
  obtain ⟨_, wl⟩ := wl
  refine ⟨h1, h2, h3, h3', e, G, g _ _ ?_ ?_ h4, h5.keep fun b hb o z => g b o ?_ ?_ z, h6⟩
  · rintro rfl; rw [dl] at h4; cases h4
  · rintro rfl; rw [wl] at h4; cases h4
  · rintro rfl; exact dF (h6 _ hb)
  · rintro rfl; exact wF (h6 _ hb)
def RowsAt (row : Nat → List V) (H : Hp) (D : Addr) (n : Nat) : Prop := ∃ as : List Addr, H D = some (.lst (as.map V.ref)) ∧ as.length = n ∧ ∀ i a, as[i]? = some a → H a = some (.tup (row i))
theorem RowsAt.keep {row : Nat → List V} {H H' : Hp} {D W : Addr} {n : Nat} (h : RowsAt row H D n) (g : GrowB D W H H') (hD : H' D = H D) (wl : ∃ xs, H W = some (.lst xs)) : RowsAt row H' D n := by
  obtain ⟨as, h1, h2, h3⟩ := h
  obtain ⟨_, wl⟩ := wl
  refine ⟨as, hD.trans h1, h2, fun i a ha => g a _ ?_ ?_ (h3 i a ha)⟩
  · rintro rfl; rw [h3 i _ ha] at h1; cases h1
  · rintro rfl; rw [h3 i _ ha] at wl; cases wl
def ypE (c : Ad) (k : Nd) (D : Addr) (row : Nat → List V) : List V → V → Hp → Prop := fun ys x H => ∃ tp e pk G, x = .ref tp ∧ H tp = some (.tup [.str (pj pk.1), .ref e]) ∧ (k.pre [])[ys.length]? = some pk ∧ NodeAt c H e pk.2.1 pk.2.2 G ∧ D ∉ G ∧ RowsAt row H D ys.length
def rhE (D : Addr) (row : Nat → List V) : List V → V → Hp → Hp → Prop := fun ys _ H1 H2 => (∀ a o, a ≠ D → H1 a = some o → H2 a = some o) ∧ RowsAt row H2 D (ys.length + 1)
def spEntries (c : Ad) : SpH := fun p us H Q => ∃ (t : Addr) (k : Nd) (F : List Addr) (D : Addr) (row : Nat → List V), us = [.ref t] ∧ TreeAt c H t k F ∧ Fo.NdOk k ∧ k.2.depth ≤ 12 ∧ k.2.size < 64 ∧ D ∉ F ∧ RowsAt row H D 0 ∧ p.YP = ypE c k D row ∧ p.RH = rhE D row ∧
  ∀ ys H', (∀ a o, a ≠ D → H a = some o → H' a = some o) → RowsAt row H' D (k.pre []).length → Q ys H'
section
variable {P : Program} {w : World} {K : PySem.W.Frag} {mg : Str → Option Value} {base : Heap} {c : Ad}
abbrev NEn : List Str := ["self", "waiting", "path", "entry", "name"]
theorem sc_entries : GScope NEn ["self"] (defScope s_Tree_entries) := ⟨rfl, rfl, rfl, by decide +kernel, rfl, by decide +kernel, by decide +kernel⟩
theorem nc_entries : ∀ y ∈ (defScope s_Tree_entries).names, y.2 ≠ .cell := by decide +kernel
def stSum (st : List (List Str × Nd)) : Nat := (st.map fun pk => 1 + pk.2.2.size).sum
/-- what stands at the head of the while -/
structure EnInv (c : Ad) (H0 : Hp) (t : Addr) (k : Nd) (F : List Addr) (D W : Addr) (row : Nat → List V) (st : List (List Str × Nd)) (ys : List V) (σ : L2.St) (H : Hp) : Prop where
  w : σ[1]? = some (some (.ref W))
  len : σ.length = 5
  dw : D ≠ W
  wF : W ∉ F
  dF : D ∉ F
  w0 : H0 W = none
  gr : ∀ a o, a ≠ D → H0 a = some o → H a = some o
  rows : RowsAt row H D ys.length
  tps : ∃ tps : List Addr, H W = some (.lst ((tps.reverse).map V.ref)) ∧ Paired (Ent c H F) st tps
  pre : st.flatMap (fun pk => pk.2.pre pk.1) = (k.pre []).drop ys.length
  le : ys.length ≤ (k.pre []).length
theorem paired_len {α β : Type} {R : α → β → Prop} : ∀ {l : List α} {m : List β}, Paired R l m → l.length = m.length
  | _, _, .nil => rfl
  | _, _, .cons _ r => congrArg (· + 1) (paired_len r)
theorem stSum_len : ∀ st : List (List Str × Nd), (st.flatMap (fun pk => pk.2.pre pk.1)).length = stSum st
  | [] => rfl
  | pk :: r => by
    show ((pk.1, pk.2) :: pk.2.2.pre pk.1 ++ r.flatMap _).length = 1 + pk.2.2.size + stSum r
    rw [List.length_append, stSum_len r]
    show (pk.2.2.pre pk.1).length + 1 + _ = _
    rw [Fo.pre_len]; omega
theorem st_le : ∀ st : List (List Str × Nd), st.length ≤ stSum st
  | [] => Nat.le_refl _
  | pk :: r => by
    have := st_le r
    show r.length + 1 ≤ 1 + pk.2.2.size + stSum r
    omega
theorem hf_entries (B : Bt mg) (Z : Cs K mg c) (L : Lv P w K mg base c) {f : Addr} {fd : FuncData} (Fn : Fun K "entries" "Tree.entries" s_Tree_entries f fd) : HFn P w K mg base 20 f fd ["self"] (spEntries c) := by
  obtain ⟨oc, od, kV, doc, pm, an, cdv, ct, osl, rfl, lk, hcd⟩ := Fn.ex
  refine hfn_of lk hcd sc_entries nc_entries fun A outer s H0' vs pn p H Q hr h => ?_
  obtain ⟨t, k, F, D, row, rfl, hT, hk, hdp, hsz, dF, hrow, eYP, eRH, q⟩ := h
  obtain ⟨dx, top, eT, hn, nd, nt⟩ := hT
  refine ⟨_, hss_cons (hs_ps (ps_set (i := 1) sc_entries.nd rfl (.inl rfl) (pe_lst (pa_cons (pe_tup (pa_cons pe_str (pa_cons (pe_fld (pv 0) rfl) pa_nil))) pa_nil))))
    (hss_cons (hs_while PassesOwn.never (pt_cmpR op_gt (pe_callB call_len_seq rfl B.len boot_len (pa_cons (pv 1) pa_nil)) pe_int (nomark _))
      (hss_cons (hs_ps (ps_asg (pe_bm0 PySem.F.plainAttrs_list PySem.F.slot_list_pop PySem.F.type_list_pop mt_pop (pv 1)) (pg_tup rfl (pgs_cons (pg_name (i := 2) sc_entries.nd rfl (.inl rfl)) (pgs_cons (pg_name (i := 3) sc_entries.nd rfl (.inl rfl)) pgs_nil)))))
      (hss_cons (hs_yield (pe_tup (pa_cons (pv 2) (pa_cons (pv 3) pa_nil))))
      (hss_cons (hs_ps (ps_if (pt_val (pe_callB call_isi rfl B.isi boot_isinstance (pa_cons (pv 3) (pa_cons (pe_glob (v := .ref c.Ho) rfl Z.gHo rfl) pa_nil))))
        (pss_one (ps_for PassesOwn.never rfl (pi_reversed rfl B.reversed (pa_cons (pe_callTy call_list_of rfl B.list boot_list (pa_cons (pe_me0 L.nms hr (by decide) pass0 (pv 3)) pa_nil)) pa_nil)) (pg_name (i := 4) sc_entries.nd rfl (.inl rfl))
          (pss_one (ps_expr (pe_bm PySem.F.plainAttrs_list PySem.F.slot_list_append PySem.F.type_list_append mt_append (pv 1) (pa_cons (pe_tup (pa_cons (pe_ca L.joi hr (by decide) pass0 rfl (pa_cons (pv 2) (pa_cons (pv 4) pa_nil))) (pa_cons (pe_subO L.get hr (by decide) pass0 (pv 3) (pv 4)) pa_nil))) pa_nil)))))) pss_nil)) hss_nil)))) hss_nil), ?_⟩
  obtain ⟨as0, hD0, has0, _⟩ := id hrow
  have z0 : as0 = [] := List.length_eq_zero_iff.mp has0
  subst z0
  have hDl : ∃ xs, H D = some (.lst xs) := ⟨_, hD0⟩
  refine ⟨_, rfl, t, c.T, dx, _, .ref top, rfl, eT, Z.oT.cls, Z.naT, rfl, Nat.le_of_ble_eq_true rfl, fun tp htp => ⟨Nat.le_of_ble_eq_true rfl, fun W hW => ?_⟩⟩
  have hDt : D ≠ tp := ne_of_none hD0 htp
  have eD1 : upd H tp (.tup [.str "", .ref top]) D = some (.lst ([].map V.ref)) := by rw [upd_ne hDt]; exact hD0
  have hDW : D ≠ W := ne_of_none eD1 hW
  have hW0 : H W = none := by
    by_cases e : W = tp
    · rw [e, upd_same] at hW; cases hW
    · rw [upd_ne e] at hW; exact hW
  have htW : tp ≠ W := ne_of_none upd_same hW
  have wF : W ∉ F := fun z => by obtain ⟨o, y⟩ := hn.trk W z; rw [hW0] at y; cases y
  generalize hH1 : upd (upd H tp (.tup [.str "", .ref top])) W (.lst [.ref tp]) = H1
  have g1 : Grow H H1 := fun a o z => by rw [← hH1, upd_ne (ne_of_none z hW0), upd_ne (ne_of_none z htp)]; exact z
  have eW1 : H1 W = some (.lst [.ref tp]) := by rw [← hH1, upd_same]
  have etp1 : H1 tp = some (.tup [.str (pj []), .ref top]) := by rw [← hH1, upd_ne htW, upd_same, pj_nil]
  refine ⟨fun m ys σ H' => ∃ st, m = stSum st ∧ EnInv c H t k F D W row st ys σ H', ⟨_, [([], k)], rfl, rfl, rfl, hDW, wF, dF, hW0, fun a o _ z => g1 a o z, ⟨[], g1 _ _ hD0, rfl, fun i a z => by simp at z⟩, ⟨[tp], by rw [eW1]; rfl, .cons ⟨fun n hn => absurd hn (by simp), hk, by show 0 + k.2.depth ≤ 90; omega, hsz, top, F, etp1, hn.grow g1, fun _ z => z⟩ .nil⟩, ?_, Nat.zero_le _⟩, ?_⟩
  · show k.pre [] ++ [] = (k.pre []).drop 0
    simp
  rintro m ys σ H2 ⟨st, rfl, I⟩
  have hst := stSum_len st
  rw [I.pre, List.length_drop] at hst
  have hpl : (k.pre []).length = 1 + k.2.size := by show (k.2.pre []).length + 1 = _; rw [Fo.pre_len]; omega
  obtain ⟨tps, eW, pr⟩ := I.tps
  have hl := paired_len pr
  have hstl := st_le st
  refine ⟨_, I.w, W, _, rfl, .inl (.of eW), _, _, rfl, rfl, decide (0 < st.length), ?_, ?_⟩
  · refine congrArg V.bl ?_
    rw [Bool.eq_iff_iff, decide_eq_true_iff, decide_eq_true_iff, List.length_map, List.length_reverse, ← hl]
    omega
  match st, tps, pr, I, hst, hstl, eW, hl with
  | [], [], _, I, hst, _, eW, _ =>
    rw [decide_eq_false (by simp)]
    have : ys.length = (k.pre []).length := by
      have := I.le
      have h0 : (k.pre []).length - ys.length = 0 := hst
      omega
    have hr2 := I.rows
    rw [this] at hr2
    exact iteF (q ys H2 I.gr hr2)
  | pk :: st, tp1 :: tps, .cons he pr, I, hst, hstl, eW, _ => ?_
  rw [decide_eq_true (by simp)]
  refine iteT ⟨fun ys' σ' H' => ∃ st', stSum st' < stSum (pk :: st) ∧ EnInv c H t k F D W row st' ys' σ' H', fun ys' σ' H' ⟨st', h, i⟩ => ⟨_, h, st', rfl, i⟩, ?_⟩
  have eW' : H2 W = some (.lst (tps.reverse.map V.ref ++ [.ref tp1])) := by rw [eW, List.reverse_cons, List.map_append]; rfl
  obtain ⟨p1, k1⟩ := pk
  obtain ⟨hp1, ok1, dp1, sz1, e1, G1, et1, hn1, sub1⟩ := id he
  dsimp only at hp1 ok1 dp1 sz1 et1 hn1
  have tW : tp1 ≠ W := by rintro rfl; rw [et1] at eW'; cases eW'
  have gB3 : ∀ ws, GrowB D W H2 (upd H2 W (.lst ws)) := fun ws a o _ na z => by rw [upd_ne na]; exact z
  refine ⟨_, I.w, .inl ⟨rfl, _, SqL.of eW'⟩, W, _, .ref tp1, rfl, rfl, eW', by simp, ?_⟩
  rw [List.dropLast_concat]
  refine ⟨tp1, [.str (pj p1), .ref e1], rfl, .of (by rw [upd_ne tW]; exact et1), rfl, _, _, rfl, _, _, rfl, rfl, ?_⟩
  have hle := I.len
  have s2 : ((σ.set 2 (some (V.str (pj p1)))).set 3 (some (V.ref e1)))[2]? = some (some (V.str (pj p1))) := by
    rw [List.getElem?_set_ne (by decide), List.getElem?_set_self (by omega)]
  have s3 : ((σ.set 2 (some (V.str (pj p1)))).set 3 (some (V.ref e1)))[3]? = some (some (V.ref e1)) := by
    rw [List.getElem?_set_self (by rw [List.length_set]; omega)]
  have s1 : ((σ.set 2 (some (V.str (pj p1)))).set 3 (some (V.ref e1)))[1]? = some (some (V.ref W)) := by
    rw [List.getElem?_set_ne (by decide), List.getElem?_set_ne (by decide)]; exact I.w
  have l5 : ((σ.set 2 (some (V.str (pj p1)))).set 3 (some (V.ref e1))).length = 5 := by rw [List.length_set, List.length_set]; exact hle
  generalize ((σ.set 2 (some (V.str (pj p1)))).set 3 (some (V.ref e1))) = σ3 at s1 s2 s3 l5
  have pre1 : (k.pre []).drop ys.length = (p1, k1) :: (k1.2.pre p1 ++ st.flatMap fun pk => pk.2.pre pk.1) := I.pre.symm
  have hlt : ys.length < (k.pre []).length := by
    by_cases z : ys.length < (k.pre []).length
    · exact z
    · rw [List.drop_eq_nil_of_le (by omega)] at pre1; cases pre1
  refine ⟨Nat.lt_of_lt_of_le (show ys.length < 65 by omega) (small_line (by decide)), _, s2, _, s3, Nat.le_of_ble_eq_true rfl, fun yt hyt => ⟨?_, ?_⟩⟩
  · rw [eYP]
    refine ⟨yt, e1, (p1, k1), G1, rfl, upd_same, ?_, (hn1.keep fun b hb o z => ?_), fun z => dF (sub1 _ z), ?_⟩
    · have := congrArg (·[0]?) pre1
      rw [List.getElem?_drop] at this
      exact this
    · have nW : b ≠ W := fun y => wF (sub1 _ (by rw [← y]; exact hb))
      have z1 : upd H2 W (.lst (tps.reverse.map V.ref)) b = some o := by rw [upd_ne nW]; exact z
      rw [upd_ne (ne_of_none z1 hyt)]
      exact z1
    · obtain ⟨asr, r1, _⟩ := id I.rows
      refine I.rows.keep (D := D) (W := W) (fun a o na nw z => ?_) ?_ ⟨_, eW⟩
      · have z1 : upd H2 W (.lst (tps.reverse.map V.ref)) a = some o := by rw [upd_ne nw]; exact z
        rw [upd_ne (ne_of_none z1 hyt)]; exact z1
      · have z1 : upd H2 W (.lst (tps.reverse.map V.ref)) D = some (.lst (asr.map V.ref)) := by rw [upd_ne hDW]; exact r1
        rw [upd_ne (ne_of_none z1 hyt), upd_ne hDW]
  intro H5 hrh
  rw [eRH] at hrh
  obtain ⟨g5, hrow5⟩ := hrh
  generalize hH4 : upd (upd H2 W (.lst (tps.reverse.map V.ref))) yt (.tup [.str (pj p1), .ref e1]) = H4 at g5
  have eW4 : H4 W = some (.lst (tps.reverse.map V.ref)) := by
    rw [← hH4, upd_ne (ne_of_none upd_same hyt), upd_same]
  have g24 : ∀ a o, a ≠ W → H2 a = some o → H4 a = some o := fun a o nw z => by
    have z1 : upd H2 W (.lst (tps.reverse.map V.ref)) a = some o := by rw [upd_ne nw]; exact z
    rw [← hH4, upd_ne (ne_of_none z1 hyt)]; exact z1
  have eW5 : H5 W = some (.lst (tps.reverse.map V.ref)) := g5 W _ (Ne.symm hDW) eW4
  have g25 : GrowB D W H2 H5 := fun a o nd nw z => g5 a o nd (g24 a o nw z)
  have hD2 : ∃ xs, H2 D = some (.lst xs) := by obtain ⟨asr, r1, _⟩ := id I.rows; exact ⟨_, r1⟩
  have pr5 : Paired (Ent c H5 F) st tps := L2.Paired.mapP pr fun _ _ z => z.keep g25 dF wF hD2 ⟨_, eW⟩
  have hn5 : NodeAt c H5 e1 k1.1 k1.2 G1 := hn1.keep fun b hb o z => g25 b o (fun y => dF (sub1 _ (by rw [← y]; exact hb))) (fun y => wF (sub1 _ (by rw [← y]; exact hb))) z
  have gr5 : ∀ a o, a ≠ D → H a = some o → H5 a = some o := fun a o nd z => g25 a o nd (fun y => by rw [y, hW0] at z; cases z) (I.gr a o nd z)
  have pre2 : (k.pre []).drop (ys ++ [V.ref yt]).length = k1.2.pre p1 ++ st.flatMap fun pk => pk.2.pre pk.1 := by
    rw [List.length_append, List.length_singleton, ← List.drop_drop, pre1]; rfl
  have le2 : (ys ++ [V.ref yt]).length ≤ (k.pre []).length := by rw [List.length_append, List.length_singleton]; omega
  have ylen : (ys ++ [V.ref yt]).length = ys.length + 1 := by rw [List.length_append, List.length_singleton]
  obtain ⟨tt, htt, hho, _⟩ := hn5.hold Z
  refine ⟨_, s3, .ref e1, .ref c.Ho, tt, .ref c.Ho, k1.1.dir, rfl, .own _, htt, hho, k1.1.dir, rfl, ?_⟩
  rcases hn5.cases with ⟨hd, hc1, _⟩ | ⟨hd, dx1, m1, b1, kvs1, bs1, F1, hDr, eG1⟩
  · rw [hd]
    refine iteF ⟨st, ?_, s1, l5, hDW, wF, dF, hW0, gr5, by rw [ylen]; exact hrow5, ⟨tps, eW5, pr5⟩, ?_, le2⟩
    · show stSum st < 1 + k1.2.size + stSum st
      omega
    · rw [pre2, hc1]; rfl
  rw [hd]
  refine iteT ?_
  have hks64 : k1.2.names.length < 64 := Nat.lt_of_le_of_lt k1.2.names_le sz1
  refine ⟨_, s3, e1, dx1, _, rfl, hDr.obj, rfl, e1, dx1, b1, _, kvs1, k1.2.names, rfl, hDr.obj, hDr.dict, hDr.keys, ok1.2.2.pw, hks64, fun Lk H6 g6 hL eL => ⟨Lk, _, rfl, .inl (.of eL), fun l hl => ?_⟩⟩
  generalize hH7 : upd H6 l (.lst (k1.2.names.map V.str)) = H7
  have g67 : Grow H6 H7 := fun a o z => by rw [← hH7, upd_ne (ne_of_none z hl)]; exact z
  have g57 : Grow H5 H7 := fun a o z => g67 _ _ (g6 _ _ z)
  have el7 : H7 l = some (.lst (k1.2.names.map V.str)) := by rw [← hH7, upd_same]
  have lW : l ≠ W := fun y => by rw [y, g6 _ _ eW5] at hl; cases hl
  have lD : l ≠ D := fun y => by
    obtain ⟨asr, r1, _⟩ := id hrow5
    rw [y, g6 _ _ r1] at hl; cases hl
  refine ⟨l, k1.2.names.map V.str, rfl, .of el7, ?_⟩
  have hnl : (k1.2.names.map V.str).length = k1.2.kids.length := by rw [List.length_map, Fo.names_kids, List.length_map]
  have hkl : (kidsL p1 k1.2).length = k1.2.kids.length := by unfold kidsL; rw [List.length_map]
  refine for_it (walk_rev (K := K) (a := l) (xs := k1.2.names.map V.str)) (fun i σ' H' => σ'[1]? = some (some (.ref W)) ∧ σ'[2]? = some (some (.str (pj p1))) ∧ σ'[3]? = some (some (.ref e1)) ∧ σ'.length = 5 ∧ GrowB D W H5 H' ∧ RowsAt row H' D (ys.length + 1) ∧ H' l = some (.lst (k1.2.names.map V.str)) ∧
    ∃ tps' : List Addr, H' W = some (.lst ((tps'.reverse).map V.ref)) ∧ Paired (Ent c H' F) ((kidsL p1 k1.2).drop (k1.2.kids.length - i) ++ st) tps') ⟨s1, s2, s3, l5, fun a o _ _ z => g57 a o z, ?_, el7, tps, g57 _ _ eW5, ?_⟩ (fun i σ' H' _ z => .of z.2.2.2.2.2.2.1) ?_ ?_
  · obtain ⟨asr, r1, r2, r3⟩ := hrow5
    exact ⟨asr, g57 _ _ r1, r2, fun i a z => g57 _ _ (r3 i a z)⟩
  · rw [Nat.sub_zero, List.drop_eq_nil_of_le (by omega)]
    exact L2.Paired.mapP pr5 fun _ _ z => z.keep (D := D) (W := W) (fun a o _ _ z => g57 a o z) dF wF (by obtain ⟨asr, r1, _⟩ := id hrow5; exact ⟨_, r1⟩) ⟨_, eW5⟩
  · rintro i y σ' H8 H9 hi ⟨t1, t2, t3, l5', gB, rw8, el8, tps', eW8, pr8⟩ ⟨rfl, hy⟩
    rw [hnl] at hi hy
    have hj : k1.2.kids.length - 1 - i < k1.2.kids.length := by omega
    obtain ⟨nm, d', ch', hk'⟩ : ∃ n' d' ch', k1.2.kids[k1.2.kids.length - 1 - i]? = some (n', d', ch') := ⟨_, _, _, List.getElem?_eq_getElem hj⟩
    have hyn : y = .str nm := by
      rw [List.getElem?_map, Fo.names_kids, List.getElem?_map, hk'] at hy
      exact (Option.some.inj hy).symm
    subst hyn
    have hn8 : NodeAt c H9 e1 k1.1 k1.2 G1 := hn5.keep fun b hb o z => gB b o (fun y => dF (sub1 _ (by rw [← y]; exact hb))) (fun y => wF (sub1 _ (by rw [← y]; exact hb))) z
    rcases hn8.cases with ⟨hd0, _⟩ | ⟨_, dx8, m8, b8, kvs8, bs8, F8, hD8, eG8⟩
    · rw [hd] at hd0; cases hd0
    obtain ⟨e', G', hb', hne', hG'⟩ := hD8.fo.kid hk'
    obtain ⟨w1, w2, w3, w4, w5, w6⟩ := Fo.kid_wf ok1.2.2 _ (List.mem_of_getElem? hk')
    dsimp only at w1 w2 w3 w4 w5 w6
    have u1 : (σ'.set 4 (some (V.str nm)))[1]? = some (some (V.ref W)) := by rw [List.getElem?_set_ne (by decide)]; exact t1
    have u2 : (σ'.set 4 (some (V.str nm)))[2]? = some (some (V.str (pj p1))) := by rw [List.getElem?_set_ne (by decide)]; exact t2
    have u3 : (σ'.set 4 (some (V.str nm)))[3]? = some (some (V.ref e1)) := by rw [List.getElem?_set_ne (by decide)]; exact t3
    have u4 : (σ'.set 4 (some (V.str nm)))[4]? = some (some (V.str nm)) := List.getElem?_set_self (by omega)
    have hl8 := paired_len pr8
    have hstl2 : tps'.length ≤ 200 := by
      rw [← hl8, List.length_append, List.length_drop, hkl]
      have h1 : k1.2.kids.length ≤ k1.2.size := by have := k1.2.names_le; rw [Fo.names_kids, List.length_map] at this; exact this
      have h2 : st.length < (tp1 :: tps).length := by have := paired_len pr; show st.length < tps.length + 1; omega
      have h3 : st.length + 1 ≤ stSum ((p1, k1) :: st) := hstl
      have h4 : (k.pre []).length - ys.length ≤ 65 := by omega
      omega
    refine ⟨_, u1, .inl ⟨rfl, _, SqL.of eW8⟩, _, u2, _, u4, p1, nm, rfl, hp1, w1, by omega, _, u3, _, u4, e1, dx8, _, rfl, hD8.obj, e1, dx8, b8, _, kvs8, nm, .ref e', rfl, hD8.obj, hD8.dict, ?_, Nat.le_of_ble_eq_true rfl, fun tpn htpn => ⟨W, tps'.reverse.map V.ref, .ref tpn, rfl, rfl, ?_, ?_, ?_⟩⟩
    · rw [hD8.get ok1.2.2, lookup_of_nodup (hD8.nd ok1.2.2) hb']; rfl
    · rw [upd_ne (ne_of_none eW8 htpn)]; exact eW8
    · rw [List.length_map, List.length_reverse]
      exact Nat.lt_of_lt_of_le (show tps'.length < 201 by omega) (small_line (by decide))
    · have gB9 : GrowB D W H9 (upd (upd H9 tpn (.tup [.str (pj (p1 ++ [nm])), .ref e'])) W (.lst (tps'.reverse.map V.ref ++ [.ref tpn]))) := fun a o na nw z => by
        rw [upd_ne nw, upd_ne (ne_of_none z htpn)]; exact z
      have ntW : tpn ≠ W := Ne.symm (ne_of_none eW8 htpn)
      obtain ⟨as8, r8, _⟩ := id rw8
      refine ⟨u1, u2, u3, by rw [List.length_set]; exact l5', fun a o na nw z => gB9 a o na nw (gB a o na nw z), rw8.keep gB9 ?_ ⟨_, eW8⟩, gB9 _ _ lD lW el8, tpn :: tps', ?_, ?_⟩
      · rw [upd_ne hDW, upd_ne (ne_of_none r8 htpn)]
      · rw [upd_same, List.reverse_cons, List.map_append]; rfl
      · have hdr : (kidsL p1 k1.2).drop (k1.2.kids.length - (i + 1)) = (p1 ++ [nm], (d', ch')) :: (kidsL p1 k1.2).drop (k1.2.kids.length - i) := by
          have e0 : k1.2.kids.length - (i + 1) = k1.2.kids.length - 1 - i := by omega
          have e2 : k1.2.kids.length - i = k1.2.kids.length - 1 - i + 1 := by omega
          have hlt2 : k1.2.kids.length - 1 - i < (kidsL p1 k1.2).length := by omega
          rw [e0, e2, List.drop_eq_getElem_cons hlt2]
          congr 1
          have : (kidsL p1 k1.2)[k1.2.kids.length - 1 - i]? = some (p1 ++ [nm], (d', ch')) := by
            unfold kidsL
            rw [List.getElem?_map, hk']; rfl
          rw [List.getElem?_eq_getElem hlt2] at this
          exact Option.some.inj this
        rw [hdr]
        refine .cons ⟨fun n hn => ?_, ⟨w2, w3, w4⟩, ?_, by dsimp only; omega, e', G', ?_, hne'.keep fun b hb o z => ?_, fun b hb => sub1 b (by rw [eG8]; simp [hG' b hb])⟩ (L2.Paired.mapP pr8 fun _ _ z => z.keep gB9 dF wF ⟨_, r8⟩ ⟨_, eW8⟩)
        · rcases List.mem_append.mp hn with z | z
          · exact hp1 n z
          · rw [List.mem_singleton.mp z]; exact w1
        · dsimp only at dp1 ⊢
          rw [List.length_append, List.length_singleton]; omega
        · rw [upd_ne ntW, upd_same]
        · have bF : b ∈ F := sub1 b (by rw [eG8]; simp [hG' b hb])
          exact gB9 b o (fun y => dF (by rw [← y]; exact bF)) (fun y => wF (by rw [← y]; exact bF)) z
  · rintro σ' H8 ⟨t1, t2, t3, l5', gB, rw8, el8, tps', eW8, pr8⟩
    rw [hnl, Nat.sub_self, List.drop_zero] at pr8
    refine ⟨kidsL p1 k1.2 ++ st, ?_, t1, l5', hDW, wF, dF, hW0, fun a o na z => gB a o na (fun y => by rw [y, hW0] at z; cases z) (gr5 a o na z), by rw [ylen]; exact rw8, ⟨tps', eW8, pr8⟩, ?_, le2⟩
    · show ((kidsL p1 k1.2 ++ st).map fun pk => 1 + pk.2.2.size).sum < 1 + k1.2.size + stSum st
      rw [List.map_append, List.sum_append, k1.2.size_kids]
      show ((k1.2.kids.map fun k => (p1 ++ [k.1], k.2)).map fun pk => 1 + pk.2.2.size).sum + stSum st < _
      rw [List.map_map]
      show (k1.2.kids.map fun k => 1 + k.2.2.size).sum + stSum st < _
      omega
    · rw [List.flatMap_append, ← Fo.pre_kids, pre2]
end
end K18
namespace K18
open PySem PySem.Spec PyProof.Rows L2 NdefX StX
def tOr (t u : TE) : TE := fun σ H Q => t σ H Q ∨ u σ H Q
theorem gor {X : Cx} {e : Expr} {t u : TE} (a : PEg X e t) (b : PEg X e u) : PEg X e (tOr t u) := ⟨fun pins s σ H Q I h => h.elim (a.run pins s σ H Q I) (b.run pins s σ H Q I)⟩
theorem pe_alt {X : Cx} {e : Expr} {t u : TE} (a : PE X e t) (b : PE X e u) : PE X e (tOr t u) := ⟨fun pins s σ H Q I h => h.elim (a.run pins s σ H Q I) (b.run pins s σ H Q I)⟩
def rowV (pk : List Str × Nd) : List V := [.str (pj pk.1), .str (formOf pk.2.1), .int pk.2.1.mode, .str pk.2.1.own, .str pk.2.1.grp]
section
variable {P : Program} {w : World} {K : PySem.W.Frag} {mg : Str → Option Value} {base : Heap} {c : Ad}
theorem nd_mode {i : Nat} {σ : L2.St} {H : Hp} {e : Addr} {d : Dat} {ch : Fo} {G : List Addr} {Q : VK} (hn : NodeAt c H e d ch G) (hs : σ[i]? = some (some (.ref e))) (q : ∀ m, m ∈ G → MoAt c H m d.mode → Q (.ref m) H) : tOr (tPr c.F (spFld c.F "mode_now") (tVar i)) (tPr c.D (spFld c.D "mode_now") (tVar i)) σ H Q := by
  rcases hn.cases with ⟨_, _, dx, m, hm, he, eG⟩ | ⟨_, dx, m, b, kvs, bs, F1, hD, eG⟩
  · exact .inl ⟨_, hs, e, dx, _, rfl, he, e, dx, _, .ref m, rfl, he, rfl, q m (by rw [eG]; simp) hm⟩
  · exact .inr ⟨_, hs, e, dx, _, rfl, hD.obj, e, dx, _, .ref m, rfl, hD.obj, rfl, q m (by rw [eG]; simp) hD.mo⟩
theorem nd_owner {i : Nat} {σ : L2.St} {H : Hp} {e : Addr} {d : Dat} {ch : Fo} {G : List Addr} {Q : VK} (hn : NodeAt c H e d ch G) (hs : σ[i]? = some (some (.ref e))) (q : Q (.str d.own) H) : tOr (tPr c.F (spFld c.F "own_owner") (tVar i)) (tPr c.D (spFld c.D "own_owner") (tVar i)) σ H Q := by
  rcases hn.cases with ⟨_, _, dx, m, hm, he, eG⟩ | ⟨_, dx, m, b, kvs, bs, F1, hD, eG⟩
  · exact .inl ⟨_, hs, e, dx, _, rfl, he, e, dx, _, _, rfl, he, rfl, q⟩
  · exact .inr ⟨_, hs, e, dx, _, rfl, hD.obj, e, dx, _, _, rfl, hD.obj, rfl, q⟩
theorem nd_group {i : Nat} {σ : L2.St} {H : Hp} {e : Addr} {d : Dat} {ch : Fo} {G : List Addr} {Q : VK} (hn : NodeAt c H e d ch G) (hs : σ[i]? = some (some (.ref e))) (q : Q (.str d.grp) H) : tOr (tPr c.F (spFld c.F "own_group") (tVar i)) (tPr c.D (spFld c.D "own_group") (tVar i)) σ H Q := by
  rcases hn.cases with ⟨_, _, dx, m, hm, he, eG⟩ | ⟨_, dx, m, b, kvs, bs, F1, hD, eG⟩
  · exact .inl ⟨_, hs, e, dx, _, rfl, he, e, dx, _, _, rfl, he, rfl, q⟩
  · exact .inr ⟨_, hs, e, dx, _, rfl, hD.obj, e, dx, _, _, rfl, hD.obj, rfl, q⟩
theorem nd_form {i : Nat} {σ : L2.St} {H : Hp} {e : Addr} {d : Dat} {ch : Fo} {G : List Addr} {Q : VK} (hn : NodeAt c H e d ch G) (hs : σ[i]? = some (some (.ref e))) (q : Q (.str (formOf d)) H) : tOr (tPr c.F (spForm c) (tVar i)) (tPr c.D (spForm c) (tVar i)) σ H Q := by
  rcases hn.cases with ⟨_, _, dx, m, hm, he, eG⟩ | ⟨_, dx, m, b, kvs, bs, F1, hD, eG⟩
  · exact .inl ⟨_, hs, e, dx, _, rfl, he, e, d, ch, G, rfl, hn, q⟩
  · exact .inr ⟨_, hs, e, dx, _, rfl, hD.obj, e, d, ch, G, rfl, hn, q⟩
/-! ### Tree.rows -/
def spRows (c : Ad) : Sp := fun vs H Q _ => ∃ (t : Addr) (k : Nd) (F : List Addr), vs = [.ref t] ∧ TreeAt c H t k F ∧ Fo.NdOk k ∧ k.2.depth ≤ 12 ∧ k.2.size < 64 ∧
  ∀ (H' : Hp) (L : Addr) (as : List Addr), Grow H H' → H' L = some (.lst (as.map V.ref)) → as.length = (k.pre []).length → (∀ (i : Nat) (a : Addr) (pk : List Str × Nd), as[i]? = some a → (k.pre [])[i]? = some pk → H' a = some (.tup (rowV pk))) → Q (.ref L) H'
abbrev NRo : List Str := ["self", "path", "entry"]
theorem sc_rows : FnScope NRo ["self"] (defScope s_Tree_rows) := ⟨rfl, rfl, rfl, by decide +kernel, rfl, by decide +kernel, by decide +kernel⟩
theorem me_rows (B : Bt mg) (Z : Cs K mg c) (L : Lv P w K mg base c) (DE : Mn K c.T "entries" "Tree.entries" s_Tree_entries) (D : Mn K c.T "rows" "Tree.rows" s_Tree_rows) : Me P w K mg base CX0 22 c.T "rows" (spRows c) := by
  obtain ⟨fe, fde, Fe, Me'⟩ := DE
  have HF := hf_entries (P := P) (w := w) (base := base) B Z L Fe
  refine me_ok (k := 21) Z.oT D sc_rows (fun _ _ _ _ _ _ us hl => match us, hl with | [_], _ => rfl) (fun vs H Q E h => ?_) (fun f cdv A outer s H vs Q E hr h => ?_)
  · obtain ⟨t, k, F, rfl, _⟩ := h
    rfl
  · obtain ⟨t, k, F, rfl, hT, hk, hdp, hsz, q⟩ := h
    refine ⟨_, pss_one (ps_ret (pe_lcg (k := 20) (kr := 21) (own := [("path", 1), ("entry", 2)]) (i := 1) (j := 2) rfl sc_rows.nd hr (by decide) (phen_meth0 (pv 0) Z.oT.cls Me' HF hr (by decide) (Fe.binds (fun _ _ _ _ _ _ us hl => match us, hl with | [_], _ => rfl)) rfl)
      (blkOk_by (own := [("path", 1), ("entry", 2)]) (N := NRo) (sc := defScope s_Tree_rows) (by decide +kernel)) (by decide +kernel) rfl rfl rfl rfl (by decide) (by decide)
      (fun s H C cl => gtup (gcons (gvar 1) (gcons (gor (gpg L.pF.form hr (by decide) (gvar 2) rfl) (gpg L.pD.form hr (by decide) (gvar 2) rfl))
        (gcons (gpg L.mnu hr (by decide) (gor (gpg L.pF.mode hr (by decide) (gvar 2) rfl) (gpg L.pD.mode hr (by decide) (gvar 2) rfl)) rfl)
        (gcons (gor (gpg L.pF.owner hr (by decide) (gvar 2) rfl) (gpg L.pD.owner hr (by decide) (gvar 2) rfl))
        (gcons (gor (gpg L.pF.group hr (by decide) (gvar 2) rfl) (gpg L.pD.group hr (by decide) (gvar 2) rfl)) gnil)))))))), ?_⟩
    obtain ⟨dx, top, eT, hn, nd, nt⟩ := id hT
    refine ⟨_, rfl, t, dx, _, rfl, eT, rfl, fun D C hD hC hDC => ?_⟩
    have gD : Grow H (upd H D (.lst [])) := fun a o z => by rw [upd_ne (ne_of_none z hD)]; exact z
    have dF : D ∉ F := fun z => by obtain ⟨o, y⟩ := hn.trk D z; rw [hD] at y; cases y
    let row : Nat → List V := fun i => match (k.pre [])[i]? with | some pk => rowV pk | none => []
    refine ⟨⟨[C], ypE c k D row, rhE D row⟩, fun ys H' => (∀ a o, a ≠ D → upd H D (.lst []) a = some o → H' a = some o) ∧ RowsAt row H' D (k.pre []).length, rfl, ⟨t, k, F, D, row, rfl, hT.grow gD, hk, hdp, hsz, dF, ⟨[], upd_same, rfl, fun i a z => by simp at z⟩, rfl, rfl, fun ys H' g r => ⟨g, r⟩⟩, ?_, ?_⟩
    · rintro ys x H2 ⟨tp, e, pk, G, rfl, etp, hpk, hn2, dG, hrow⟩
      refine ⟨tp, .str (pj pk.1), .ref e, rfl, etp, ?_⟩
      refine ⟨_, rfl, ?_⟩
      refine nd_form (i := 2) hn2 rfl ?_
      refine nd_mode (i := 2) hn2 rfl fun m hm hmo => ?_
      obtain ⟨hm1, dm, hm2⟩ := id hmo
      refine ⟨m, dm, _, rfl, hm2, m, _, rfl, hmo, ?_⟩
      refine nd_owner (i := 2) hn2 rfl ?_
      refine nd_group (i := 2) hn2 rfl ?_
      refine ⟨Nat.le_of_ble_eq_true rfl, fun T hT => ?_⟩
      obtain ⟨as, r1, r2, r3⟩ := hrow
      have gT : Grow H2 (upd H2 T (.tup (rowV pk))) := fun a o z => by rw [upd_ne (ne_of_none z hT)]; exact z
      have hlt : ys.length < (k.pre []).length := (List.getElem?_eq_some_iff.mp hpk).1
      have hpl : (k.pre []).length = 1 + k.2.size := by show (k.2.pre []).length + 1 = _; rw [Fo.pre_len]; omega
      refine ⟨as.map V.ref, gT _ _ r1, ?_, fun a o na z => ?_, as ++ [T], ?_, ?_, fun i a ha => ?_⟩
      · rw [List.length_map, r2]
        exact Nat.lt_of_lt_of_le (show ys.length < 65 by omega) (small_line (by decide))
      · rw [upd_ne na]; exact gT _ _ z
      · rw [upd_same, List.map_append]; rfl
      · rw [List.length_append, r2]; rfl
      · have nTD : T ≠ D := Ne.symm (ne_of_none r1 hT)
        by_cases hi : i < as.length
        · rw [List.getElem?_append_left hi] at ha
          have := r3 i a ha
          rw [upd_ne (fun y => by rw [y, r1] at this; cases this)]
          exact gT _ _ this
        · have hi2 : i = as.length := by
            have := (List.getElem?_eq_some_iff.mp ha).1
            rw [List.length_append, List.length_singleton] at this; omega
          subst hi2
          rw [List.getElem?_append_right (Nat.le_refl _), Nat.sub_self] at ha
          cases ha
          rw [upd_ne nTD, upd_same]
          show some (HO.tup (rowV pk)) = some (HO.tup (match (k.pre [])[as.length]? with | some pk => rowV pk | none => []))
          rw [r2, hpk]
    · rintro ys H2 ⟨g, as, e1, e2, e3⟩
      refine q H2 D as (fun a o z => g a o (ne_of_none z hD) (gD a o z)) e1 e2 fun i a pk ha hp => ?_
      have := e3 i a ha
      rw [this]
      show some (HO.tup (match (k.pre [])[i]? with | some pk => rowV pk | none => [])) = _
      rw [hp]
end
end K18
namespace PySem.W
open PySem PySem.Calls PyProof.Rows PyProof.V PySem.Spec
section
variable {prog : Program} {w : World} {K : Type} [DecidableEq K] {knd : KeyKind prog w K} {A : Around} {E : Value → Shared → Prop} {s : Shared}
/-- two dicts with the same keys, pair by pair; the pairs' comparisons may run code: J stands throughout -/
theorem samePairsG {nm : String} {a b : Addr} {ka kb : List (K × Value)} {Q : Bool → Shared → Prop} (ha : (a == sysModules) = false) (hb : (b == sysModules) = false) {oa ob : Obj} (J : Shared → Prop) (hJ : ∀ s', J s' → s'.heap.get? a = some oa ∧ s'.heap.get? b = some ob)
    (da : oa.IsDictOf knd ka) (db : ob.IsDictOf knd kb) (hs : J s) (len : ka.length = kb.length) (turn : ∀ k v, (k, v) ∈ ka → ∃ y, valueAt kb k = some y ∧ ∀ s', J s' → wpAny (model prog w) A (eqBool v y) (fun r s2 => r = true ∧ J s2) E s') (h : ∀ s', J s' → Q true s') :
    wpAny (model prog w) A (Builtin.Dict.samePairs nm a b) Q E s := by
  obtain ⟨es, ep, _, hda, hka, hpa, _⟩ := da
  obtain ⟨es', ep', _, hdb, hkb, hpb, _⟩ := db
  obtain ⟨hoa, hob⟩ := hJ s hs
  have hla : ka.length = es.size := by rw [← hpa.length]; exact Array.length_toList
  have hlb : kb.length = es'.size := by rw [← hpb.length]; exact Array.length_toList
  have hsz : es.size = es'.size := by rw [← hla, ← hlb]; exact len
  have hfind : ∀ k, findBy knd.is es' k = valueAt kb k := fun k => by
    rw [← hpb.find k]
    clear hlb hpb hkb hdb hob hJ hsz
    obtain ⟨l⟩ := es'
    simp [findBy]
  unfold Builtin.Dict.samePairs Builtin.Dict.showsAll
  rw [if_neg (show ¬ (a == sysModules) = true by rw [ha]; exact Bool.false_ne_true), if_neg (show ¬ (b == sysModules) = true by rw [hb]; exact Bool.false_ne_true)]
  refine wpAny_bind (wpAny_pure (wpAny_bind (wpAny_pure ?_)))
  refine wpAny_bind (wpAny_dictEntries hoa hda ?_)
  dsimp only
  refine wpAny_bind (wpAny_dictEntries hob hdb ?_)
  rw [if_neg (by rw [hsz]; simp)]
  refine wpAny_bind (wpAny_dictEpoch hoa hda ?_)
  refine wpAny_bind ?_
  rw [Std.Legacy.Range.forIn_eq_forIn_range']
  simp only [Std.Legacy.Range.size, Nat.sub_zero, Nat.add_sub_cancel, Nat.div_one]
  refine wpAny_forIn_list _
    (fun rest q s' => J s' ∧ q = (none, ()) ∧ ∃ i, rest = List.range' i (es.size - i) ∧ i ≤ es.size)
    _ ?_ ?_ _ _ ⟨hs, rfl, 0, by simp, Nat.zero_le _⟩
  · rintro x rest q s' ⟨hj', rfl, i, hr, hi⟩
    obtain ⟨hoa', hob'⟩ := hJ s' hj'
    have hlt : i < es.size := by
      rcases Nat.lt_or_ge i es.size with h | h
      · exact h
      · rw [Nat.sub_eq_zero_of_le h] at hr; simp at hr
    obtain ⟨rfl, hrest⟩ : x = i ∧ rest = List.range' (i + 1) (es.size - (i + 1)) := by
      have e : es.size - i = (es.size - (i + 1)) + 1 := by omega
      rw [e, List.range'_succ] at hr
      injection hr with h1 h2
      exact ⟨h1, h2⟩
    refine wpAny_bind (wpAny_dictEntries hoa' hda ?_)
    rw [Array.getElem?_eq_getElem hlt]
    have hlt' : x < ka.length := by rw [hla]; exact hlt
    obtain ⟨k, v, hkv⟩ : ∃ k v, ka[x] = (k, v) := ⟨_, _, rfl⟩
    have hmem : (k, v) ∈ ka := by rw [← hkv]; exact List.getElem_mem hlt'
    obtain ⟨hkey, hval⟩ := hpa.get? (i := x) (e := es[x]) (k := k) (v := v) (by rw [Array.getElem?_toList]; exact Array.getElem?_eq_getElem hlt) (by rw [List.getElem?_eq_getElem hlt', hkv])
    obtain ⟨k', hk', hh⟩ := hka es[x] (Array.getElem_mem hlt)
    have ekk : k' = k := knd.inj _ _ _ hk' hkey
    rw [ekk] at hh
    show wpAny _ _ (holding [es[x].key, es[x].val] _ >>= _) _ _ _
    rw [hh]
    refine wpAny_bind (wpAny_holding (wpAny_bind (wpAny_dictFind_of hkey hob' hdb hkb ?_)))
    obtain ⟨y, hy, hturn⟩ := turn k v hmem
    cases hj : es'.findIdx? fun e => knd.is k e.key with
    | none =>
      have hn : valueAt kb k = none := by rw [← hfind k, findBy_of_findIdx?, hj]
      rw [hn] at hy; exact nomatch hy
    | some j =>
      obtain ⟨hjlt, _, _⟩ := Array.findIdx?_eq_some_iff_getElem.mp hj
      have hv' : valueAt kb k = some es'[j].val := by
        rw [← hfind k, findBy_of_findIdx?, hj]
        simp [Array.getElem?_eq_getElem hjlt]
      refine wpAny_bind (wpAny_dictEntries hob' hdb ?_)
      rw [Array.getElem?_eq_getElem hjlt]
      have ey : es'[j].val = y := Option.some.inj (hv'.symm.trans hy)
      rw [← ey, ← hval] at hturn
      refine wpAny_holding (wpAny_mono (hturn s' hj') (fun r s2 h2 => ?_) fun _ _ z => z)
      obtain ⟨rfl, hj2⟩ := h2
      obtain ⟨hoa2, hob2⟩ := hJ s2 hj2
      show wpAny _ _ (if (!true) = true then _ else _) _ _ _
      rw [if_neg (by decide)]
      refine wpAny_bind (wpAny_dictEpoch hoa2 hda ?_)
      rw [if_neg (by simp)]
      exact wpAny_pure ⟨hj2, rfl, x + 1, hrest, hlt⟩
  · rintro q s' ⟨hj', rfl, i, hr, hi⟩
    exact wpAny_pure (h s' hj')
theorem rc_dictG {a b : Addr} {ka kb : List (K × Value)} {Q : Value → Shared → Prop} (ha : (a == sysModules) = false) (hb : (b == sysModules) = false) {oa ob : Obj} (J : Shared → Prop) (hJ : ∀ s', J s' → s'.heap.get? a = some oa ∧ s'.heap.get? b = some ob)
    (da : oa.IsDictOf knd ka) (db : ob.IsDictOf knd kb) (hs : J s) (hu : A.units < cLine) (len : ka.length = kb.length) (turn : ∀ k v, (k, v) ∈ ka → ∃ y, valueAt kb k = some y ∧ ∀ s', J s' → wpAny (model prog w) A.in1 (eqBool v y) (fun r s2 => r = true ∧ J s2) E s') (h : ∀ s', J s' → Q (.bool true) s') :
    wpAny (model prog w) A (richCompare .Eq (.ref a) (.ref b)) Q E s := by
  have Da : s.heap.DictOf knd a ka := Heap.dictOf_iff.mpr ⟨oa, (hJ s hs).1, da⟩
  have Db : s.heap.DictOf knd b kb := Heap.dictOf_iff.mpr ⟨ob, (hJ s hs).2, db⟩
  refine wpAny_richCompare_same_room (op := .Eq) Da.typeIs Db.typeIs PySem.F.slot_dict_eq (wpAny_call_entry PySem.F.slot_dict_eq Da.typeIs PySem.F.entry_dict_eq ?_ (PySem.F.args_dict_eq_2 _ _)) hu
  show wpAny _ _ (Builtin.Dict.dictSlotArgs "__eq__" ⟨[.ref a, .ref b], []⟩ >>= _) _ _ s
  refine wpAny_bind ?_
  unfold Builtin.Dict.dictSlotArgs
  refine wpAny_bind (wpAny_notOrdered_dict Da.typeIs ?_)
  show wpAny _ _ (pure (Value.ref a, Value.ref b)) _ _ s
  refine wpAny_pure ?_
  refine wpAny_bind (wpAny_isInstance (T := "dict") Db.typeIs PySem.F.sub_dict_dict ?_)
  simp only [Bool.not_true, Bool.false_eq_true, if_false]
  refine wpAny_bind (wpAny_pure (wpAny_bind (wpAny_pure ?_)))
  refine wpAny_bind (samePairsG ha hb J hJ da db hs len turn fun s' hj => ?_)
  refine wpAny_pure ⟨_, rfl, ?_, ?_⟩
  · exact fun x => nomatch x
  · exact h s' hj
end
end PySem.W
namespace PySem
namespace K18N
open PySem.W PySem.Calls PyProof.Rows
section
variable {prog : Program} {w : World} {M : Model} {A A₀ : Around} {E : Value → Shared → Prop} {s : Shared} {K : Frag} {x C L f : Addr} {h₀ : Heap} {m : Str → Option Value} {ox : Obj} {od : Option Obj} {name : Str} {b tb : Value}
theorem ifBound_B {args : List Value} {id : String} {Q : Option Value → Shared → Prop} (X : K.In s.heap) (I : InstAt s.heap x ox C od) (hs : findIn K (.ref C) name = some (some (.builtin id))) {T : String} (S : Slot T name id)
    (h : wpAny M A (call (.builtin id) (.ref x :: args)) (fun v => Q (some v)) E s) : wpAny M A (callSpecialIfBound? (.ref x) name args) Q E s := by
  simp only [callSpecialIfBound?, bindSpecialIfBound?]
  refine wpAny_holding (wpAny_bind (wpAny_bind (wpAny_bind (I.type.here ((looks_findIn X hs).here ?_)))))
  refine wpAny_bind (wpAny_askSetting (wpAny_ite ?_))
  have fin : wpAny M A (call (.builtin id) ([.ref x] ++ args) >>= fun v => pure (some v)) Q E s := wpAny_bind (wpAny_mono h (fun v s' h' => wpAny_pure h') fun _ _ h' => h')
  simp only [S.bind]
  split
  · exact wpAny_bind (wpAny_pure (wpAny_pure (by exact fin)))
  · exact wpAny_tryCatch (wpAny_bind (wpAny_pure (wpAny_pure (by exact fin))))
theorem check_ne {Q : Unit → Shared → Prop} (hin : W.Looks M s.heap (isInstance (.ref x) (.type "object")) true) (hq : Q () s) : wpAny M A (checkBuiltinCall "object.__ne__" ⟨[.ref x, b], []⟩) Q E s := by
  simp only [checkBuiltinCall, F.cmpKind_ne, F.cmpSplit_ne]
  refine wpAny_bind (hin.at ?_)
  have ha := F.cmpArgs_ne (.ref x) b
  cases hsig : Manifest.signature? "object.__ne__" with
  | none => exact wpAny_pure hq
  | some sig =>
    simp only [argsOk, hsig] at ha
    have h2 : Bind.checkArgs "object.__ne__" sig ⟨[.ref x, b], []⟩ = pure () := ha
    show wpAny M A (Bind.checkArgs "object.__ne__" sig ⟨[.ref x, b], []⟩) Q E _
    rw [h2]; exact wpAny_pure hq
/-- x != b, no own __ne__: object.__ne__ asks the own __eq__ -/
theorem ne_own {Q : Value → Shared → Prop} (hu : A.units < cLine) (hu1 : A.in1.units < cLine) (F0 : Fr h₀ L s.heap m) (X₀ : K.In h₀) (I : InstAt s.heap x ox C od) (hb : Looks (model prog w) s.heap (typeOf b) tb) (hn : notFirst K C tb = true)
    (hne : findIn K (.ref C) "__ne__" = some (some (.builtin "object.__ne__"))) (hob : mroIn K C (.type "object") = some true)
    (hs : findIn K (.ref C) "__eq__" = some (some (.ref f))) (hf : isFn K (.ref f) = true)
    (h : wpAny (model prog w) A.in1 (call (.ref f) [.ref x, b]) (fun v s' => ∃ r, v = .bool r ∧ Q (.bool (!r)) s') E s) : wpAny (model prog w) A (richCompare .NotEq (.ref x) b) Q E s := by
  have X := X₀.keeps F0.keep
  have hin : W.Looks (model prog w) s.heap (isInstance (.ref x) (.type "object")) true := I.type.andThen (looks_mroIn X hob)
  have one : wpAny (model prog w) A (tryCompare (.ref x) "__ne__" b) (fun r s' => ∃ v, r = some v ∧ Q v s') E s := by
    unfold tryCompare
    refine wpAny_bind (ifBound_B X I hne F.cmp_object.ne ?_)
    refine wpAny_call (codeAny_call_builtin F.cmp_object.ne.plain F.cmpEntry_ne (check_ne hin ?_))
    show wpAny _ A.in1 (Builtin.«object.__ne__» ⟨[.ref x, b], []⟩) _ _ _
    unfold Builtin.«object.__ne__»
    refine wpAny_bind (wpAny_pure ?_)
    refine wpAny_bind (wpAny_cRoomFor hu1 ?_)
    refine wpAny_bind (ifBound_K X I hs hf (wpAny_mono h (fun v s' hv => ?_) fun _ _ e => e))
    obtain ⟨r, rfl, q⟩ := hv
    refine wpAny_bind (wpAny_truthy_bool ?_)
    exact wpAny_pure (wpAny_pure ⟨_, rfl, q⟩)
  unfold richCompare
  simp only [oneThing_ref]
  refine wpAny_holding (wpAny_bind (wpAny_cRoomFor hu ?_))
  refine wpAny_bind (I.type.here (wpAny_bind (hb.here ?_)))
  split
  · rename_i q
    have e : subIn K tb (.ref C) = some false := by
      rcases Bool.or_eq_true_iff.mp hn with e | e
      · rw [beq_iff_eq.mp e] at q; simp at q
      · exact beq_iff_eq.mp e
    refine wpAny_bind ((looks_subIn X e).here ?_)
    simp only [Bool.false_eq_true, if_false]
    refine wpAny_bind (wpAny_mono one (fun r s' z => ?_) fun _ _ e => e)
    obtain ⟨v, rfl, hq⟩ := z
    exact wpAny_pure hq
  · refine wpAny_bind (wpAny_pure ?_)
    simp only [Bool.false_eq_true, if_false]
    refine wpAny_bind (wpAny_mono one (fun r s' z => ?_) fun _ _ e => e)
    obtain ⟨v, rfl, hq⟩ := z
    exact wpAny_pure hq
end
end K18N
end PySem
namespace K18
open PySem PySem.Spec PyProof.Rows L2 NdefX StX
/-- what the text's == of a class needs where != is asked -/
structure NeC (K : PySem.W.Frag) (C : Addr) : Prop where
  ne : PySem.W.findIn K (.ref C) "__ne__" = some (some (.builtin "object.__ne__"))
  ob : PySem.W.mroIn K C (.type "object") = some true
def rEqO (C : Addr) (sp : Sp) : R2 := fun x y H Q => ∃ a b dx dy fs gs, x = .ref a ∧ y = .ref b ∧ H a = some (.ins C dx fs) ∧ H b = some (.ins C dy gs) ∧ sp [.ref a, .ref b] H (fun v H1 => ∃ r, v = .bl r ∧ Q (.bl r) H1) E0
def rNeO (C : Addr) (sp : Sp) : R2 := fun x y H Q => ∃ a b dx dy fs gs, x = .ref a ∧ y = .ref b ∧ H a = some (.ins C dx fs) ∧ H b = some (.ins C dy gs) ∧ sp [.ref a, .ref b] H (fun v H1 => ∃ r, v = .bl r ∧ Q (.bl (!r)) H1) E0
section
variable {X : Cx} {C : Addr} {j k : Nat} {sp : Sp} {pins : List (Addr × Obj)} {σ : L2.St} {H : Hp} {s : Shared}
theorem run_duA {CX : CXT} {A : Around} {E : XK} {f : Addr} {fd : FuncData} {ps : List Str} {us : List Value} {vs : List V} {Q : VK} (F : FnOk X.prog X.w X.K X.mg X.base CX k f fd ps sp) (sb : Sub X k A) (hb : Binds X.K fd ps []) (hx : Passes CX X E) (I : L2.Inv X pins σ H s) (r : Vals vs us) (h : sp vs H Q E) :
    wpAny (model X.prog X.w) A (call (.ref f) us) (EP X pins σ Q) X.xe s := by
  have e0 : Env0 X.prog X.w X.K X.mg X.base A X.stack s H := by
    have e := I.env0
    exact ⟨by rw [sb.fr]; exact e.frames, e.mod, e.bs, e.bsz, e.funs, e.frf, e.hok, e.bare⟩
  have hl := F.len _ _ _ _ h
  refine wpAny_call (codeAny_mono (F.run A X.stack s H ⟨us, []⟩ us vs Q E sb.room e0 (by
    have := hb s us I.kIn (by simp; rw [← r.length, hl])
    simpa using this) r h) fun r s' hq => ?_)
  cases r with
  | error e => exact hx pins σ H s e s' I hq
  | ok fl =>
    cases fl with
    | ret w =>
      obtain ⟨z, H', I', rz, q⟩ := I.after hq
      exact ⟨z, H', I', rz, q⟩
    | next => exact False.elim hq
    | brk => exact False.elim hq
    | cont => exact False.elim hq
theorem rc_eqO {CX : CXT} {A : Around} {E : XK} {n : Nat} {x y : V} {u v : Value} {Q : VK} (c : Du X.prog X.w X.K X.mg X.base CX k C "__eq__" sp) (sb : Sub X n A) (hk : k ≤ n) (hx : Passes CX X E) (I : L2.Inv X pins σ H s) (rx : RelV x u) (ry : RelV y v)
    (h : ∃ a b dx dy fs gs, x = .ref a ∧ y = .ref b ∧ H a = some (.ins C dx fs) ∧ H b = some (.ins C dy gs) ∧ sp [.ref a, .ref b] H (fun v H1 => ∃ r, v = .bl r ∧ Q (.bl r) H1) E) : wpAny (model X.prog X.w) A (richCompare .Eq u v) (EP X pins σ Q) X.xe s := by
  obtain ⟨f, fd, ps, hs, hf, _, F, hb⟩ := c.ex
  obtain ⟨a, b, dx, dy, fs, gs, rfl, rfl, ha, hb', q⟩ := h
  cases rx
  cases ry
  obtain ⟨mA, J, _⟩ := ins_get I.hok ha
  obtain ⟨mB, J', _⟩ := ins_get I.hok hb'
  obtain ⟨od, J, _⟩ := J.look
  obtain ⟨od', J', _⟩ := J'.look
  obtain ⟨m, hF⟩ := I.fr
  refine PySem.W.cmp_K (op := .Eq) (tb := .ref C) sb.room.units0 hF I.ok.mod.kin J J'.type (by simp [PySem.W.notFirst]) hs hf ?_
  refine wpAny_mono (run_duA F (sb.mono hk) hb hx I (.cons (show RelV (.ref a) (.ref a) from rfl) (.cons (show RelV (.ref b) (.ref b) from rfl) .nil)) q) (fun r s' hq => ?_) fun _ _ z => z
  obtain ⟨z, H', I', rz, r, rfl, q⟩ := hq
  cases rz
  exact ⟨.bl r, H', I', rfl, q⟩
theorem rc_neO {CX : CXT} {A : Around} {E : XK} {n : Nat} {x y : V} {u v : Value} {Q : VK} (N : NeC X.K C) (c : Du X.prog X.w X.K X.mg X.base CX k C "__eq__" sp) (sb : Sub X (n + 1) A) (hk : k ≤ n) (hx : Passes CX X E) (I : L2.Inv X pins σ H s) (rx : RelV x u) (ry : RelV y v)
    (h : ∃ a b dx dy fs gs, x = .ref a ∧ y = .ref b ∧ H a = some (.ins C dx fs) ∧ H b = some (.ins C dy gs) ∧ sp [.ref a, .ref b] H (fun v H1 => ∃ r, v = .bl r ∧ Q (.bl (!r)) H1) E) : wpAny (model X.prog X.w) A (richCompare .NotEq u v) (EP X pins σ Q) X.xe s := by
  obtain ⟨f, fd, ps, hs, hf, _, F, hb⟩ := c.ex
  obtain ⟨a, b, dx, dy, fs, gs, rfl, rfl, ha, hb', q⟩ := h
  cases rx
  cases ry
  obtain ⟨mA, J, _⟩ := ins_get I.hok ha
  obtain ⟨mB, J', _⟩ := ins_get I.hok hb'
  obtain ⟨od, J, _⟩ := J.look
  obtain ⟨od', J', _⟩ := J'.look
  obtain ⟨m, hF⟩ := I.fr
  refine K18N.ne_own (tb := .ref C) sb.room.units0 sb.in1.room.units0 hF I.ok.mod.kin J J'.type (by simp [PySem.W.notFirst]) N.ne N.ob hs hf ?_
  refine wpAny_mono (run_duA F (sb.in1.mono hk) hb hx I (.cons (show RelV (.ref a) (.ref a) from rfl) (.cons (show RelV (.ref b) (.ref b) from rfl) .nil)) q) (fun r s' hq => ?_) fun _ _ z => z
  obtain ⟨z, H', I', rz, r, rfl, q⟩ := hq
  cases rz
  exact ⟨r, rfl, .bl (!r), H', I', rfl, q⟩
theorem op_eqO (c : Du X.prog X.w X.K X.mg X.base CX0 k C "__eq__" sp) (hr : Room j X.A) (hk : k ≤ j) : OpR X (compareOp .Eq) (rEqO C sp) := by
  intro pins s σ H x y v u Q I rx ry hq
  show wpAny (model X.prog X.w) X.A (richCompare .Eq v u) (EP X pins σ Q) X.xe s
  exact rc_eqO c ⟨hr, rfl⟩ hk (pass0 (X := X)) I rx ry hq
theorem op_neO (N : NeC X.K C) (c : Du X.prog X.w X.K X.mg X.base CX0 k C "__eq__" sp) (hr : Room j X.A) (hk : k + 1 ≤ j) : OpR X (compareOp .NotEq) (rNeO C sp) := by
  intro pins s σ H x y v u Q I rx ry hq
  show wpAny (model X.prog X.w) X.A (richCompare .NotEq v u) (EP X pins σ Q) X.xe s
  exact rc_neO N c (Sub.mono (⟨hr, rfl⟩ : Sub X j X.A) hk) (Nat.le_refl k) (pass0 (X := X)) I rx ry hq
end
end K18
namespace K18
open PySem PySem.Spec PyProof.Rows L2 NdefX StX
def DDict (D : Eqv) : Eqv := fun x y H => ∃ a b ka kb, x = .ref a ∧ y = .ref b ∧ H a = some (.dK ka) ∧ H b = some (.dK kb) ∧ ka.length = kb.length ∧
  ∀ oa ob k v, (k, v) ∈ ka → ∃ y, valV kb k = some y ∧ D v y (upd (upd H a (.frz oa (.dK ka))) b (.frz ob (.dK kb)))
theorem kv_mem {κ : Type} {kvs : List (κ × V)} {vs : List (κ × Value)} (r : KV kvs vs) {k : κ} {u : Value} (h : (k, u) ∈ vs) : ∃ v, (k, v) ∈ kvs ∧ RelV v u := by
  induction r with
  | nil => cases h
  | cons p q ih =>
    rename_i a b _ _
    rcases List.mem_cons.mp h with e | e
    · subst e
      obtain ⟨k', v'⟩ := a
      obtain ⟨e1, e2⟩ := p
      dsimp only at e1 e2
      subst e1
      exact ⟨v', List.mem_cons_self, e2⟩
    · obtain ⟨v, h1, h2⟩ := ih e
      exact ⟨v, List.mem_cons_of_mem _ h1, h2⟩
section
variable {X : Cx} {n : Nat} {D : Eqv}
theorem rcG_dict (hD : Mon D) (h : EqG X n D) : RcG X (n + 1) (DDict D) := by
  intro A pins s σ H x y u v sb I rx ry d
  obtain ⟨a, b, ka, kb, rfl, rfl, ha, hb, hlen, hd⟩ := d
  cases rx
  cases ry
  -- both locked
  obtain ⟨oa, ob, Hf, If, fa, fb, fo, hdf, back⟩ : ∃ oa ob Hf, L2.Inv X pins σ Hf s ∧ Hf a = some (.frz oa (.dK ka)) ∧ Hf b = some (.frz ob (.dK kb)) ∧ (∀ c, c ≠ a → c ≠ b → Hf c = H c) ∧
      (∀ k v, (k, v) ∈ ka → ∃ y, valV kb k = some y ∧ D v y Hf) ∧ (∀ H' s', L2.Inv X pins σ H' s' → Ext Hf H' → ∃ H2, L2.Inv X pins σ H2 s' ∧ Ext H H2) := by
    by_cases e : a = b
    · subst e
      rw [ha] at hb
      cases hb
      obtain ⟨oa, Ia⟩ := I.lock ha trivial
      refine ⟨oa, oa, _, Ia, upd_same, upd_same, fun c n1 _ => upd_ne n1, fun k v hm => ?_, fun H' s' I' x => ⟨_, I'.unlock (x a _ upd_same) (I.nofrz ha trivial), fun c o e => ?_⟩⟩
      · obtain ⟨y, h1, h2⟩ := hd oa oa k v hm
        rw [upd_upd] at h2
        exact ⟨y, h1, h2⟩
      · by_cases hc : c = a
        · rw [hc, upd_same]; rw [hc, ha] at e; exact e
        · rw [upd_ne hc]; exact x c o (by rw [upd_ne hc]; exact e)
    · obtain ⟨oa, Ia⟩ := I.lock ha trivial
      have hb1 : upd H a (.frz oa (.dK ka)) b = some (.dK kb) := by rw [upd_ne (Ne.symm e)]; exact hb
      obtain ⟨ob, Ib⟩ := Ia.lock hb1 trivial
      refine ⟨oa, ob, _, Ib, by rw [upd_ne e, upd_same], upd_same, fun c n1 n2 => by rw [upd_ne n2, upd_ne n1], fun k v hm => hd oa ob k v hm, fun H' s' I' x => ?_⟩
      have I2 := I'.unlock (x b _ upd_same) (I.nofrz hb trivial)
      have e2 : upd H' b (.dK kb) a = some (.frz oa (.dK ka)) := by rw [upd_ne e]; exact x a _ (by rw [upd_ne e, upd_same])
      refine ⟨_, I2.unlock e2 (I.nofrz ha trivial), fun c o ec => ?_⟩
      by_cases hc : c = a
      · rw [hc, upd_same]; rw [hc, ha] at ec; exact ec
      · rw [upd_ne hc]
        by_cases hc2 : c = b
        · rw [hc2, upd_same]; rw [hc2, hb] at ec; exact ec
        · rw [upd_ne hc2]; exact x c o (by rw [upd_ne hc2, upd_ne hc]; exact ec)
  obtain ⟨ea, za, sa, vsa, ra, Da⟩ := If.hok a _ fa
  obtain ⟨eb, zb, sbb, vsb, rb, Db⟩ := If.hok b _ fb
  obtain ⟨o1, g1, da⟩ := Heap.dictOf_iff.mp Da
  obtain ⟨o2, g2, db⟩ := Heap.dictOf_iff.mp Db
  have x1 : o1 = oa := Option.some.inj (g1.symm.trans ea)
  have x2 : o2 = ob := Option.some.inj (g2.symm.trans eb)
  subst x1 x2
  refine PySem.W.rc_dictG sa sbb (fun s' => ∃ H', L2.Inv X pins σ H' s' ∧ Ext Hf H') (fun s' ⟨H', I', x⟩ => ⟨(I'.hok a _ (x _ _ fa)).1, (I'.hok b _ (x _ _ fb)).1⟩) da db ⟨Hf, If, Ext.rfl'⟩ sb.room.units0 ?_ (fun k u hm => ?_) (fun s' ⟨H', I', x⟩ => ⟨rfl, back H' s' I' x⟩)
  · rw [← ra.length, ← rb.length]; exact hlen
  · obtain ⟨v, hv, rv⟩ := kv_mem ra hm
    obtain ⟨y, hy, hdv⟩ := hdf k v hv
    have rw1 := rb.val k
    rw [hy] at rw1
    obtain ⟨w', hw, rw'⟩ := RelO.some_of rw1
    refine ⟨w', hw, fun s' ⟨H', I', x⟩ => ?_⟩
    refine wpAny_mono (h A.in1 pins s' σ H' v y u w' sb.in1 I' rv rw' (hD _ _ _ _ x hdv)) (fun r s2 q => ?_) fun _ _ z => z
    obtain ⟨hr, H2, I2, e2⟩ := q
    exact ⟨hr, H2, I2, x.trans e2⟩
end
end K18
namespace K18
open PySem PySem.Spec PyProof.Rows L2 NdefX StX
/-- two entries that say the same -/
def DEnt (c : Ad) (n : Nat) : Eqv := fun x y H => ∃ (a b : Addr) (k : Nd) (F G : List Addr), x = .ref a ∧ y = .ref b ∧ NodeAt c H a k.1 k.2 F ∧ NodeAt c H b k.1 k.2 G ∧ F.Nodup ∧ G.Nodup ∧ Fo.NdOk k ∧ k.2.depth ≤ n ∧ (a = b ∨ ∀ p ∈ F, p ∉ G)
def DEntLt (c : Ad) (n : Nat) : Eqv := fun x y H => ∃ j, j + 1 ≤ n ∧ DEnt c j x y H
theorem mon_ent {c : Ad} {n : Nat} : Mon (DEnt c n) := fun x y H H' e d => by
  obtain ⟨a, b, k, F, G, hx, hy, h1, h2, h⟩ := d
  exact ⟨a, b, k, F, G, hx, hy, h1.grow e, h2.grow e, h⟩
theorem mon_entLt {c : Ad} {n : Nat} : Mon (DEntLt c n) := fun x y H H' e ⟨j, hj, d⟩ => ⟨j, hj, mon_ent x y H H' e d⟩
def spEEq (c : Ad) (n : Nat) : Sp := fun vs H Q _ => ∃ x y, vs = [x, y] ∧ DEnt c n x y H ∧ ∀ H', Ext H H' → Q (.bl true) H'
def spEEqLt (c : Ad) (n : Nat) : Sp := fun vs H Q _ => ∃ x y, vs = [x, y] ∧ DEntLt c n x y H ∧ ∀ H', Ext H H' → Q (.bl true) H'
section
variable {X : Cx} {c : Ad} {m n : Nat}
theorem eqG_entLt (dF : Du X.prog X.w X.K X.mg X.base CX0 m c.F "__eq__" (spEEqLt c n)) (dD : Du X.prog X.w X.K X.mg X.base CX0 m c.D "__eq__" (spEEqLt c n)) : EqG X m (DEntLt c n) := by
  intro A pins s σ H x y u v sb I rx ry d
  obtain ⟨j, hj, a, b, k, F, G, rfl, rfl, h1, h2, h⟩ := id d
  cases rx
  cases ry
  by_cases hab : a = b
  · subst hab
    exact SeqAt.EqAt.same (A := A) (s := s) (.ref a) X.prog X.w X.xe _ ⟨rfl, H, I, Ext.rfl'⟩
  · refine GQ.eqBool_refG hab ?_
    have fin : wpAny (model X.prog X.w) A (richCompare .Eq (.ref a) (.ref b)) (EP X pins σ fun v H1 => v = .bl true ∧ Ext H H1) X.xe s := by
      rcases h1.cases with ⟨hd, hc, dx, m1, hm, he, _⟩ | ⟨hd, dx, m1, b1, kvs, bs, F1, hD, _⟩
      · rcases h2.cases with ⟨hd', hc', dx', m1', hm', he', _⟩ | ⟨hd', _⟩
        · exact rc_eqO dF sb (Nat.le_refl _) (pass0 (X := X)) I (show RelV (.ref a) (.ref a) from rfl) (show RelV (.ref b) (.ref b) from rfl) ⟨a, b, dx, dx', _, _, rfl, rfl, he, he', _, _, rfl, d, fun H' e => ⟨true, rfl, rfl, e⟩⟩
        · rw [hd] at hd'; cases hd'
      · rcases h2.cases with ⟨hd', _⟩ | ⟨hd', dx', m1', b1', kvs', bs', F1', hD', _⟩
        · rw [hd] at hd'; cases hd'
        · exact rc_eqO dD sb (Nat.le_refl _) (pass0 (X := X)) I (show RelV (.ref a) (.ref a) from rfl) (show RelV (.ref b) (.ref b) from rfl) ⟨a, b, dx, dx', _, _, rfl, rfl, hD.obj, hD'.obj, _, _, rfl, d, fun H' e => ⟨true, rfl, rfl, e⟩⟩
    refine wpAny_mono fin (fun r s' q => ?_) fun _ _ z => z
    obtain ⟨z, H', I', rz, ez, ex⟩ := q
    subst ez
    cases rz
    exact ⟨true, rfl, rfl, H', I', ex⟩
def DRef : Eqv := fun x y _ => ∃ p, x = .ref p ∧ y = .ref p
theorem eqG_ref : EqG X m DRef := by
  intro A pins s σ H x y u v sb I rx ry d
  obtain ⟨p, rfl, rfl⟩ := d
  cases rx
  cases ry
  exact SeqAt.EqAt.same (A := A) (s := s) (.ref p) X.prog X.w X.xe _ ⟨rfl, H, I, Ext.rfl'⟩
end
theorem eqv_pair (a b : Str) : PyData.eqv (.tuple [.str a, .str b]) (.tuple [.str a, .str b]) = true := by
  simp [PyData.eqv, PyData.eqvAll]
theorem NmOk.fit {z : Str} (h : NmOk z) : PyData.strOk z = true := by
  unfold PyData.strOk
  rw [← Array.all_toList, List.all_eq_true]
  intro c hc
  have := (h.2.2 c hc).2
  exact decide_eq_true (by omega)
theorem shaped_pair {a b : Str} (ha : NmOk a) (hb : NmOk b) : SeqAt.shaped (.tuple [.str a, .str b]) = true := by
  simp [SeqAt.shaped, PyData.canLay0, PyData.depth, PyData.canLayAll0, PyData.depthAll, ha.fit, hb.fit]
theorem mem_lookup {as : List (Str × Addr)} (nd : (as.map (·.1)).Nodup) {x : Str} {e : Addr} (h : (x, e) ∈ as) : as.lookup x = some e := by
  obtain ⟨i, hi, he⟩ := List.mem_iff_getElem.mp h
  exact lookup_of_nodup nd (i := i) (by rw [List.getElem?_eq_getElem hi, he])
/-- .. and of what == asks of the classes -/
structure Eqc (K : PySem.W.Frag) (c : Ad) : Prop where
  nM : NeC K c.M
  nF : NeC K c.F
  nD : NeC K c.D
  nT : NeC K c.T
section
variable {P : Program} {w : World} {K : PySem.W.Frag} {mg : Str → Option Value} {base : Heap} {c : Ad}
theorem dp_pair {K : PySem.W.Frag} {H : Hp} {p : Addr} {a b : Str} (h : H p = some (.tup [.str a, .str b])) : Dp K H (.ref p) (.tuple [.str a, .str b]) := .tup (.of h) (.cons (.str a) (.cons (.str b) .nil))
theorem sc_eeq : FnScope ["self", "other"] ["self", "other"] (defScope s_Entry_eq) := ⟨rfl, rfl, rfl, by decide +kernel, rfl, by decide +kernel, by decide +kernel⟩
theorem eeq_step (B : Bt mg) (Z : Cs K mg c) (N : Eqc K c) (L : Lv P w K mg base c) {C : Addr} (D : Dm K C "__eq__" "Entry.__eq__" s_Entry_eq) {m n : Nat} (hm : 4 ≤ m)
    (rF : Du P w K mg base CX0 m c.F "__eq__" (spEEqLt c n)) (rD : Du P w K mg base CX0 m c.D "__eq__" (spEEqLt c n)) : Du P w K mg base CX0 (m + 2) C "__eq__" (spEEq c n) := by
  refine du_ok (k := m + 1) D sc_eeq (fun _ _ _ _ _ _ us hl => match us, hl with | [_, _], _ => rfl) (fun vs H Q E h => ?_) (fun f cdv A outer s H vs Q E hr h => ?_)
  · obtain ⟨x, y, rfl, _⟩ := h
    rfl
  · obtain ⟨x, y, rfl, ⟨a, b, k, F, G, rfl, rfl, h1, h2, nd1, nd2, hk, hdp, hab⟩, q⟩ := h
    have eqd := (eqG_ref (X := (cxOf CX0 P w K mg base ["self", "other"] "Entry.__eq__" (defScope s_Entry_eq) f cdv A outer s H E).nox) (m := m)).or (eqG_entLt rF rD)
    have mon : Mon (fun x y H => DRef x y H ∨ DEntLt c n x y H) := Mon.or (fun _ _ _ _ _ d => d) mon_entLt
    refine ⟨_, pss_cons (ps_if (PW.pt (pw_or (pt_not (pt_val (pe_callB call_isi rfl B.isi boot_isinstance (pa_cons (pv 1) (pa_cons (pe_glob (v := .ref c.E) rfl Z.gE rfl) pa_nil)))))
        (pw_or (pt_cmpR op_ne (pe_alt (pe_pr L.pF.form.pr hr (by omega) (pv 0) rfl) (pe_pr L.pD.form.pr hr (by omega) (pv 0) rfl)) (pe_alt (pe_pr L.pF.form.pr hr (by omega) (pv 1) rfl) (pe_pr L.pD.form.pr hr (by omega) (pv 1) rfl)) (nomark _))
        (pw_or1 (pt_cmpR (op_neO N.nM L.meq hr (by omega)) (pe_alt (pe_pr L.pF.mode.pr hr (by omega) (pv 0) rfl) (pe_pr L.pD.mode.pr hr (by omega) (pv 0) rfl)) (pe_alt (pe_pr L.pF.mode.pr hr (by omega) (pv 1) rfl) (pe_pr L.pD.mode.pr hr (by omega) (pv 1) rfl)) (nomark _)))))) (pss_one (ps_ret pe_bl)) pss_nil)
      (pss_cons (ps_if (pt_cmpR (op_neD hr.units) (pe_tup (pa_cons (pe_alt (pe_pr L.pF.owner.pr hr (by omega) (pv 0) rfl) (pe_pr L.pD.owner.pr hr (by omega) (pv 0) rfl)) (pa_cons (pe_alt (pe_pr L.pF.group.pr hr (by omega) (pv 0) rfl) (pe_pr L.pD.group.pr hr (by omega) (pv 0) rfl)) pa_nil)))
          (pe_tup (pa_cons (pe_alt (pe_pr L.pF.owner.pr hr (by omega) (pv 1) rfl) (pe_pr L.pD.owner.pr hr (by omega) (pv 1) rfl)) (pa_cons (pe_alt (pe_pr L.pF.group.pr hr (by omega) (pv 1) rfl) (pe_pr L.pD.group.pr hr (by omega) (pv 1) rfl)) pa_nil))) (nomark _)) (pss_one (ps_ret pe_bl)) pss_nil)
      (pss_one (ps_ret (pe_or (pe_not (pe_callB call_isi rfl B.isi boot_isinstance (pa_cons (pv 0) (pa_cons (pe_glob (v := .ref c.Ho) rfl Z.gHo rfl) pa_nil)))) (pe_one (pe_cmpR (op_eqG (rcG_dict mon eqd) hr) (pe_fld (pv 0) rfl) (pe_fld (pv 1) rfl) (nomark _))))))), ?_⟩
    obtain ⟨tb, htb, _, heb⟩ := h2.hold Z
    obtain ⟨ta, hta, hha, _⟩ := h1.hold Z
    refine ⟨_, rfl, .ref b, .ref c.E, tb, .ref c.E, true, rfl, .own _, htb, heb, true, rfl, iteF ?_⟩
    refine nd_form (i := 0) h1 rfl ?_
    refine nd_form (i := 1) h2 rfl ?_
    refine ⟨rfl, false, congrArg V.bl (by simp), iteF ?_⟩
    refine nd_mode (i := 0) h1 rfl fun ma _ hma => ?_
    refine nd_mode (i := 1) h2 rfl fun mb _ hmb => ?_
    obtain ⟨_, dma, ema⟩ := id hma
    obtain ⟨_, dmb, emb⟩ := id hmb
    refine ⟨ma, mb, dma, dmb, _, _, rfl, rfl, ema, emb, ma, mb, _, _, rfl, hma, hmb, _, rfl, false, congrArg V.bl (by simp), iteF ?_⟩
    refine nd_owner (i := 0) h1 rfl ?_
    refine nd_group (i := 0) h1 rfl ?_
    refine ⟨Nat.le_of_ble_eq_true rfl, fun t1 ht1 => ?_⟩
    have g1 : Ext H (upd H t1 (.tup [.str k.1.own, .str k.1.grp])) := Ext.upd ht1
    have h2' := h2.grow g1
    refine nd_owner (i := 1) h2' rfl ?_
    refine nd_group (i := 1) h2' rfl ?_
    refine ⟨Nat.le_of_ble_eq_true rfl, fun t2 ht2 => ?_⟩
    have g2 : Ext H (upd (upd H t1 (.tup [.str k.1.own, .str k.1.grp])) t2 (.tup [.str k.1.own, .str k.1.grp])) := g1.upd' ht2
    refine ⟨_, _, dp_pair (a := k.1.own) (b := k.1.grp) (by rw [upd_ne (ne_of_none upd_same ht2), upd_same]), dp_pair (a := k.1.own) (b := k.1.grp) upd_same, shaped_pair hk.1.2.1 hk.1.2.2, shaped_pair hk.1.2.1 hk.1.2.2, false, congrArg V.bl (by rw [eqv_pair]; rfl), iteF ?_⟩
    generalize upd (upd H t1 (.tup [.str k.1.own, .str k.1.grp])) t2 (.tup [.str k.1.own, .str k.1.grp]) = H2 at g2
    obtain ⟨ta2, hta2, hha2, _⟩ := (h1.grow g2).hold Z
    refine ⟨_, rfl, .ref a, .ref c.Ho, ta2, .ref c.Ho, k.1.dir, rfl, .own _, hta2, hha2, k.1.dir, rfl, !k.1.dir, rfl, ?_⟩
    rcases (h1.grow g2).cases with ⟨hd, hc, _⟩ | ⟨hd, dx, m1, b1, kvs1, bs1, F1, hD1, eF⟩
    · rw [hd]
      exact iteT (q H2 g2)
    rcases (h2.grow g2).cases with ⟨hd', _⟩ | ⟨_, dx', m2, b2, kvs2, bs2, F2, hD2, eG⟩
    · rw [hd] at hd'; cases hd'
    rw [hd]
    refine iteF ⟨_, rfl, a, c.D, dx, _, .ref b1, rfl, hD1.obj, Z.oD.cls, Z.naD0, lookup_below, _, rfl, b, c.D, dx', _, .ref b2, rfl, hD2.obj, Z.oD.cls, Z.naD0, lookup_below, ⟨b1, b2, kvs1, kvs2, rfl, rfl, hD1.dict, hD2.dict, ?_, fun oa ob kk v hm => ?_⟩, fun H' e => q H' (g2.trans e)⟩
    · have e1 := hD1.keys.length_eq
      have e2 := hD2.keys.length_eq
      rw [List.length_map, List.length_map] at e1 e2
      omega
    · have nb1 := hD1.nd hk.2.2
      have nb2 := hD2.nd hk.2.2
      obtain ⟨⟨x, e⟩, hxe, ekv⟩ := List.mem_map.mp (hD1.perm.mem_iff.mp hm)
      have ekk : kk = .inr x := (congrArg Prod.fst ekv).symm
      have ev : v = .ref e := (congrArg Prod.snd ekv).symm
      subst ekk ev
      have hl1 := mem_lookup nb1 hxe
      have nd1' := nd1
      rw [eF] at nd1'
      have nd2' := nd2
      rw [eG] at nd2'
      obtain ⟨z1, z2⟩ := List.nodup_cons.mp nd1'
      obtain ⟨z3, z4⟩ := List.nodup_cons.mp z2
      obtain ⟨z5, z6⟩ := List.nodup_cons.mp z4
      obtain ⟨y1, y2⟩ := List.nodup_cons.mp nd2'
      obtain ⟨y3, y4⟩ := List.nodup_cons.mp y2
      obtain ⟨y5, y6⟩ := List.nodup_cons.mp y4
      rcases hab with hab | hab
      · subst hab
        have e1 := hD1.obj
        rw [hD2.obj] at e1
        have e2 : fB b2 ++ fE m2 k.1.own k.1.grp = fB b1 ++ fE m1 k.1.own k.1.grp := by
          injection e1 with e1
          injection e1
        have e3 : b2 = b1 := by
          injection e2 with e2 _
          injection e2 with _ e2
          injection e2
        subst e3
        have e4 : kvs2 = kvs1 := by
          have e5 := hD1.dict
          rw [hD2.dict] at e5
          injection e5 with e5
          injection e5
        subst e4
        exact ⟨.ref e, by rw [hD1.get hk.2.2, hl1]; rfl, .inl ⟨e, rfl, rfl⟩⟩
      · have hxn : x ∈ k.2.names := by rw [← hD1.fo.names]; exact List.mem_map.mpr ⟨(x, e), hxe, rfl⟩
        obtain ⟨k', hg⟩ : ∃ k', k.2.getN x = some k' := by
          cases z : k.2.getN x with
          | none => exact absurd hxn (Fo.getN_none.mp z)
          | some k' => exact ⟨k', rfl⟩
        obtain ⟨eA, GA, a1, a2, a3, a4, _⟩ := hD1.fo.get z6 hg
        obtain ⟨eB, GB, c1, c2, c3, c4, _⟩ := hD2.fo.get y6 hg
        rw [hl1] at a1
        have ee : e = eA := Option.some.inj a1
        subst ee
        obtain ⟨ok', dp', _⟩ := Fo.get_ok hk.2.2 hg
        have sA : ∀ p ∈ GA, p ∈ F := fun p hp => by rw [eF]; simp [a4 p hp]
        have sB : ∀ p ∈ GB, p ∈ G := fun p hp => by rw [eG]; simp [c4 p hp]
        have b1F : b1 ∈ F := by rw [eF]; simp
        have b2G : b2 ∈ G := by rw [eG]; simp
        refine ⟨.ref eB, by rw [hD2.get hk.2.2, c1]; rfl, .inr ⟨k'.2.depth, by omega, e, eB, k', GA, GB, rfl, rfl, a2.keep fun p hp o z => ?_, c2.keep fun p hp o z => ?_, a3, c3, ok', Nat.le_refl _, .inr fun p hp hq => hab p (sA p hp) (sB p hq)⟩⟩
        · rw [upd_ne (fun y => hab p (sA p hp) (by rw [y]; exact b2G)), upd_ne (fun y => z5 (by rw [← y]; exact a4 p hp))]; exact z
        · rw [upd_ne (fun y => y5 (by rw [← y]; exact c4 p hp)), upd_ne (fun y => hab p (by rw [y]; exact b1F) (sB p hp))]; exact z
def eL : Nat → Nat
  | 0 => 6
  | n + 1 => eL n + 2
theorem eL_ge : ∀ n, 6 ≤ eL n
  | 0 => Nat.le_refl _
  | n + 1 => Nat.le_trans (eL_ge n) (Nat.le_add_right _ _)
theorem du_eeq (B : Bt mg) (Z : Cs K mg c) (N : Eqc K c) (L : Lv P w K mg base c) (DF : Dm K c.F "__eq__" "Entry.__eq__" s_Entry_eq) (DD : Dm K c.D "__eq__" "Entry.__eq__" s_Entry_eq) : ∀ n, Du P w K mg base CX0 (eL n) c.F "__eq__" (spEEq c n) ∧ Du P w K mg base CX0 (eL n) c.D "__eq__" (spEEq c n)
  | 0 => by
    have e : ∀ {C : Addr}, Dm K C "__eq__" "Entry.__eq__" s_Entry_eq → Du P w K mg base CX0 4 C "__eq__" (spEEqLt c 0) := fun {C} D => by
      obtain ⟨f, fd, F, h1, h2, h3⟩ := D
      exact ⟨f, fd, ["self", "other"], h1, h2, h3, ⟨fun vs H Q E h => absurd h (by rintro ⟨_, _, _, ⟨j, hj, _⟩, _⟩; omega), fun A outer s H args us vs Q E _ _ _ _ h => absurd h (by rintro ⟨_, _, _, ⟨j, hj, _⟩, _⟩; omega)⟩, F.binds (fun _ _ _ _ _ _ us hl => match us, hl with | [_, _], _ => rfl)⟩
    exact ⟨eeq_step B Z N L DF (Nat.le_refl 4) (e DF) (e DD), eeq_step B Z N L DD (Nat.le_refl 4) (e DF) (e DD)⟩
  | n + 1 => by
    obtain ⟨iF, iD⟩ := du_eeq B Z N L DF DD n
    have e : ∀ {C : Addr}, Du P w K mg base CX0 (eL n) C "__eq__" (spEEq c n) → Du P w K mg base CX0 (eL n) C "__eq__" (spEEqLt c (n + 1)) := fun {C} D => by
      obtain ⟨f, fd, ps, h1, h2, h3, F, b⟩ := D.ex
      refine ⟨f, fd, ps, h1, h2, h3, F.imp fun vs H Q E h => ?_, b⟩
      obtain ⟨x, y, h4, ⟨j, hj, a, b, k, F, G, e1, e2, e3, e4, e5, e6, e7, e8, e9⟩, h6⟩ := h
      exact ⟨x, y, h4, ⟨a, b, k, F, G, e1, e2, e3, e4, e5, e6, e7, by omega, e9⟩, h6⟩
    have := eL_ge n
    exact ⟨eeq_step B Z N L DF (by omega) (e iF) (e iD), eeq_step B Z N L DD (by omega) (e iF) (e iD)⟩
end
end K18
namespace K18
open PySem PySem.Spec PyProof.Rows L2 NdefX StX
section
variable {P : Program} {w : World} {K : PySem.W.Frag} {mg : Str → Option Value} {base : Heap} {c : Ad}
/-! ### Tree.__eq__ -/
def spTEq (c : Ad) : Sp := fun vs H Q _ => ∃ (t u : Addr) (k : Nd) (F G : List Addr), vs = [.ref t, .ref u] ∧ TreeAt c H t k F ∧ TreeAt c H u k G ∧ Fo.NdOk k ∧ k.1.dir = true ∧ k.2.depth ≤ 12 ∧ (∀ p ∈ F, p ∉ G) ∧ ∀ H', Ext H H' → Q (.bl true) H'
theorem sc_teq : FnScope ["self", "other"] ["self", "other"] (defScope s_Tree_eq) := ⟨rfl, rfl, rfl, by decide +kernel, rfl, by decide +kernel, by decide +kernel⟩
theorem du_teq (B : Bt mg) (Z : Cs K mg c) (eD : Du P w K mg base CX0 30 c.D "__eq__" (spEEq c 12)) (D : Dm K c.T "__eq__" "Tree.__eq__" s_Tree_eq) : Du P w K mg base CX0 31 c.T "__eq__" (spTEq c) := by
  refine du_ok (k := 30) D sc_teq (fun _ _ _ _ _ _ us hl => match us, hl with | [_, _], _ => rfl) (fun vs H Q E h => ?_) (fun f cdv A outer s H vs Q E hr h => ?_)
  · obtain ⟨t, u, k, F, G, rfl, _⟩ := h
    rfl
  · obtain ⟨t, u, k, F, G, rfl, ⟨dx, top, eT, hn, nd, nt⟩, ⟨dy, uop, eU, hm, nd2, nu⟩, hk, hd, hdp, hdj, q⟩ := h
    refine ⟨_, pss_one (ps_ret (pe_and (pe_callB call_isi rfl B.isi boot_isinstance (pa_cons (pv 1) (pa_cons (pe_glob (v := .ref c.T) rfl Z.gT rfl) pa_nil))) (pe_one (pe_cmpR (op_eqO eD hr (Nat.le_refl _)) (pe_fld (pv 0) rfl) (pe_fld (pv 1) rfl) (nomark _))))), ?_⟩
    rcases hn.cases with ⟨hd0, _⟩ | ⟨_, dx1, m1, b1, kvs1, bs1, F1, hD1, eF⟩
    · rw [hd] at hd0; cases hd0
    rcases hm.cases with ⟨hd0, _⟩ | ⟨_, dx2, m2, b2, kvs2, bs2, F2, hD2, eG⟩
    · rw [hd] at hd0; cases hd0
    refine ⟨_, rfl, .ref u, .ref c.T, .ref c.T, .ref c.T, true, rfl, .own _, Z.oT.ty eU, Z.isTT, true, rfl, iteT ?_⟩
    refine ⟨_, rfl, t, c.T, dx, _, .ref top, rfl, eT, Z.oT.cls, Z.naT, rfl, _, rfl, u, c.T, dy, _, .ref uop, rfl, eU, Z.oT.cls, Z.naT, rfl, ?_⟩
    exact ⟨top, uop, dx1, dx2, _, _, rfl, rfl, hD1.obj, hD2.obj, _, _, rfl, ⟨top, uop, k, F, G, rfl, rfl, hn, hm, nd, nd2, hk, hdp, .inr hdj⟩, fun H' e => ⟨true, rfl, q H' e⟩⟩
/-! ### TreeTrial -/
def spTTI (c : Ad) : Sp := fun vs H Q _ => ∃ (x dx t : Addr), vs = [.ref x, .ref t] ∧ H x = some (.ins c.TT dx []) ∧ Q .non (upd H x (.ins c.TT dx [("subject", .ref t), ("past", .non)]))
theorem sc_tti : FnScope ["self", "subject"] ["self", "subject"] (defScope s_TreeTrial_init) := ⟨rfl, rfl, rfl, by decide +kernel, rfl, by decide +kernel, by decide +kernel⟩
theorem ma_tt (Z : Cs K mg c) (D : In0 K c.TT "TreeTrial.__init__" s_TreeTrial_init) : Ma P w K mg base CX0 2 "TreeTrial" c.TT (spTTI c) := by
  refine ma_ok (k := 1) Z.gTT D sc_tti (fun _ _ _ _ _ _ us hl => match us, hl with | [_, _], _ => rfl) (fun vs H Q E h => ?_) (fun f cdv A outer s H vs Q E hr h => ?_)
  · obtain ⟨x, dx, t, rfl, _⟩ := h
    rfl
  · obtain ⟨x, dx, t, rfl, e, q⟩ := h
    refine ⟨_, pss_cons (ps_fld (pv 0) (pv 1) rfl) (pss_one (ps_fld (pv 0) pe_non rfl)), ?_⟩
    refine ⟨_, rfl, _, rfl, x, c.TT, dx, [], rfl, e, Z.oTT.cls, Z.naTT1, Nat.zero_lt_succ _, ?_⟩
    refine ⟨_, rfl, x, c.TT, dx, _, rfl, upd_same, Z.oTT.cls, Z.naTT2, Nat.le_of_ble_eq_true rfl, ?_⟩
    rw [upd_upd]
    exact q
def spTrial (c : Ad) : Sp := fun vs H Q _ => ∃ (t : Addr), vs = [.ref t] ∧ ∀ H' x dx, Grow H H' → H x = none → H' x = some (.ins c.TT dx [("subject", .ref t), ("past", .non)]) → Q (.ref x) H'
theorem sc_trial : FnScope ["self"] ["self"] (defScope s_Tree_trial) := ⟨rfl, rfl, rfl, by decide +kernel, rfl, by decide +kernel, by decide +kernel⟩
theorem me_trial (Z : Cs K mg c) (mt : Ma P w K mg base CX0 2 "TreeTrial" c.TT (spTTI c)) (D : Mn K c.T "trial" "Tree.trial" s_Tree_trial) : Me P w K mg base CX0 4 c.T "trial" (spTrial c) := by
  refine me_ok (k := 3) Z.oT D sc_trial (fun _ _ _ _ _ _ us hl => match us, hl with | [_], _ => rfl) (fun vs H Q E h => ?_) (fun f cdv A outer s H vs Q E hr h => ?_)
  · obtain ⟨t, rfl, _⟩ := h
    rfl
  · obtain ⟨t, rfl, q⟩ := h
    refine ⟨_, pss_one (ps_ret (pe_ma mt hr (by decide) pass0 rfl (pa_cons (pv 0) pa_nil))), ?_⟩
    refine ⟨_, rfl, fun x dx hx hdx hne => ⟨x, dx, t, rfl, upd_same, rfl, ?_⟩⟩
    refine q _ x dx (fun a o z => ?_) hx upd_same
    rw [upd_ne (ne_of_none z hx), upd_ne (ne_of_none z hx), upd_ne (ne_of_none z hdx)]; exact z
end
end K18
namespace K18
open PySem PySem.Spec PyProof.Rows L2 NdefX StX
/-- what is asked of NoEntry -/
structure Nx (P : Program) (K : PySem.W.Frag) (mg : Str → Option Value) (c : Ad) : Prop where
  oe : OexC K c.NE
  fi : ∃ f fd, SFun K P.main.file "__init__" "NoEntry.__init__" s_NoEntry_init f fd c.NE ∧ PySem.W.findIn K (.ref c.NE) "__init__" = some (some (.ref f)) ∧ PySem.W.typeIn K (.ref f) = some (.type "function")
  sb : SupB K c.NE c.NE "ValueError.__init__" "ValueError"
  na : PySem.W.findIn K (.ref c.NE) "path" = some none
section
variable {P : Program} {w : World} {K : PySem.W.Frag} {mg : Str → Option Value} {base : Heap} {c : Ad}
def spNEI (c : Ad) : Sp := fun vs H Q _ => ∃ (a : Addr) (p : Str), vs = [.ref a, .str p] ∧ H a = some (exo a c.NE none) ∧ ∀ dx, H dx = none → dx ≠ a → Q .non (upd (upd H dx (exd dx [("path", .str p)])) a (exo a c.NE (some dx)))
def NN0 : List Str := ["self", "path", "__class__"]
theorem sc_neinit : NScope NN0 ["self", "path"] ["__class__"] (defScope s_NoEntry_init) := nscope_by (by decide +kernel)
theorem fn_neinit (B : Bt mg) (Z : Cs K mg c) (CC : Cc P K mg c) (N : Nx P K mg c) {f : Addr} {fd : FuncData} (F : SFun K P.main.file "__init__" "NoEntry.__init__" s_NoEntry_init f fd c.NE) :
    FnOk P w K mg base CX0 1 f fd ["self", "path"] (spNEI c) := by
  refine sfn_ok (k := 0) F sc_neinit rfl CC.top B.super ⟨_, rfl, rfl, rfl⟩ (fun vs H Q E h => ?_) (fun cd cc A outer s H vs Q E hr SX h => ?_)
  · obtain ⟨a, p, rfl, _⟩ := h
    rfl
  obtain ⟨a, p, rfl, ea, q⟩ := h
  refine ⟨_, psa_supV (C := c.NE) (j := 0) SX N.sb N.oe (PSs.nox (pss_one (ps_ost (pv 0) (pv 1)))), a, rfl, ea, rfl, ?_⟩
  refine ⟨_, rfl, _, rfl, a, c.NE, rfl, N.oe, N.na, .inl ⟨ea, fun dx hdx hne => q dx hdx hne⟩⟩
/-- raise NoEntry(e) -/
theorem pmk_ne {X : Cx} {k : Nat} {e : Expr} {ta : TA} {p pos : Pos} (Z : Cs X.K X.mg c) (B : Bt X.mg) (CC : Cc X.prog X.K X.mg c) (N : Nx X.prog X.K X.mg c) (hr : Room k X.A) (hk : 2 ≤ k) (hg : Gl X "NoEntry") (ha : PA X [e] ta) (he : starEach [e] X.env = (false, eval e X.env) :: starEach [] X.env := by rfl) (hpl : (backTo pos (starEach [] X.env)).any (·.1) = false := by rfl) :
    PMk X (.Call (.Name "NoEntry" p) [e] [] pos) (tMkO c.NE (spNEI c) [] ta) := by
  obtain ⟨f, fd, F, h1, h2⟩ := N.fi
  refine pmk_oex N.oe h1 h2 (fn_neinit (P := X.prog) (w := X.w) (base := X.base) B Z CC N F) (hr.mono hk) ?_ .nil (fun _ _ _ _ _ _ _ z => z.elim) hg Z.gNE ha (by decide) he hpl
  obtain ⟨oc, od, kV, doc, pm, an, c', ct, osl, cc, rfl, _⟩ := F.ex
  exact .all fun us hl => match us, hl with | [_, _], _ => rfl
/-! ### Tree.entry: not there -/
def spEntryX (c : Ad) : Sp := fun vs H _ E => ∃ (t : Addr) (k : Nd) (F : List Addr) (q : List Str), vs = [.ref t, .str (pj q)] ∧ TreeAt c H t k F ∧ Fo.NdOk k ∧ (∀ n ∈ q, NmOk n) ∧ q.length ≤ 100 ∧ findP k q = none ∧
  ∀ d H', Grow H H' → E (.ref c.NE) (some d) H'
theorem ne_up {H : Hp} {a d : Addr} {fs : List (Str × V)} (ha : H a = none) (hd : H d = none) {o : HO} : Grow H (upd (del (upd (upd H d (exd d fs)) a o) a) d (.xd fs)) := fun b u z => by
  have n1 := ne_of_none z ha
  have n2 := ne_of_none z hd
  rw [upd_ne n2, del_ne n1, upd_ne n1, upd_ne n2]
  exact z
theorem me_entryX (B : Bt mg) (Z : Cs K mg c) (CC : Cc P K mg c) (N : Nx P K mg c) (L : Lv P w K mg base c) (D : Mn K c.T "entry" "Tree.entry" s_Tree_entry) : Me P w K mg base (L2.CX P w) 5 c.T "entry" (spEntryX c) := by
  refine me_okX (k := 4) Z.oT D sc_tentry (fun _ _ _ _ _ _ us hl => match us, hl with | [_, _], _ => rfl) (fun vs H Q E h => ?_) (fun f cdv A outer s H vs Q E hr h => ?_)
  · obtain ⟨t, k, F, q, rfl, _⟩ := h
    rfl
  · obtain ⟨t, k, F, p, rfl, hT, hk, hp, hl, hf, q⟩ := h
    refine ⟨_, pss_cons (ps_if (pt_not (pt_val (pe_ca L.isp hr (by decide) pass0 rfl (pa_cons (pv 1) pa_nil)))) (pss_one ps_never) pss_nil)
      (pss_cons (ps_set (i := 2) sc_tentry.nd rfl (.inl rfl) (pe_ca L.fnd hr (by decide) pass0 rfl (pa_cons (pe_fld (pv 0) rfl) (pa_cons (pe_ca L.nof hr (by decide) pass0 rfl (pa_cons (pv 1) pa_nil)) pa_nil))))
      (pss_cons (ps_if (pt_cmp (pc_isN (pv 2))) (pss_one (ps_raise rfl (takes_of rfl rfl rfl rfl) (pmk_ne Z B CC N hr (by decide) rfl (pa_cons (pv 1) pa_nil)))) pss_nil) (pss_one ps_never))), ?_⟩
    obtain ⟨dx, top, e1, hn, nd, nt⟩ := hT
    refine ⟨_, rfl, p, rfl, hp, hl, fun H1 g1 => ⟨true, rfl, iteF ?_⟩⟩
    refine ⟨_, rfl, t, c.T, dx, _, .ref top, rfl, g1 _ _ e1, Z.oT.cls, Z.naT, rfl, _, rfl, p, rfl, hp, hl, fun a H2 g2 ha1 ha2 => ?_⟩
    refine ⟨top, a, k, F, p, rfl, (hn.grow g1).grow g2, nd, hk, .inl (.of ha2), fun _ => ?_, fun e' k1 G hs => (by have := hs.find; rw [hf] at this; cases this)⟩
    refine ⟨_, rfl, true, rfl, iteT ⟨_, rfl, Nat.le_of_ble_eq_true rfl, fun x hx => ⟨x, pj p, rfl, upd_same, fun d hd hne => ?_⟩⟩⟩
    have hd2 : H2 d = none := by rw [upd_ne hne] at hd; exact hd
    refine ⟨rfl, d, [("path", .str (pj p))], upd_same, by rw [upd_ne hne, upd_same], hd2, ?_⟩
    refine q d _ fun b u z => ?_
    have z2 : H2 b = some u := g2 _ _ (g1 _ _ z)
    have n1 := ne_of_none z2 hx
    have n2 := ne_of_none z2 hd2
    rw [upd_ne n2, del_ne n1, upd_ne n1, upd_ne n2, upd_ne n1]
    exact z2
def spSetIX (c : Ad) : Sp := fun vs H _ E => ∃ (t : Addr) (v : V) (k : Nd) (F : List Addr) (q : List Str), vs = [.ref t, .str (pj q), v] ∧ TreeAt c H t k F ∧ Fo.NdOk k ∧ (∀ n ∈ q, NmOk n) ∧ q.length ≤ 100 ∧ findP k q = none ∧
  ∀ d H', Grow H H' → E (.ref c.NE) (some d) H'
theorem du_setiX (Z : Cs K mg c) (en : Me P w K mg base (L2.CX P w) 5 c.T "entry" (spEntryX c)) (D : Dm K c.T "__setitem__" "Tree.__setitem__" s_Tree_setitem) : Du P w K mg base (L2.CX P w) 6 c.T "__setitem__" (spSetIX c) := by
  refine du_okX (k := 5) D sc_seti (fun _ _ _ _ _ _ us hl => match us, hl with | [_, _, _], _ => rfl) (fun vs H Q E h => ?_) (fun f cdv A outer s H vs Q E hr h => ?_)
  · obtain ⟨t, v, k, F, q, rfl, _⟩ := h
    rfl
  · obtain ⟨t, v, k, F, p, rfl, hT, hk, hp, hl, hf, q⟩ := h
    have tk : Takes (cxOf (L2.CX P w) P w K mg base ["self", "at", "worth", "found"] "Tree.__setitem__" (defScope s_Tree_setitem) f cdv A outer s H E) (fun cls d _ H => E cls d H) := takes_of rfl rfl rfl rfl
    refine ⟨_, pss_cons (ps_set (i := 3) sc_seti.nd rfl (.inl rfl) (pe_me (E := E) en hr (by decide) (passes_call tk fun _ _ _ _ z => z) (pv 0) (pa_cons (pv 1) pa_nil))) (pss_one ps_never), ?_⟩
    obtain ⟨dx, top, eT, hn, nd, nt⟩ := id hT
    exact ⟨_, rfl, t, dx, _, rfl, eT, rfl, _, rfl, t, k, F, p, rfl, hT, hk, hp, hl, hf, q⟩
end
end K18
namespace K18
open PySem PySem.Spec PyProof.Rows L2 NdefX StX LamX
/-- at the state s of a caller: what the function value at f keeps, called later -/
structure Deed (P : Program) (w : World) (K : PySem.W.Frag) (mg : Str → Option Value) (base : Heap) (k : Nat) (outer : List Env) (s : Shared) (H : Hp) (f c' : Addr) (q : Str) (sp : Sp) : Prop where
  fn : PySem.W.FnAt f s.heap
  hfn : H f = none
  nfr : f ∉ frs outer
  run : ∀ (A' : Around) (outer' : List Env) (s1 : Shared) (HZ : Hp) (us : List Value) (vs : List V) (Q : VK) (E : XK), Room k A' → A'.guards = some [] → Env0 P w K mg base A' outer' s1 HZ → Un (frs outer) [] H HZ s.heap s1.heap → HZ c' = some (CodeO c' q) → Vals vs us → sp vs HZ Q E →
    codeAny (model P w) A' (.call (.ref f) ⟨us, []⟩) (CR (L2.CX P w) outer' P w HZ s1 Q E) s1
theorem fnAt_keep {f : Addr} {h h' : Heap} (a : PySem.W.FnAt f h) (k : ∀ o, h.get? f = some o → h'.get? f = some o) : PySem.W.FnAt f h' := by
  obtain ⟨x1, x2, x3, x4, ho⟩ := a
  exact ⟨x1, x2, x3, x4, k _ ho⟩
section
variable {P : Program} {w : World} {K : PySem.W.Frag} {mg : Str → Option Value} {base : Heap} {c : Ad}
/-- deed(e) in the def that got it -/
theorem pe_deed {CXg : CXT} {Eg E : XK} {Ng : List Str} {qg : Str} {sg : Scope} {g f c' : Addr} {cdg : Value} {A : Around} {outer : List Env} {s : Shared} {H : Hp} {k j i : Nat} {q a : Str} {sp : Sp} {pn : List (Addr × Obj)} {xe : Value → Shared → Prop} {W : WX} {t : TA} {e : Expr} {p1 p2 : Pos}
    (D : Deed P w K mg base k outer s H f c' q sp) (hg : A.guards = some []) (tk : Takes ((cxOf CXg P w K mg base Ng qg sg g cdg A outer s H Eg).tr pn xe) W) (hW : ∀ cls d σ' H', E cls d H' → W cls d σ' H') (hr : Room j (A.deeper (envOfC qg sg s.heap.objs.size g cdg))) (hk : k ≤ j)
    (hN : Ng[i]? = some a) (hv : Vis sg a) (ha : PA ((cxOf CXg P w K mg base Ng qg sg g cdg A outer s H Eg).tr pn xe) [e] t) (hd : (a == ("__debug__" : Str)) = false := by decide) (hcd : (a == ("__classdict__" : Str)) = false := by decide)
    (he : starEach [e] ((cxOf CXg P w K mg base Ng qg sg g cdg A outer s H Eg).tr pn xe).env = (false, eval e ((cxOf CXg P w K mg base Ng qg sg g cdg A outer s H Eg).tr pn xe).env) :: starEach [] ((cxOf CXg P w K mg base Ng qg sg g cdg A outer s H Eg).tr pn xe).env := by rfl)
    (hpl : (backTo p2 (starEach [] ((cxOf CXg P w K mg base Ng qg sg g cdg A outer s H Eg).tr pn xe).env)).any (·.1) = false := by rfl) :
    PE ((cxOf CXg P w K mg base Ng qg sg g cdg A outer s H Eg).tr pn xe) (.Call (.Name a p1) [e] [] p2)
      (fun σZ HZ Q => σZ[i]? = some (some (.ref f)) ∧ t σZ HZ fun vs H1 => H1 c' = some (CodeO c' q) ∧ sp vs H1 Q E) := by
  refine ⟨fun pinsZ sZ σZ HZ Q IZ h => ?_⟩
  obtain ⟨hs, ht⟩ := h
  have keep : ∀ {s1 : Shared} {H1 : Hp} {pins : List (Addr × Obj)} {σ : L2.St}, L2.Inv ((cxOf CXg P w K mg base Ng qg sg g cdg A outer s H Eg).tr pn xe) pins σ H1 s1 → PySem.W.FnAt f s1.heap := fun I1 =>
    fnAt_keep D.fn fun o ho => I1.base.keep f o ho D.hfn D.nfr (fun z => nomatch (show f ∈ ([] : List Addr) from z))
  refine wpAny_Call_Name_kw (thn ((pe_var (pos := p1) (i := i) hN hv hd hcd).run pinsZ sZ σZ HZ (fun v H1 => v = .ref f ∧ H1 = HZ) IZ ⟨.ref f, hs, rfl, rfl⟩) fun u s1 ⟨v, H1, I1, r1, q1⟩ => ?_)
  obtain ⟨ev, eH⟩ := q1
  subst ev
  rw [eH] at I1
  obtain rfl : u = Value.ref f := r1
  refine PySem.W.callWith_F (first := []) (keep I1) (thn (ha.run p2 pinsZ s1 σZ HZ _ I1 ht) fun us s2 ⟨vs, H2, I2, r, hc, q2⟩ => ⟨keep I2, ?_⟩) he hpl
  show wpAny _ _ (call (.ref f) us) _ _ _
  have hx := passes_call (X := (cxOf CXg P w K mg base Ng qg sg g cdg A outer s H Eg).tr pn xe) tk hW
  refine wpAny_call (codeAny_mono (D.run _ _ s2 H2 us vs Q E (hr.mono hk) hg I2.env0 I2.base hc r q2) fun r s' hq => ?_)
  cases r with
  | error e => exact hx pinsZ σZ H2 s2 e s' I2 hq
  | ok fl =>
    cases fl with
    | ret u => exact I2.after hq
    | next => exact False.elim hq
    | brk => exact False.elim hq
    | cont => exact False.elim hq
/-! ### TreeTrial.__enter__, __exit__ -/
def spTEn (c : Ad) : Sp := fun vs H Q _ => ∃ (x dx t : Addr) (k : Nd) (F : List Addr), vs = [.ref x] ∧ H x = some (.ins c.TT dx [("subject", .ref t), ("past", .non)]) ∧ TreeAt c H t k F ∧ Fo.NdOk k ∧ k.2.depth ≤ 12 ∧ k.2.size < 64 ∧
  ∀ H' p Fp, Kp [x] H H' → H' x = some (.ins c.TT dx [("subject", .ref t), ("past", .ref p)]) → NodeAt c H' p k.1 k.2 Fp → Fp.Nodup → (∀ b ∈ Fp, H b = none) → Q (.ref t) H'
theorem sc_ten : FnScope ["self"] ["self"] (defScope s_TreeTrial_enter) := ⟨rfl, rfl, rfl, by decide +kernel, rfl, by decide +kernel, by decide +kernel⟩
def spTExN : Sp := fun vs H Q _ => ∃ (x : Addr), vs = [.ref x, .non, .non, .non] ∧ Q .non H
def spTExQ (c : Ad) : Sp := fun vs H Q _ => ∃ (x dx t p dt : Addr) (k v T : V) (o : V), vs = [.ref x, k, v, T] ∧ k ≠ .non ∧ H x = some (.ins c.TT dx [("subject", .ref t), ("past", .ref p)]) ∧ H t = some (.ins c.T dt [("top", o)]) ∧ Q .non (upd H t (.ins c.T dt [("top", .ref p)]))
theorem sc_tex : FnScope ["self", "kind", "value", "trace"] ["self", "kind", "value", "trace"] (defScope s_TreeTrial_exit) := ⟨rfl, rfl, rfl, by decide +kernel, rfl, by decide +kernel, by decide +kernel⟩
theorem wi_trial (Z : Cs K mg c) (L : Lv P w K mg base c) (DE : Dm K c.TT "__enter__" "TreeTrial.__enter__" s_TreeTrial_enter) (DX : Dm K c.TT "__exit__" "TreeTrial.__exit__" s_TreeTrial_exit) : Wi P w K mg base 29 c.TT (spTEn c) spTExN (spTExQ c) := by
  obtain ⟨fe, fde, Fe, e1, e2, e3⟩ := DE
  obtain ⟨fx, fdx, Fx, x1, x2, x3⟩ := DX
  refine ⟨fe, fx, fde, fdx, ["self"], ["self", "kind", "value", "trace"], e1, e2, x1, x2, ?_, Fe.binds (fun _ _ _ _ _ _ us hl => match us, hl with | [_], _ => rfl), ?_, ?_, Fx.binds (fun _ _ _ _ _ _ us hl => match us, hl with | [_, _, _, _], _ => rfl)⟩
  · refine Fe.ok (k := 28) sc_ten (fun vs H Q E h => ?_) (fun cdv A outer s H vs Q E hr h => ?_)
    · obtain ⟨x, dx, t, k, F, rfl, _⟩ := h
      rfl
    · obtain ⟨x, dx, t, k, F, rfl, ex, ⟨dt, top, eT, hn, nd, nt⟩, hk, hdp, hsz, q⟩ := h
      refine ⟨_, pss_cons (ps_fld (pv 0) (pe_ca L.cop hr (Nat.le_refl _) pass0 rfl (pa_cons (pe_fld (pe_fld (pv 0) rfl) rfl) pa_nil)) rfl) (pss_one (ps_ret (pe_fld (pv 0) rfl))), ?_⟩
      refine ⟨_, rfl, x, c.TT, dx, _, .ref t, rfl, ex, Z.oTT.cls, Z.naTT1, rfl, t, c.T, dt, _, .ref top, rfl, eT, Z.oT.cls, Z.naT, rfl, top, k.1, k.2, F, rfl, hn, hk.1, hk.2.2, hdp, hsz, fun p Fp H1 g1 n1 nd1 fr1 => ?_⟩
      have ex1 := g1 _ _ ex
      have xF : x ∉ Fp := fun z => by rw [fr1 x z] at ex; cases ex
      refine ⟨_, rfl, x, c.TT, dx, _, rfl, ex1, Z.oTT.cls, Z.naTT2, Nat.le_of_ble_eq_true rfl, ?_⟩
      refine ⟨_, rfl, x, c.TT, dx, _, .ref t, rfl, upd_same, Z.oTT.cls, Z.naTT1, rfl, ?_⟩
      refine q _ p Fp (fun b o z n => ?_) upd_same (n1.keep fun b hb o z => ?_) nd1 fr1
      · rw [upd_ne (by simpa using n)]; exact g1 _ _ z
      · rw [upd_ne (fun y => xF (by rw [← y]; exact hb))]; exact z
  · refine (Fx.ok (k := 1) sc_tex (fun vs H Q E h => ?_) (fun cdv A outer s H vs Q E hr h => ?_)).mono (by decide)
    · obtain ⟨x, rfl, _⟩ := h
      rfl
    · obtain ⟨x, rfl, q⟩ := h
      refine ⟨_, pss_one (ps_if (pt_cmp (pc_notN (pv 1))) (pss_one (ps_fld (pe_fld (pv 0) rfl) (pe_fld (pv 0) rfl) rfl)) pss_nil), ?_⟩
      exact ⟨_, rfl, false, rfl, iteF q⟩
  · refine fnq_ok Fx sc_tex (fun vs H Q E h => ?_) (fun cdv A outer s H vs Q E h => ?_)
    · obtain ⟨x, dx, t, p, dt, k, v, T, o, rfl, _⟩ := h
      rfl
    · obtain ⟨x, dx, t, p, dt, k, v, T, o, rfl, hk, ex, et, q⟩ := h
      refine ⟨_, pss_one (ps_if (pt_cmp (pc_notN (pv 1))) (pss_one (ps_fld (pe_fld (pv 0) rfl) (pe_fld (pv 0) rfl) rfl)) pss_nil), ?_⟩
      refine ⟨_, rfl, true, congrArg V.bl (by simp [hk]), iteT ?_⟩
      refine ⟨_, rfl, x, c.TT, dx, _, .ref p, rfl, ex, Z.oTT.cls, Z.naTT2, rfl, _, rfl, x, c.TT, dx, _, .ref t, rfl, ex, Z.oTT.cls, Z.naTT1, rfl, t, c.T, dt, _, rfl, et, Z.oT.cls, Z.naT, Nat.le_of_ble_eq_true rfl, q⟩
end
end K18
namespace K18
open PySem PySem.Spec PyProof.Rows L2 NdefX StX LamX
/-- what stands in an entry's own memory -/
def KiO (H : Hp) (b : Addr) : Prop := (∃ C dx fs, H b = some (.ins C dx fs)) ∨ ∃ kvs, H b = some (.dK kvs)
theorem KiO.lst {H : Hp} {b : Addr} {xs : List V} (h : KiO H b) (e : H b = some (.lst xs)) : False := by
  rcases h with ⟨_, _, _, z⟩ | ⟨_, z⟩ <;> rw [e] at z <;> cases z
theorem KiO.tup {H : Hp} {b : Addr} {xs : List V} (h : KiO H b) (e : H b = some (.tup xs)) : False := by
  rcases h with ⟨_, _, _, z⟩ | ⟨_, z⟩ <;> rw [e] at z <;> cases z
theorem KiO.tbl {H : Hp} {b : Addr} {xs : Array Value} (h : KiO H b) (e : H b = some (.tbl xs)) : False := by
  rcases h with ⟨_, _, _, z⟩ | ⟨_, z⟩ <;> rw [e] at z <;> cases z
theorem KiO.ext {H : Hp} {b : Addr} {φ : Heap → Prop} (h : KiO H b) (e : H b = some (.ext φ)) : False := by
  rcases h with ⟨_, _, _, z⟩ | ⟨_, z⟩ <;> rw [e] at z <;> cases z
theorem NodeAt.kindsOf {c : Ad} {H : Hp} {e : Addr} {d : Dat} {ch : Fo} {F : List Addr} (hF : ∀ bs G, FoAt c H ch bs G → ∀ b ∈ G, KiO H b) (h : NodeAt c H e d ch F) : ∀ b ∈ F, KiO H b := by
  intro a ha
  rcases h.cases with ⟨_, _, dx, m, ⟨_, dm, hm⟩, he, rfl⟩ | ⟨_, dx, m, b, kvs, bs, F1, hd, rfl⟩
  · simp at ha
    rcases ha with rfl | rfl
    · exact .inl ⟨_, _, _, he⟩
    · exact .inl ⟨_, _, _, hm⟩
  · obtain ⟨_, dm, hm⟩ := hd.mo
    rcases List.mem_cons.mp ha with rfl | ha
    · exact .inl ⟨_, _, _, hd.obj⟩
    rcases List.mem_cons.mp ha with rfl | ha
    · exact .inl ⟨_, _, _, hm⟩
    rcases List.mem_cons.mp ha with rfl | ha
    · exact .inr ⟨_, hd.dict⟩
    · exact hF bs F1 hd.fo a ha
theorem FoAt.kindsOf {c : Ad} {H : Hp} : ∀ {fo : Fo} {as : List (Str × Addr)} {F : List Addr}, FoAt c H fo as F → ∀ b ∈ F, KiO H b
  | .nil, _, F, h, b, hb => by rw [h.2] at hb; cases hb
  | .cons x d ch rest, as, F, h, b, hb => by
    obtain ⟨e, as', F1, F2, e1, rfl, h1, h2⟩ := h
    rcases List.mem_append.mp hb with z | z
    · exact NodeAt.kindsOf (fun bs G hG => FoAt.kindsOf hG) h1 b z
    · exact FoAt.kindsOf h2 b z
theorem NodeAt.kinds {c : Ad} {H : Hp} {e : Addr} {d : Dat} {ch : Fo} {F : List Addr} (h : NodeAt c H e d ch F) : ∀ b ∈ F, KiO H b := NodeAt.kindsOf (fun bs G hG => FoAt.kindsOf hG) h
/-- what was made since H stays, but tables -/
def NewKept (H H2 H3 : Hp) : Prop := ∀ b o, H2 b = some o → H b = none → (∀ ps, o ≠ .tbl ps) → H3 b = some o
/-- tree.attempt(deed), told of the deed's promise -/
def spAtt (c : Ad) (c' : Addr) (q : Str) (spD : Sp) (t : Addr) (H : Hp) (Q : VK) (E : XK) : Prop := ∃ (k : Nd) (F : List Addr), TreeAt c H t k F ∧ Fo.NdOk k ∧ k.2.depth ≤ 12 ∧ k.2.size < 64 ∧ H c' = some (CodeO c' q) ∧
  ∀ (H2 : Hp) (Q' : VK) (E' : XK), Grow H H2 → (∀ v H3, NewKept H H2 H3 → Q v H3 → Q' v H3) →
    (∀ cls d H3, NewKept H H2 H3 → (cls = .ref c.NE ∨ cls = .type "KeyError") → (∃ k3 F3, TreeAt c H3 t k3 F3) →
      (∀ H4 F4, (∀ b o, H3 b = some o → b ≠ t → H4 b = some o) → TreeAt c H4 t k F4 → (∀ b ∈ F4, H b = none) → E cls d H4) → E' cls d H3) → spD [.ref t] H2 Q' E'
section
variable {P : Program} {w : World} {K : PySem.W.Frag} {mg : Str → Option Value} {base : Heap} {c : Ad}
theorem sc_att : FnScope ["self", "deed", "held"] ["self", "deed"] (defScope s_Tree_attempt) := ⟨rfl, rfl, rfl, by decide +kernel, rfl, by decide +kernel, by decide +kernel⟩
theorem att_run {k : Nat} (Z : Cs K mg c) (wi : Wi P w K mg base 29 c.TT (spTEn c) spTExN (spTExQ c)) (tr : Me P w K mg base CX0 4 c.T "trial" (spTrial c)) {fa : Addr} {fd : FuncData} (Fa : Fun K "attempt" "Tree.attempt" s_Tree_attempt fa fd) (hk29 : 29 ≤ k)
    {A : Around} (hg : A.guards = some []) {outer : List Env} {s : Shared} {H : Hp} {t f c' : Addr} {q : Str} {spD : Sp} {Q : VK} {E : XK} (hr : Room (k + 1) A) (e0 : Env0 P w K mg base A outer s H) (D : Deed P w K mg base k outer s H f c' q spD) (h : spAtt c c' q spD t H Q E) :
    codeAny (model P w) A (.call (.ref fa) ⟨[.ref t, .ref f], []⟩) (CR (L2.CX P w) outer P w H s Q E) s := by
  have hbd := Fa.binds (ps := ["self", "deed"]) (fun _ _ _ _ _ _ us hl => match us, hl with | [_, _], _ => rfl)
  obtain ⟨oc, od, kV, doc, pm, an, cdv, ct, osl, rfl, lk, hcd⟩ := Fa.ex
  have KX : K.In s.heap := e0.mod.kin.keeps fun b o e => (e0.bs b o e).1
  refine run_ofS (N := ["self", "deed", "held"]) (ps := ["self", "deed"]) (us := [.ref t, .ref f]) (vs := [.ref t, .ref f]) lk hcd sc_att hr e0 (by have := hbd s [.ref t, .ref f] KX rfl; simpa using this) (.cons (show RelV (.ref t) (.ref t) from rfl) (.cons (show RelV (.ref f) (.ref f) from rfl) .nil)) rfl fun hr' => ?_
  have tk : Takes (cxOf (L2.CX P w) P w K mg base ["self", "deed", "held"] "Tree.attempt" (defScope s_Tree_attempt) fa cdv A outer s H E) (fun cls d _ H => E cls d H) := takes_of rfl rfl rfl rfl
  refine ⟨_, pss_one (ps_with (j := k) (i := 2) (y := "held") wi hr' hk29 rfl rfl rfl sc_att.nd rfl (.inl rfl) (.inr rfl) tk (pe_me0 tr hr' (by omega) pass0 (pv 0))
    (fun W pn xe tkW _ => pss_one (ps_ret (pe_deed (i := 1) (E := fun cls d H' => ∀ σ', W cls d σ' H') D hg tkW (fun _ _ _ _ z => z _) hr' (Nat.le_refl _) rfl (.inl rfl) (pa_cons (pv 2) pa_nil))))), ?_⟩
  obtain ⟨kd, F, hT, hk, hdp, hsz, hc, hD⟩ := h
  obtain ⟨dt, top, eT, hn, nd, nt⟩ := id hT
  refine ⟨_, rfl, t, dt, _, rfl, eT, rfl, t, rfl, fun H1 x dx g1 hx ex => ?_⟩
  have tx : t ≠ x := fun z => by rw [z, hx] at eT; cases eT
  refine ⟨x, dx, _, rfl, ex, x, dx, t, kd, F, rfl, ex, hT.grow g1, hk, hdp, hsz, fun H2 p Fp k2 ex2 np ndp frp => ?_⟩
  have g2 : Grow H H2 := fun a o z => k2 a o (g1 a o z) (by simp; rintro rfl; rw [hx] at z; cases z)
  have frp0 : ∀ b ∈ Fp, H b = none := fun b hb => none_grow g1 (frp b hb)
  refine ⟨rfl, _, rfl, g2 _ _ hc, ?_⟩
  refine hD H2 _ _ g2 (fun v H3 nk qv => ?_) (fun cls d H3 nk hcls hT3 hE σ' => ?_)
  · exact ⟨x, rfl, qv⟩
  obtain ⟨k3, F3, dt3, top3, eT3, _, _, _⟩ := hT3
  have ex3 := nk _ _ ex2 hx (fun _ z => by cases z)
  have tp : t ∉ Fp := fun z => by rw [frp0 t z] at eT; cases eT
  have np3 : NodeAt c H3 p kd.1 kd.2 Fp := np.keep fun b hb o z => nk b o z (frp0 b hb) fun ps y => (np.kinds b hb).tbl (z.trans (congrArg some y))
  have fin : ∀ vc : V, vc ≠ .non → RelV vc cls → wWith x (spTExQ c) (fun cls d _ H => E cls d H) cls d σ' H3 := fun vc hvc rv => by
    refine ⟨vc, rv, fun e T _ _ => ⟨x, dx, t, p, dt3, vc, .ref e, T, .ref top3, rfl, hvc, ex3, eT3, rfl, ?_⟩⟩
    refine hE _ Fp (fun b o z n => by rw [upd_ne n]; exact z) ⟨dt3, p, upd_same, np3.keep fun b hb o z => by rw [upd_ne (fun y => tp (by rw [← y]; exact hb))]; exact z, ndp, tp⟩ frp0
  rcases hcls with rfl | rfl
  · exact fin (.ref c.NE) (by simp) rfl
  · exact fin (.ty "KeyError") (by simp) rfl
end
end K18
namespace K18
open PySem PySem.Spec PyProof.Rows L2 NdefX StX LamX
theorem CellsAt.un {cl : List (Str × Addr)} {fr : List Str} {ws : List (Option V)} {fs : List Addr} {h h1 : Heap} {H HZ : Hp} (C : CellsAt cl fr ws h H) (u : Un fs [] H HZ h h1) : CellsAt cl fr ws h1 HZ := by
  have kp : ∀ {c : Addr} {v : Option Value}, H c = none → h.IsCell c v → h1.IsCell c v := fun {c v} n ⟨o, ho, hd⟩ => by
    obtain ⟨sl, q⟩ := u.any ho n (by simp)
    exact ⟨_, q, hd⟩
  refine ⟨C.len, fun y c e => ?_, C.inj, fun i y e => ?_⟩
  · obtain ⟨n, v, z⟩ := C.all y c e
    obtain ⟨o, ho, hd⟩ := id z
    exact ⟨u.free c o ho n (by simp), v, kp n z⟩
  · obtain ⟨c, hc, hv⟩ := C.has i y e
    refine ⟨c, hc, fun v ev => ?_⟩
    obtain ⟨u', r, z⟩ := hv v ev
    exact ⟨u', r, kp (C.all y c hc).1 z⟩
/-- the lambda's words -/
abbrev lamF (qual : Str) (params : Arguments) (scope : Scope) (cl : List (Str × Addr)) (c' : Addr) : NF := ⟨"<lambda>", qual, params, [], scope, cl, c'⟩
section
variable {X : Cx} {pins : List (Addr × Obj)} {σ : L2.St} {H : Hp} {s : Shared}
theorem deed_of {params : Arguments} {body : Expr} {scope : Scope} {cl : List (Str × Addr)} {f c' : Addr} {pm ctv : Value} {q y : Str} {Nl fr : List Str} {ws : List (Option V)} {k : Nat} {sp : List (Option V) → Sp} (I : L2.Inv X pins σ H s) (S : NScope Nl [y] fr scope) (C : CellsAt cl fr ws s.heap H)
    (hf : s.heap.get? f = some (PySem.W.kla_obj "<lambda>" q params body scope cl pm c' ctv)) (hfn : H f = none) (hfr : f ∉ frs X.stack)
    (hbind : ∀ u : Value, bindArgs (PySem.W.kla_fn "<lambda>" q params body scope cl pm (.ref c') ctv) ⟨[u], []⟩ = pure [(y, u)]) (len : ∀ ws vs H Q E, sp ws vs H Q E → vs.length = 1)
    (hbody : ∀ (A : Around) (outer : List Env) (s : Shared) (H : Hp) (vs : List V) (Q : VK) (E : XK), Room k (A.deeper (envF (lamF q params scope cl c') f s.heap.objs.size)) → A.guards = some [] → sp ws vs H Q E →
      ∃ t, PE (ncx (L2.CX X.prog X.w) X.prog X.w X.K X.mg X.base Nl (lamF q params scope cl c') f A outer s H E) body t ∧ t (startF Nl vs ws) H Q) :
    Deed X.prog X.w X.K X.mg X.base (k + 1) X.stack s H f c' q (sp ws) := by
  refine ⟨⟨_, _, _, _, hf⟩, hfn, hfr, fun A' outer' s1 HZ us vs Q E hr hg e0 un hc r hsp => ?_⟩
  have hl := len _ _ _ _ _ hsp
  obtain ⟨u, rfl⟩ : ∃ u, us = [u] := by
    have := r.length
    rw [hl] at this
    match us, this with
    | [u], _ => exact ⟨u, rfl⟩
  have of1 : s1.heap.get? f = some (PySem.W.kla_obj "<lambda>" q params body scope cl pm c' ctv) := un.keep f _ hf hfn hfr (fun z => nomatch z)
  have lim : s1.heap.NoLimit := e0.mod.nolimit.keeps fun b o e => (e0.bs b o e).1
  obtain ⟨⟨oc, vcs, tk, hoc, hdc, hvc⟩, _, _⟩ := e0.hok c' _ hc
  refine PySem.W.kla_callFunE hr.depth of1 rfl S.co S.gen rfl ⟨c', oc, vcs, tk, rfl, hoc, hdc, hvc⟩ ?_
  rw [hbind]
  refine wpAny_pure (wpAny_newFunctionEnv S.nocell (fun y' hy => ?_) (fun h₁ hns hsb => ⟨lim.fresh _ hsb, ?_⟩) S.kind)
  · rw [List.mem_singleton.mp hy]
    exact S.par y (by simp)
  show codeAny _ _ (.expr body (envF (lamF q params scope cl c') f s1.heap.objs.size)) _ _
  have kp : ∀ b o, s1.heap.get? b = some o → h₁.get? b = some o := fun b o e => hsb.extBut b o (Nat.ne_of_lt (Heap.lt_size e)) (Heap.get?_push_of_some _ e)
  have J : L2.Inv (ncx (L2.CX X.prog X.w) X.prog X.w X.K X.mg X.base Nl (lamF q params scope cl c') f A' outer' s1 HZ E) [] (startF Nl vs ws) HZ { s1 with heap := h₁, toks := s1.toks + ([(y, u)] : List (Str × Value)).length } :=
    inv_startN (F := lamF q params scope cl c') (us := [u]) S hr.hd e0 (by rw [hl]; rfl) r (CellsAt.un C un) hns kp
  obtain ⟨t, ht, hq⟩ := hbody A' outer' s1 HZ vs Q E (hr.deeper _) hg hsp
  refine PySem.W.kla_codeExpr (wpAny_mono (ht.run [] _ _ HZ Q J hq) (fun v s' hq => ?_) fun e s' hq => hq)
  obtain ⟨w', H', J', rv, q'⟩ := hq
  exact ⟨w', H', J'.os, J'.bare, J'.base, J'.hok, rv, q'⟩
/-- tree.attempt(lambda held: ..): the reading -/
def tAttL (c : Ad) (T : List (Addr × Str)) (q : Str) (js : List Nat) (sp : List (Option V) → Sp) (E : L2.St → XK) (ta : TE) : TE := fun σ H Q => ta σ H fun x H1 => ∃ t dx fs, x = .ref t ∧ H1 t = some (.ins c.T dx fs) ∧ fs.lookup ("attempt" : Str) = none ∧ Tabs T H1 ∧
  ∀ H2 c', ExtN H1 H2 → Tabs T H2 → H2 c' = some (CodeO c' q) → spAtt c c' q (sp (js.map (slotAt σ))) t H2 Q (E σ)
theorem pe_attl {c : Ad} {T : List (Addr × Str)} {cd Pt : Addr} {k j : Nat} {fa : Addr} {fd : FuncData} {o : Expr} {params : Arguments} {body : Expr} {scope : Scope} {y : Str} {Nl fr : List Str} {js : List Nat} {sp : List (Option V) → Sp} {E : L2.St → XK} {ta : TE} {lpos apos pos : Pos} {pl : Sem Bool} (Z : Cs X.K X.mg c) (wi : Wi X.prog X.w X.K X.mg X.base 29 c.TT (spTEn c) spTExN (spTExQ c)) (tr : Me X.prog X.w X.K X.mg X.base CX0 4 c.T "trial" (spTrial c))
    (Fa : Fun X.K "attempt" "Tree.attempt" s_Tree_attempt fa fd) (hm : Meth X.K c.T "attempt" fa) (hk29 : 29 ≤ k + 1) (hg : X.A.guards = some []) (hr : Room j X.A) (hkj : k + 2 ≤ j) (hx : ∀ (pins : List (Addr × Obj)) (σ : L2.St) (H : Hp) (s : Shared) (e : Value) (s' : Shared), L2.Inv X pins σ H s → L2.CX X.prog X.w X.stack H s (E σ) e s' → X.xe e s') (ho : PE X o ta)
    (TB : TabB X.base X.mg cd Pt) (hcode : X.env.code = .ref cd) (hmT : (Pt, X.env.qual ++ "<lambda>") ∈ T) (hu : ∀ p ∈ T, p.1 = Pt → p.2 = X.env.qual ++ "<lambda>") (hdef : defaultsOf params X.env = ([], []))
    (hfree : ∀ y ∈ scope.names, y.2 = .free → X.env.scope.names.lookup y.1 = some .cell ∨ X.env.scope.names.lookup y.1 = some .free) (hfr : ∀ y ∈ fr, (y, NameKind.free) ∈ scope.names) (hjs : js.map (fun j => X.N[j]?) = fr.map some)
    (S : NScope Nl [y] fr scope) (hbind : ∀ (u : Value) (q : Str) (cl : List (Str × Addr)) (pm cv ctv : Value), bindArgs (PySem.W.kla_fn "<lambda>" q params body scope cl pm cv ctv) ⟨[u], []⟩ = pure [(y, u)]) (len : ∀ ws vs H Q E, sp ws vs H Q E → vs.length = 1)
    (hbody : ∀ (cl : List (Str × Addr)) (f c' : Addr) (ws : List (Option V)) (A : Around) (outer : List Env) (s : Shared) (H : Hp) (vs : List V) (Q : VK) (E : XK), Room k (A.deeper (envF (lamF (X.env.qual ++ "<lambda>") params scope cl c') f s.heap.objs.size)) → A.guards = some [] → sp ws vs H Q E →
      ∃ t, PE (ncx (L2.CX X.prog X.w) X.prog X.w X.K X.mg X.base Nl (lamF (X.env.qual ++ "<lambda>") params scope cl c') f A outer s H E) body t ∧ t (startF Nl vs ws) H Q)
    (ht : eval (.Call (.Attribute o "attempt" apos) [.Lambda params body scope lpos] [] pos) X.env = (do
      let ov ← eval o X.env
      standAt apos.atName
      let (f, first) ← holding [ov] (getMethod ov "attempt" pl)
      callWith pos f first (backTo pos (starEach [.Lambda params body scope lpos] X.env)) (backToKw pos (keywordEach [] X.env))) := by rfl) :
    PE X (.Call (.Attribute o "attempt" apos) [.Lambda params body scope lpos] [] pos) (tAttL c T (X.env.qual ++ "<lambda>") js sp E ta) := by
  refine ⟨fun pins s σ H Q I h => ?_⟩
  refine PySem.W.methodCall_KW (pl := pl) (thn (ho.run pins s σ H _ I h) fun u s1 ⟨x, H1, I1, rx, t, dx, fs, ex, et, lk, hT, q⟩ => ?_) ht
  subst ex
  obtain rfl : u = Value.ref t := rx
  have hfree2 : ∀ y ∈ scope.names, y.2 = .free → ∃ c, X.env.cells.lookup y.1 = some c := fun y hy e => (hfree y hy e).elim (fun z => I1.ok.has _ (.inl z)) fun z => I1.ok.has _ (.inr z)
  refine getmeth_ok I1 et Z.oT.cls hm lk ?_
  refine PySem.W.callWith_K (first := [.ref t]) (h₀ := X.base) I1.ok.mod.kin hm.kp ?_ (by rfl) (by rfl)
  show wpAny _ _ (spliced ((false, eval (.Lambda params body scope lpos) X.env) :: backTo pos (starEach [] X.env))) _ _ s1
  refine Calls.spliced_cons (lam_make2 I1 TB hcode hmT hu hT hdef hfree2 fun f c' pm' ctv H2 s2 I2 eN T2 hf hfn hfr' hco => ?_)
  refine Calls.spliced_nil ⟨I2.kIn, ?_⟩
  have C : CellsAt (cloFrom X.env.cells scope.names []) fr (js.map (slotAt σ)) s2.heap H2 := cells_of I2 (Caps.made I2.ok hfree hfr hjs)
  have D := deed_of (k := k) (sp := sp) I2 S C hf hfn hfr' (fun u => hbind u _ _ _ _ _) len (fun A outer s H vs Q E hr' hg hs => hbody _ f c' _ A outer s H vs Q E hr' hg hs)
  refine wpAny_call (codeAny_mono (att_run Z wi tr Fa hk29 hg (hr.mono hkj) I2.env0 D (q H2 c' eN T2 hco)) fun r s3 hq => ?_)
  cases r with
  | error e => exact hx pins σ H2 s2 e s3 I2 hq
  | ok fl =>
    cases fl with
    | ret u => exact I2.after hq
    | next => exact False.elim hq
    | brk => exact False.elim hq
    | cont => exact False.elim hq
end
end K18
namespace K18
open PySem PySem.Spec PyProof.Rows L2 NdefX StX LamX
/-! ### the pen -/
def PenAt (H : Hp) (pn : Addr) (n : Nat) : Prop := ∃ (L : Addr) (zs : List Int) (a : Nat) (g : Int), H pn = some (.lst [.ref L, .int (a : Int), .int g]) ∧ H L = some (.lst (zs.map V.int)) ∧ zs.length ≤ 63 ∧ a ≤ n ∧ 0 ≤ g
theorem PenAt.keep {H H' : Hp} {pn : Addr} {n m : Nat} (h : PenAt H pn n) (k : Kp [] H H') (hm : n ≤ m) : PenAt H' pn m := by
  obtain ⟨L, zs, a, g, h1, h2, h3, h4, h5⟩ := h
  exact ⟨L, zs, a, g, k _ _ h1 (by simp), k _ _ h2 (by simp), h3, by omega, h5⟩
section
variable {P : Program} {w : World} {K : PySem.W.Frag} {mg : Str → Option Value} {base : Heap} {c : Ad}
def spDraw : Sp := fun vs H Q _ => ∃ (pn : Addr) (m n : Nat), vs = [.ref pn, .int (m : Int)] ∧ 1 ≤ m ∧ m ≤ 1000000 ∧ PenAt H pn n ∧ n ≤ 100000 ∧ ∀ (r : Nat) H', r < m → Kp [pn] H H' → PenAt H' pn (n + 1) → Q (.int (r : Int)) H'
abbrev NDr : List Str := ["_law_pen_here", "_law_many", "_law_digit", "_law_at", "_law_cell", "_law_great", "_law_mixed"]
theorem sc_draw : FnScope NDr ["_law_pen_here", "_law_many"] (defScope s_law_draw) := ⟨rfl, rfl, rfl, by decide +kernel, rfl, by decide +kernel, by decide +kernel⟩
theorem fin_pow {x : Int} (h1 : 0 ≤ x) (h2 : x < 2 ^ 64) : CPow x 5 ∧ CPow x 3 := ⟨⟨by decide, by decide, by omega⟩, ⟨by decide, by decide, by omega⟩⟩
theorem dp_ints {K : PySem.W.Frag} {H : Hp} : ∀ (zs : List Int), DpAll K H (zs.map V.int) (zs.map PyData.int)
  | [] => .nil
  | z :: r => .cons (.int z) (dp_ints r)
theorem lay_ints : ∀ (zs : List Int), PyData.canLayAll0 (zs.map PyData.int) = true ∧ PyData.depthAll (zs.map PyData.int) ≤ 1
  | [] => by simp [PyData.canLayAll0, PyData.depthAll]
  | z :: r => by
    obtain ⟨h1, h2⟩ := lay_ints r
    simp [PyData.canLayAll0, PyData.depthAll, PyData.canLay0, PyData.depth, h1]
    omega
theorem shaped_ints (zs : List Int) : SeqAt.shaped (.list (zs.map PyData.int)) = true := by
  obtain ⟨h1, h2⟩ := lay_ints zs
  simp [SeqAt.shaped, PyData.canLay0, PyData.depth, h1]
  omega
theorem ca_draw (B : Bt mg) (D : Dn K mg "_law_draw" s_law_draw) : Ca P w K mg base CX0 1 "_law_draw" spDraw := by
  refine ca_ok (k := 0) D sc_draw (fun _ _ _ _ _ _ us hl => match us, hl with | [_, _], _ => rfl) (fun vs H Q E h => ?_) (fun f cdv A outer s H vs Q E hr h => ?_)
  · obtain ⟨pn, m, n, rfl, _⟩ := h
    rfl
  · obtain ⟨pn, m, n, rfl, hm1, hm2, hP, hn, q⟩ := h
    refine ⟨_, pss_cons (ps_if (pt_cmpR op_gt (pe_ix ix_list (pv 0) pe_int (fun _ _ => rfl)) pe_int (nomark _))
        (pss_cons (ps_set (i := 2) sc_draw.nd rfl (.inl rfl) (pe_op op_mod (pe_callTy call_int1 rfl B.int boot_int (pa_cons (pe_ix ix_list (pv 0) pe_int (fun _ _ => rfl)) pa_nil)) (pv 1)))
        (pss_cons (ps_asg (pe_op op_fdiv (pe_callTy call_int1 rfl B.int boot_int (pa_cons (pe_ix ix_list (pv 0) pe_int (fun _ _ => rfl)) pa_nil)) (pv 1)) (pg_sub (pv 0) pe_int set_list))
        (pss_one (ps_ret (pv 2))))) pss_nil)
      (pss_cons (ps_set (i := 3) sc_draw.nd rfl (.inl rfl) (pe_ix ix_list (pv 0) pe_int (fun _ _ => rfl)))
      (pss_cons (ps_asg (pe_op op_add (pv 3) pe_int) (pg_sub (pv 0) pe_int set_list))
      (pss_cons (ps_set (i := 4) sc_draw.nd rfl (.inl rfl) (pe_op op_add (pe_op op_mul pe_int (pv 3)) pe_int))
      (pss_cons (ps_if (pt_cmpR (op_neD hr.units) (pe_ix ix_list (pv 0) pe_int (fun _ _ => rfl)) (pe_lst pa_nil) (nomark _))
        (pss_one (ps_set (i := 4) sc_draw.nd rfl (.inl rfl) (pe_ix ix_list (pe_ix ix_list (pv 0) pe_int (fun _ _ => rfl)) (pe_op op_mod (pe_callTy call_int1 rfl B.int boot_int (pa_cons (pv 3) pa_nil)) (pe_callB call_len_seq rfl B.len boot_len (pa_cons (pe_ix ix_list (pv 0) pe_int (fun _ _ => rfl)) pa_nil))) (fun _ _ => rfl)))) pss_nil)
      (pss_cons (ps_if (PW.pt (pw_and (pt_cmpR op_lt (pv 3) (pe_callB call_len_seq rfl B.len boot_len (pa_cons (pe_ix ix_list (pv 0) pe_int (fun _ _ => rfl)) pa_nil)) (nomark _)) (pw_and1 (pt_cmpR op_ge (pe_callB call_abs rfl B.abs boot_abs (pa_cons (pv 4) pa_nil)) (pe_op op_pow pe_int pe_int) (nomark _)))))
        (pss_cons (ps_set (i := 5) sc_draw.nd rfl (.inl rfl) (pe_op op_add (pe_op op_mul pe_int (pe_op op_sub (pe_callB call_abs rfl B.abs boot_abs (pa_cons (pv 4) pa_nil)) (pe_op op_pow pe_int pe_int))) (pe_callTy call_int1 rfl B.int boot_int (pa_cons (pe_cmpR op_lt (pv 4) pe_int (nomark _)) pa_nil))))
        (pss_cons (ps_asg (pe_op op_fdiv (pe_callTy call_int1 rfl B.int boot_int (pa_cons (pv 5) pa_nil)) (pv 1)) (pg_sub (pv 0) pe_int set_list))
        (pss_one (ps_ret (pe_op op_mod (pe_callTy call_int1 rfl B.int boot_int (pa_cons (pv 5) pa_nil)) (pv 1)))))) pss_nil)
      (pss_cons (ps_set (i := 6) sc_draw.nd rfl (.inl rfl) (pe_op op_mod (pe_callTy call_int1 rfl B.int boot_int (pa_cons (pe_op op_pow (pe_op op_add (pe_op op_add (pe_op op_mod (pe_callTy call_int1 rfl B.int boot_int (pa_cons (pv 4) pa_nil)) pe_int) (pe_op op_mul pe_int (pv 3))) pe_int) pe_int) pa_nil)) pe_int))
      (pss_cons (ps_set (i := 6) sc_draw.nd rfl (.inl rfl) (pe_op op_mod (pe_callTy call_int1 rfl B.int boot_int (pa_cons (pe_op op_pow (pe_op op_add (pe_op op_add (pe_op op_mul (pv 6) (pe_op op_add (pe_op op_mul pe_int (pv 3)) pe_int)) (pe_op op_mul (pe_op op_mul pe_int (pv 3)) (pv 3))) pe_int) pe_int) pa_nil)) pe_int))
      (pss_one (ps_ret (pe_op op_mod (pe_callTy call_int1 rfl B.int boot_int (pa_cons (pe_op op_fdiv (pv 6) pe_int) pa_nil)) (pv 1))))))))))), ?_⟩
    obtain ⟨L, zs, a, g, e1, e2, hz, ha, hg⟩ := hP
    have nL : L ≠ pn := fun z => by
      rw [z, e1] at e2
      match zs, e2 with
      | x :: r, e2 => cases e2
    have mp : (0 : Int) < m := by omega
    have md : CDiv g m := ⟨mp, by omega⟩
    have mods : ∀ x : Int, ∃ r : Nat, x % (m : Int) = r ∧ r < m := fun x => ⟨(x % (m : Int)).toNat, (Int.toNat_of_nonneg (Int.emod_nonneg _ (by omega))).symm, by
      have h1 := Int.emod_nonneg x (show (m : Int) ≠ 0 by omega)
      have h2 := Int.emod_lt_of_pos x mp
      omega⟩
    have pen : ∀ (H1 : Hp) (b : Nat) (g' : Int), b ≤ n + 1 → 0 ≤ g' → (H1 L = some (.lst (zs.map V.int))) → H1 pn = some (.lst [.ref L, .int (b : Int), .int g']) → PenAt H1 pn (n + 1) := fun H1 b g' hb hg' h1 h2 => ⟨L, zs, b, g', h2, h1, hz, hb, hg'⟩
    refine ⟨_, rfl, pn, _, 2, .int g, rfl, rfl, .of e1, rfl, g, 0, rfl, rfl, decide (0 < g), rfl, ?_⟩
    by_cases hg0 : 0 < g
    · rw [decide_eq_true hg0]
      obtain ⟨r, er, hr'⟩ := mods g
      refine iteT ⟨_, rfl, pn, _, 2, .int g, rfl, rfl, .of e1, rfl, .inl ⟨g, rfl, _, rfl, g, m, rfl, rfl, mp, ?_⟩⟩
      refine ⟨_, rfl, pn, _, 2, .int g, rfl, rfl, .of e1, rfl, .inl ⟨g, rfl, _, rfl, g, m, rfl, rfl, md, _, rfl, pn, _, 2, 2, rfl, rfl, e1, rfl, _, rfl, ?_⟩⟩
      show Q (.int (g % (m : Int))) _
      rw [er]
      refine q r _ hr' (Kp.set (by simp)) (pen _ a (g / m) (by omega) (Int.ediv_nonneg (by omega) (by omega)) ?_ ?_)
      · rw [upd_ne nL]; exact e2
      · rw [upd_same]; rfl
    rw [decide_eq_false hg0]
    refine iteF ⟨_, rfl, pn, _, 1, .int (a : Int), rfl, rfl, .of e1, rfl, ?_⟩
    refine ⟨_, rfl, _, _, rfl, rfl, _, rfl, pn, _, 1, 1, rfl, rfl, e1, rfl, ?_⟩
    have f1 : upd H pn (.lst ([V.ref L, .int (a : Int), .int g].set 1 (.int ((a : Int) + 1)))) pn = some (.lst [.ref L, .int ((a + 1 : Nat) : Int), .int g]) := by rw [upd_same]; rfl
    have f2 : upd H pn (.lst ([V.ref L, .int (a : Int), .int g].set 1 (.int ((a : Int) + 1)))) L = some (.lst (zs.map V.int)) := by rw [upd_ne nL]; exact e2
    have f3 : Kp [pn] H (upd H pn (.lst ([V.ref L, .int (a : Int), .int g].set 1 (.int ((a : Int) + 1))))) := Kp.set (by simp)
    generalize upd H pn (.lst ([V.ref L, .int (a : Int), .int g].set 1 (.int ((a : Int) + 1)))) = H1 at f1 f2 f3
    refine ⟨_, rfl, 52045, a, rfl, rfl, .inl ⟨by decide, by decide⟩, _, _, rfl, rfl, ?_⟩
    refine ⟨_, rfl, pn, _, 0, .ref L, rfl, rfl, .of f1, rfl, Nat.zero_le _, fun p hp => ?_⟩
    have npn : p ≠ pn := Ne.symm (ne_of_none f1 hp)
    have npL : p ≠ L := Ne.symm (ne_of_none f2 hp)
    have h1 : upd H1 p (.lst []) pn = some (.lst [.ref L, .int ((a + 1 : Nat) : Int), .int g]) := by rw [upd_ne (Ne.symm npn)]; exact f1
    have h2 : upd H1 p (.lst []) L = some (.lst (zs.map V.int)) := by rw [upd_ne (Ne.symm npL)]; exact f2
    have h3 : Kp [pn] H (upd H1 p (.lst [])) := f3.trans (Kp.neu hp)
    have hpl : upd H1 p (.lst []) p = some (.lst []) := upd_same
    generalize upd H1 p (.lst []) = H2 at h1 h2 h3 hpl
    refine ⟨.list (zs.map PyData.int), .list [], .lst (.of h2) (dp_ints zs), .lst (.of hpl) .nil, shaped_ints zs, shaped_ints [], !zs.isEmpty, ?_, ?_⟩
    · cases zs with
      | nil => rfl
      | cons x r => rfl
    have fin : ∀ x : Int, Q (.int (x % (m : Int))) H2 := fun x => by
      obtain ⟨r, er, hr'⟩ := mods x
      rw [er]
      exact q r _ hr' h3 (pen _ (a + 1) g (by omega) hg h2 h1)
    have fin2 : ∀ x : Int, 0 ≤ x → Q (.int (x % (m : Int))) (upd H2 pn (.lst ([V.ref L, .int ((a + 1 : Nat) : Int), .int g].set 2 (.int (x / m))))) := fun x hx => by
      obtain ⟨r, er, hr'⟩ := mods x
      rw [er]
      refine q r _ hr' (h3.trans (Kp.set (by simp))) (pen _ (a + 1) (x / m) (by omega) (Int.ediv_nonneg hx (by omega)) ?_ ?_)
      · rw [upd_ne nL]; exact h2
      · rw [upd_same]; rfl
    have a0 : (0 : Int) ≤ (a : Int) := by omega
    have a1 : (a : Int) ≤ 100000 := by omega
    have b1 : ∀ x : Int, 0 ≤ x % 2147483587 + 52037 * (a : Int) + 426 ∧ x % 2147483587 + 52037 * (a : Int) + 426 < 2 ^ 64 := fun x => by
      have h1 := Int.emod_nonneg x (show (2147483587 : Int) ≠ 0 by decide)
      have h2 := Int.emod_lt_of_pos x (show (0 : Int) < 2147483587 by decide)
      constructor <;> omega
    have b2 : ∀ x : Int, 0 ≤ x % 2147483629 * (2 * (a : Int) + 77) + 61345 * (a : Int) * (a : Int) + 17 ∧ x % 2147483629 * (2 * (a : Int) + 77) + 61345 * (a : Int) * (a : Int) + 17 < 2 ^ 64 := fun x => by
      have h1 := Int.emod_nonneg x (show (2147483629 : Int) ≠ 0 by decide)
      have h2 := Int.emod_lt_of_pos x (show (0 : Int) < 2147483629 by decide)
      have u1 : 0 ≤ x % 2147483629 * (2 * (a : Int) + 77) := Int.mul_nonneg h1 (by omega)
      have u2 : x % 2147483629 * (2 * (a : Int) + 77) ≤ 2147483629 * 200077 := Int.mul_le_mul (by omega) (by omega) (by omega) (by decide)
      have u3 : 0 ≤ 61345 * (a : Int) * (a : Int) := Int.mul_nonneg (by omega) a0
      have u4 : 61345 * (a : Int) * (a : Int) ≤ 6134500000 * 100000 := Int.mul_le_mul (by omega) a1 a0 (by decide)
      constructor <;> omega
    by_cases hzn : zs = []
    · have : (!zs.isEmpty) = false := by rw [hzn]; rfl
      rw [this]
      refine iteF ?_
      refine ⟨_, rfl, _, rfl, pn, _, 0, .ref L, rfl, rfl, .of h1, rfl, L, _, rfl, .inl (.of h2), (a : Int), (((zs.map V.int).length : Nat) : Int), rfl, rfl, decide ((a : Int) < (((zs.map V.int).length : Nat) : Int)), rfl, ?_⟩
      by_cases c1 : (a : Int) < (((zs.map V.int).length : Nat) : Int)
      · rw [decide_eq_true c1]
        refine iteT ⟨_, rfl, (52045 * (a : Int) + 8071), rfl, 10, 18, rfl, rfl, ⟨by decide, by decide, by decide⟩, _, _, rfl, rfl, decide ((10 : Int) ^ (18 : Int).toNat ≤ (if (52045 * (a : Int) + 8071) < 0 then -(52045 * (a : Int) + 8071) else (52045 * (a : Int) + 8071))), rfl, ?_⟩
        by_cases c2 : (10 : Int) ^ (18 : Int).toNat ≤ (if (52045 * (a : Int) + 8071) < 0 then -(52045 * (a : Int) + 8071) else (52045 * (a : Int) + 8071))
        · rw [decide_eq_true c2]
          refine iteT ⟨_, rfl, (52045 * (a : Int) + 8071), rfl, 10, 18, rfl, rfl, ⟨by decide, by decide, by decide⟩, _, _, rfl, rfl, 2, _, rfl, rfl, .inl ⟨by decide, by decide⟩, _, rfl, (52045 * (a : Int) + 8071), 0, rfl, rfl, .inr ⟨_, rfl, _, _, rfl, rfl, ?_⟩⟩
          refine ⟨_, rfl, .inl ⟨_, rfl, _, rfl, _, m, rfl, rfl, ⟨mp, by omega⟩, _, rfl, pn, _, 2, 2, rfl, rfl, h1, rfl, ?_⟩⟩
          refine ⟨_, rfl, .inl ⟨_, rfl, _, rfl, _, m, rfl, rfl, mp, fin2 _ ?_⟩⟩
          have i1 : (0 : Int) ≤ (if decide ((52045 * (a : Int) + 8071) < 0) = true then 1 else 0) := by split <;> decide
          have i2 : (0 : Int) ≤ 2 * ((if (52045 * (a : Int) + 8071) < 0 then -(52045 * (a : Int) + 8071) else (52045 * (a : Int) + 8071)) - 10 ^ (18 : Int).toNat) := Int.mul_nonneg (by decide) (by omega)
          exact Int.add_nonneg i2 i1
        rw [decide_eq_false c2]
        refine iteF ?_
        refine ⟨_, rfl, .inl ⟨_, rfl, _, 2147483587, rfl, rfl, (show (0 : Int) < 2147483587 by decide), _, rfl, 52037, a, rfl, rfl, .inl ⟨by decide, by decide⟩, _, _, rfl, rfl, _, 426, rfl, rfl, _, 5, rfl, rfl, (fin_pow (b1 _).1 (b1 _).2).1, .inl ⟨_, rfl, _, 2147483629, rfl, rfl, (show (0 : Int) < 2147483629 by decide), ?_⟩⟩⟩
        refine ⟨_, rfl, _, rfl, 2, a, rfl, rfl, .inl ⟨by decide, by decide⟩, _, _, rfl, rfl, _, 2 * (a : Int) + 77, rfl, rfl, .inr ⟨by omega, by omega⟩, _, rfl, 61345, a, rfl, rfl, .inl ⟨by decide, by decide⟩, _, rfl, _, (a : Int), rfl, rfl, .inr ⟨by omega, by omega⟩, _, _, rfl, rfl, _, _, rfl, rfl, _, 3, rfl, rfl, (fin_pow (b2 _).1 (b2 _).2).2, .inl ⟨_, rfl, _, 2147483647, rfl, rfl, (show (0 : Int) < 2147483647 by decide), ?_⟩⟩
        exact ⟨_, rfl, _, 32, rfl, rfl, ⟨by decide, by decide⟩, .inl ⟨_, rfl, _, rfl, _, m, rfl, rfl, mp, fin _⟩⟩
      rw [decide_eq_false c1]
      refine iteF (iteF ?_)
      refine ⟨_, rfl, .inl ⟨_, rfl, _, 2147483587, rfl, rfl, (show (0 : Int) < 2147483587 by decide), _, rfl, 52037, a, rfl, rfl, .inl ⟨by decide, by decide⟩, _, _, rfl, rfl, _, 426, rfl, rfl, _, 5, rfl, rfl, (fin_pow (b1 _).1 (b1 _).2).1, .inl ⟨_, rfl, _, 2147483629, rfl, rfl, (show (0 : Int) < 2147483629 by decide), ?_⟩⟩⟩
      refine ⟨_, rfl, _, rfl, 2, a, rfl, rfl, .inl ⟨by decide, by decide⟩, _, _, rfl, rfl, _, 2 * (a : Int) + 77, rfl, rfl, .inr ⟨by omega, by omega⟩, _, rfl, 61345, a, rfl, rfl, .inl ⟨by decide, by decide⟩, _, rfl, _, (a : Int), rfl, rfl, .inr ⟨by omega, by omega⟩, _, _, rfl, rfl, _, _, rfl, rfl, _, 3, rfl, rfl, (fin_pow (b2 _).1 (b2 _).2).2, .inl ⟨_, rfl, _, 2147483647, rfl, rfl, (show (0 : Int) < 2147483647 by decide), ?_⟩⟩
      exact ⟨_, rfl, _, 32, rfl, rfl, ⟨by decide, by decide⟩, .inl ⟨_, rfl, _, rfl, _, m, rfl, rfl, mp, fin _⟩⟩
    · have : (!zs.isEmpty) = true := by cases zs with | nil => exact absurd rfl hzn | cons x r => rfl
      rw [this]
      have hzp : 0 < zs.length := List.length_pos_iff.mpr hzn
      have hlt : a % zs.length < zs.length := Nat.mod_lt _ hzp
      refine iteT ⟨_, rfl, pn, _, 0, .ref L, rfl, rfl, .of h1, rfl, _, rfl, .inl ⟨a, rfl, _, rfl, pn, _, 0, .ref L, rfl, rfl, .of h1, rfl, L, _, rfl, .inl (.of h2), a, _, rfl, rfl, ?_, L, _, _, .int zs[a % zs.length], rfl, rfl, .of h2, ?_, ?_⟩⟩
      · show (0 : Int) < ((zs.map V.int).length : Nat)
        rw [List.length_map]; omega
      · rw [List.length_map, ← Int.natCast_emod]
        exact atI_nat (by rw [List.getElem?_map, List.getElem?_eq_getElem hlt]; rfl)
      refine ⟨_, rfl, _, rfl, pn, _, 0, .ref L, rfl, rfl, .of h1, rfl, L, _, rfl, .inl (.of h2), (a : Int), (((zs.map V.int).length : Nat) : Int), rfl, rfl, decide ((a : Int) < (((zs.map V.int).length : Nat) : Int)), rfl, ?_⟩
      by_cases c1 : (a : Int) < (((zs.map V.int).length : Nat) : Int)
      · rw [decide_eq_true c1]
        refine iteT ⟨_, rfl, (zs[a % zs.length]), rfl, 10, 18, rfl, rfl, ⟨by decide, by decide, by decide⟩, _, _, rfl, rfl, decide ((10 : Int) ^ (18 : Int).toNat ≤ (if (zs[a % zs.length]) < 0 then -(zs[a % zs.length]) else (zs[a % zs.length]))), rfl, ?_⟩
        by_cases c2 : (10 : Int) ^ (18 : Int).toNat ≤ (if (zs[a % zs.length]) < 0 then -(zs[a % zs.length]) else (zs[a % zs.length]))
        · rw [decide_eq_true c2]
          refine iteT ⟨_, rfl, (zs[a % zs.length]), rfl, 10, 18, rfl, rfl, ⟨by decide, by decide, by decide⟩, _, _, rfl, rfl, 2, _, rfl, rfl, .inl ⟨by decide, by decide⟩, _, rfl, (zs[a % zs.length]), 0, rfl, rfl, .inr ⟨_, rfl, _, _, rfl, rfl, ?_⟩⟩
          refine ⟨_, rfl, .inl ⟨_, rfl, _, rfl, _, m, rfl, rfl, ⟨mp, by omega⟩, _, rfl, pn, _, 2, 2, rfl, rfl, h1, rfl, ?_⟩⟩
          refine ⟨_, rfl, .inl ⟨_, rfl, _, rfl, _, m, rfl, rfl, mp, fin2 _ ?_⟩⟩
          have i1 : (0 : Int) ≤ (if decide ((zs[a % zs.length]) < 0) = true then 1 else 0) := by split <;> decide
          have i2 : (0 : Int) ≤ 2 * ((if (zs[a % zs.length]) < 0 then -(zs[a % zs.length]) else (zs[a % zs.length])) - 10 ^ (18 : Int).toNat) := Int.mul_nonneg (by decide) (by omega)
          exact Int.add_nonneg i2 i1
        rw [decide_eq_false c2]
        refine iteF ?_
        refine ⟨_, rfl, .inl ⟨_, rfl, _, 2147483587, rfl, rfl, (show (0 : Int) < 2147483587 by decide), _, rfl, 52037, a, rfl, rfl, .inl ⟨by decide, by decide⟩, _, _, rfl, rfl, _, 426, rfl, rfl, _, 5, rfl, rfl, (fin_pow (b1 _).1 (b1 _).2).1, .inl ⟨_, rfl, _, 2147483629, rfl, rfl, (show (0 : Int) < 2147483629 by decide), ?_⟩⟩⟩
        refine ⟨_, rfl, _, rfl, 2, a, rfl, rfl, .inl ⟨by decide, by decide⟩, _, _, rfl, rfl, _, 2 * (a : Int) + 77, rfl, rfl, .inr ⟨by omega, by omega⟩, _, rfl, 61345, a, rfl, rfl, .inl ⟨by decide, by decide⟩, _, rfl, _, (a : Int), rfl, rfl, .inr ⟨by omega, by omega⟩, _, _, rfl, rfl, _, _, rfl, rfl, _, 3, rfl, rfl, (fin_pow (b2 _).1 (b2 _).2).2, .inl ⟨_, rfl, _, 2147483647, rfl, rfl, (show (0 : Int) < 2147483647 by decide), ?_⟩⟩
        exact ⟨_, rfl, _, 32, rfl, rfl, ⟨by decide, by decide⟩, .inl ⟨_, rfl, _, rfl, _, m, rfl, rfl, mp, fin _⟩⟩
      rw [decide_eq_false c1]
      refine iteF (iteF ?_)
      refine ⟨_, rfl, .inl ⟨_, rfl, _, 2147483587, rfl, rfl, (show (0 : Int) < 2147483587 by decide), _, rfl, 52037, a, rfl, rfl, .inl ⟨by decide, by decide⟩, _, _, rfl, rfl, _, 426, rfl, rfl, _, 5, rfl, rfl, (fin_pow (b1 _).1 (b1 _).2).1, .inl ⟨_, rfl, _, 2147483629, rfl, rfl, (show (0 : Int) < 2147483629 by decide), ?_⟩⟩⟩
      refine ⟨_, rfl, _, rfl, 2, a, rfl, rfl, .inl ⟨by decide, by decide⟩, _, _, rfl, rfl, _, 2 * (a : Int) + 77, rfl, rfl, .inr ⟨by omega, by omega⟩, _, rfl, 61345, a, rfl, rfl, .inl ⟨by decide, by decide⟩, _, rfl, _, (a : Int), rfl, rfl, .inr ⟨by omega, by omega⟩, _, _, rfl, rfl, _, _, rfl, rfl, _, 3, rfl, rfl, (fin_pow (b2 _).1 (b2 _).2).2, .inl ⟨_, rfl, _, 2147483647, rfl, rfl, (show (0 : Int) < 2147483647 by decide), ?_⟩⟩
      exact ⟨_, rfl, _, 32, rfl, rfl, ⟨by decide, by decide⟩, .inl ⟨_, rfl, _, rfl, _, m, rfl, rfl, mp, fin _⟩⟩
end
end K18
namespace K18
open PySem PySem.Spec PyProof.Rows L2 NdefX StX LamX
theorem PenAt.mono {H : Hp} {pn : Addr} {n m : Nat} (h : PenAt H pn n) (hm : n ≤ m) : PenAt H pn m := by
  obtain ⟨L, zs, a, g, h1, h2, h3, h4, h5⟩ := h
  exact ⟨L, zs, a, g, h1, h2, h3, by omega, h5⟩
theorem PenAt.grow {H H' : Hp} {pn : Addr} {n : Nat} (h : PenAt H pn n) (k : Grow H H') : PenAt H' pn n := by
  obtain ⟨L, zs, a, g, h1, h2, h3, h4, h5⟩ := h
  exact ⟨L, zs, a, g, k _ _ h1, k _ _ h2, h3, by omega, h5⟩
section
variable {P : Program} {w : World} {K : PySem.W.Frag} {mg : Str → Option Value} {base : Heap} {c : Ad}
def spPick : Sp := fun vs H Q _ => ∃ (pn l : Addr) (xs : List V) (n : Nat), vs = [.ref pn, .ref l] ∧ H l = some (.lst xs) ∧ l ≠ pn ∧ 1 ≤ xs.length ∧ xs.length ≤ 1000 ∧ PenAt H pn n ∧ n ≤ 100000 ∧ ∀ v H', v ∈ xs → Kp [pn] H H' → PenAt H' pn (n + 1) → Q v H'
theorem sc_pick : FnScope ["_law_pen_here", "_law_some"] ["_law_pen_here", "_law_some"] (defScope s_law_pick) := ⟨rfl, rfl, rfl, by decide +kernel, rfl, by decide +kernel, by decide +kernel⟩
theorem ca_pick (B : Bt mg) (dr : Ca P w K mg base CX0 1 "_law_draw" spDraw) (D : Dn K mg "_law_pick" s_law_pick) : Ca P w K mg base CX0 2 "_law_pick" spPick := by
  refine ca_ok (k := 1) D sc_pick (fun _ _ _ _ _ _ us hl => match us, hl with | [_, _], _ => rfl) (fun vs H Q E h => ?_) (fun f cdv A outer s H vs Q E hr h => ?_)
  · obtain ⟨pn, l, xs, n, rfl, _⟩ := h
    rfl
  · obtain ⟨pn, l, xs, n, rfl, hl, hne, h1, h2, hP, hn, q⟩ := h
    refine ⟨_, pss_one (ps_ret (pe_ix ix_list (pv 1) (pe_ca dr hr (by decide) pass0 rfl (pa_cons (pv 0) (pa_cons (pe_callB call_len_seq rfl B.len boot_len (pa_cons (pv 1) pa_nil)) pa_nil))) (fun _ _ => rfl))), ?_⟩
    refine ⟨_, rfl, _, rfl, _, rfl, l, xs, rfl, .inl (.of hl), pn, xs.length, n, rfl, h1, by omega, hP, hn, fun r H1 hr' k1 p1 => ?_⟩
    exact ⟨l, xs, r, xs[r], rfl, rfl, .of (k1 _ _ hl (by simpa using hne)), atI_nat (List.getElem?_eq_getElem hr'), q _ _ (List.getElem_mem hr') k1 p1⟩
def spMode : Sp := fun vs H Q _ => ∃ (pn : Addr) (n : Nat), vs = [.ref pn] ∧ PenAt H pn n ∧ n ≤ 90000 ∧ ∀ (m : Nat) H', m ≤ 511 → Kp [pn] H H' → PenAt H' pn (n + 2) → Q (.int (m : Int)) H'
theorem sc_dmode : FnScope ["_law_pen_here", "_law_way"] ["_law_pen_here"] (defScope s_law_drawn_mode) := ⟨rfl, rfl, rfl, by decide +kernel, rfl, by decide +kernel, by decide +kernel⟩
theorem ca_dmode (B : Bt mg) (dr : Ca P w K mg base CX0 1 "_law_draw" spDraw) (D : Dn K mg "_law_drawn_mode" s_law_drawn_mode) : Ca P w K mg base CX0 2 "_law_drawn_mode" spMode := by
  refine ca_ok (k := 1) D sc_dmode (fun _ _ _ _ _ _ us hl => match us, hl with | [_], _ => rfl) (fun vs H Q E h => ?_) (fun f cdv A outer s H vs Q E hr h => ?_)
  · obtain ⟨pn, n, rfl, _⟩ := h
    rfl
  · obtain ⟨pn, n, rfl, hP, hn, q⟩ := h
    refine ⟨_, pss_cons (ps_set (i := 1) sc_dmode.nd rfl (.inl rfl) (pe_ca dr hr (by decide) pass0 rfl (pa_cons (pv 0) (pa_cons pe_int pa_nil))))
      (pss_one (ps_ret (pe_ifExp (pt_cmpR op_gt (pv 1) pe_int (nomark _)) (pe_ca dr hr (by decide) pass0 rfl (pa_cons (pv 0) (pa_cons pe_int pa_nil)))
        (pe_ix ix_list (pe_lst (pa_cons pe_int (pa_cons pe_int (pa_cons pe_int (pa_cons pe_int (pa_cons pe_int (pa_cons pe_int (pa_cons pe_int (pa_cons pe_int pa_nil))))))))) (pv 1) (fun _ _ => rfl))))), ?_⟩
    refine ⟨_, rfl, pn, 12, n, rfl, by decide, by decide, hP, by omega, fun r H1 hr' k1 p1 => ?_⟩
    refine ⟨_, rfl, (r : Int), 7, rfl, rfl, decide ((7 : Int) < (r : Int)), rfl, ?_⟩
    by_cases h7 : (7 : Int) < (r : Int)
    · rw [decide_eq_true h7]
      refine iteT ⟨_, rfl, pn, 512, n + 1, rfl, by decide, by decide, p1, by omega, fun r2 H2 hr2 k2 p2 => ?_⟩
      exact q r2 H2 (by omega) (k1.trans k2) p2
    · rw [decide_eq_false h7]
      refine iteF ⟨Nat.le_of_ble_eq_true rfl, fun l hl => ?_⟩
      have all : ∀ (i : Nat), i < 8 → ∃ m : Nat, ([.int 0, .int 511, .int 448, .int 488, .int 493, .int 7, .int 56, .int 320] : List V)[i]? = some (.int (m : Int)) ∧ m ≤ 511 := by
        intro i hi
        match i, hi with
        | 0, _ => exact ⟨0, rfl, by decide⟩
        | 1, _ => exact ⟨511, rfl, by decide⟩
        | 2, _ => exact ⟨448, rfl, by decide⟩
        | 3, _ => exact ⟨488, rfl, by decide⟩
        | 4, _ => exact ⟨493, rfl, by decide⟩
        | 5, _ => exact ⟨7, rfl, by decide⟩
        | 6, _ => exact ⟨56, rfl, by decide⟩
        | 7, _ => exact ⟨320, rfl, by decide⟩
      obtain ⟨m, em, hm⟩ := all r (by omega)
      refine ⟨_, rfl, l, _, r, .int (m : Int), rfl, rfl, .of upd_same, atI_nat em, q m _ hm (k1.trans (Kp.neu hl)) ?_⟩
      exact (p1.grow fun a o z => by rw [upd_ne (ne_of_none z hl)]; exact z).mono (by omega)
end
end K18
namespace K18
open PySem PySem.Spec PyProof.Rows L2 NdefX StX LamX
/-! ### sorted(xs), xs reads as data -/
def rSortD (K : PySem.W.Frag) : List V → Hp → VK → Prop := fun xs H Q => ∃ (β : Type) (a : Addr) (vs : List V) (bs : List β) (enc : β → PyData) (R : V → β → Prop), xs = [.ref a] ∧ SqL K H a vs ∧ Paired R vs bs ∧ (∀ v b, R v b → Dp K H v (enc b)) ∧ PySem.W.AllAlike (bs.map enc) ∧ PySem.W.Sortable (bs.map enc) ∧ bs.length ≤ 1000 ∧
  (∀ b ∈ bs, (enc b).depth ≤ 32) ∧ ∀ (vs' : List V) (p : Addr), Paired R vs' (bs.mergeSort (PySem.W.dataLe false enc)) → H p = none → Q (.ref p) (upd H p (.lst vs'))
theorem each_of {β : Type} {R : V → β → Prop} : ∀ {vs : List V} {us : List Value} {bs : List β}, Paired R vs bs → Vals vs us → PySem.W.EachIs (fun u b => ∃ v, RelV v u ∧ R v b) us bs
  | _, _, _, .nil, .nil => .nil
  | _, _, _, .cons h t, .cons r s => .cons ⟨_, r, h⟩ (each_of t s)
theorem of_each {β : Type} {R : V → β → Prop} : ∀ {us : List Value} {bs : List β}, PySem.W.EachIs (fun u b => ∃ v, RelV v u ∧ R v b) us bs → ∃ vs, Paired R vs bs ∧ Vals vs us
  | _, _, .nil => ⟨[], .nil, .nil⟩
  | _, _, .cons ⟨v, r, h⟩ t => by
    obtain ⟨vs, h1, h2⟩ := of_each t
    exact ⟨v :: vs, .cons h h1, .cons r h2⟩
section
variable {X : Cx}
theorem cr_sortD (hu : X.A.units + 64 < cLine) : CallR X (.builtin "sorted") (rSortD X.K) := by
  intro pins s σ H vs us Q I r h
  obtain ⟨β, a, xs, bs, enc, R, rfl, hs, hp, hR, hal, hso, hL, hd, q⟩ := h
  obtain ⟨its, rv, hl, hz⟩ := I.list hs
  rw [Vals.ref1 r]
  have e := each_of hp rv
  refine PySem.W.sorted_data (R := fun u b => ∃ v, RelV v u ∧ R v b) (enc := enc) hl.isList e (e.mono fun u b ⟨v, r1, h1⟩ => Dp.reads I (enc b) v u (hR v b h1) r1) hal hso (Nat.le_trans hL (small_line (by decide))) (fun b hb => ?_) fun out ho he => ?_
  · have := hd b hb
    omega
  obtain ⟨vs', p1, v1⟩ := of_each he
  obtain ⟨ep, he'⟩ := PyProof.Rows.sortedAll_at s.heap its out.toArray
  have hlen : vs'.length ≤ sizeLine := by
    rw [v1.length, ho]
    exact Nat.le_trans hL (small_line (by decide))
  exact ⟨.ref _, upd H (s.heap.objs.size + 1) (.lst vs'), I.laid (t' := s.toks) (fun _ _ => PyProof.Rows.sortedAll_old) (Nat.le_succ _) ⟨hlen, out, ep, v1, he'⟩, rfl, q _ _ p1 (I.hok.fresh (Nat.le_succ _))⟩
end
/-! ### a row as data -/
abbrev Rw := List Str × Dat
def encR (r : Rw) : PyData := .list [.tuple (r.1.map .str), .str (formOf r.2), .int r.2.mode, .str r.2.own, .str r.2.grp]
theorem alike_strs : ∀ (p q : List Str), PySem.W.alikeAll (p.map .str) (q.map .str) = true
  | [], [] => by simp [PySem.W.alikeAll]
  | [], _ :: _ => by simp [PySem.W.alikeAll]
  | _ :: _, [] => by simp [PySem.W.alikeAll]
  | x :: p, y :: q => by
    show PySem.W.alikeAll (.str x :: p.map .str) (.str y :: q.map .str) = true
    rw [PySem.W.alikeAll, alike_strs p q]
    simp [PySem.W.alike]
theorem alike_rows (r q : Rw) : PySem.W.alike (encR r) (encR q) = true := by
  unfold encR
  simp [PySem.W.alike, PySem.W.alikeAll, alike_strs]
theorem depth_strs : ∀ (p : List Str), PyData.depthAll (p.map .str) = 0
  | [] => by simp [PyData.depthAll]
  | x :: p => by
    show PyData.depthAll (.str x :: p.map .str) = 0
    rw [PyData.depthAll, depth_strs p]
    simp [PyData.depth]
theorem depth_row (r : Rw) : (encR r).depth ≤ 32 := by
  unfold encR
  simp [PyData.depth, PyData.depthAll, depth_strs]
theorem sortable_rows (rs : List Rw) : PySem.W.Sortable (rs.map encR) := .others fun b => ⟨by unfold encR; simp, fun xs => by unfold encR; simp⟩
theorem allalike_rows (rs : List Rw) : PySem.W.AllAlike (rs.map encR) := .of fun b b' => alike_rows b b'
/-! ### the order of paths -/
/-- names before names, place by place -/
def plt : List Str → List Str → Prop
  | [], [] => False
  | [], _ :: _ => True
  | _ :: _, [] => False
  | x :: p, y :: q => nlt x y ∨ (x = y ∧ plt p q)
theorem plt_irrefl : ∀ p, ¬ plt p p
  | [], h => h
  | x :: p, h => h.elim (nlt_irrefl x) fun h => plt_irrefl p h.2
theorem plt_trans : ∀ {p q r : List Str}, plt p q → plt q r → plt p r
  | [], [], _, h, _ => h.elim
  | [], _ :: _, [], _, h => h.elim
  | [], _ :: _, _ :: _, _, _ => trivial
  | _ :: _, [], _, h, _ => h.elim
  | _ :: _, _ :: _, [], _, h => h.elim
  | x :: p, y :: q, z :: r, h1, h2 => by
    rcases h1 with h1 | ⟨rfl, h1⟩
    · rcases h2 with h2 | ⟨rfl, h2⟩
      · exact .inl (nlt_trans h1 h2)
      · exact .inl h1
    · rcases h2 with h2 | ⟨rfl, h2⟩
      · exact .inl h2
      · exact .inr ⟨rfl, plt_trans h1 h2⟩
theorem plt_tri : ∀ {p q : List Str}, p ≠ q → plt p q ∨ plt q p
  | [], [], h => absurd rfl h
  | [], _ :: _, _ => .inl trivial
  | _ :: _, [], _ => .inr trivial
  | x :: p, y :: q, h => by
    by_cases e : x = y
    · subst e
      rcases plt_tri (p := p) (q := q) (fun z => h (by rw [z])) with h1 | h1
      · exact .inl (.inr ⟨rfl, h1⟩)
      · exact .inr (.inr ⟨rfl, h1⟩)
    · rcases nlt_tri e with h1 | h1
      · exact .inl (.inl h1)
      · exact .inr (.inl h1)
theorem plt_pre : ∀ (p q r : List Str), plt (p ++ q) (p ++ r) ↔ plt q r
  | [], _, _ => Iff.rfl
  | x :: p, q, r => by
    show (nlt x x ∨ (x = x ∧ plt (p ++ q) (p ++ r))) ↔ plt q r
    rw [plt_pre p q r]
    exact ⟨fun h => h.elim (fun z => absurd z (nlt_irrefl x)) fun z => z.2, fun h => .inr ⟨rfl, h⟩⟩
theorem plt_self_app {p q : List Str} (h : q ≠ []) : plt p (p ++ q) := by
  have := (plt_pre p [] q).mpr (by cases q with | nil => exact absurd rfl h | cons x r => trivial)
  rw [List.append_nil] at this
  exact this
end K18
namespace K18
open PySem PySem.Spec PyProof.Rows L2 NdefX StX LamX
theorem eqv_str (x y : Str) : PyData.eqv (.str x) (.str y) = decide (x = y) := by
  by_cases h : x = y
  · subst h; simp [PyData.eqv]
  · rw [decide_eq_false h]; simp [PyData.eqv, h]
theorem eqvAll_strs : ∀ (p q : List Str), PyData.eqvAll (p.map .str) (q.map .str) = decide (p = q)
  | [], [] => by simp [PyData.eqvAll]
  | [], _ :: _ => by simp [PyData.eqvAll]
  | _ :: _, [] => by simp [PyData.eqvAll]
  | x :: p, y :: q => by
    show PyData.eqvAll (.str x :: p.map .str) (.str y :: q.map .str) = _
    rw [PyData.eqvAll, eqvAll_strs p q, eqv_str]
    by_cases h : x = y
    · by_cases h2 : p = q
      · simp [h, h2]
      · simp [h, h2]
    · simp [h]
theorem eqv_strs (p q : List Str) : PyData.eqv (.tuple (p.map .str)) (.tuple (q.map .str)) = decide (p = q) := by
  rw [PyData.eqv, eqvAll_strs]
theorem rowLt_strs : ∀ (p q : List Str), PySem.W.rowLt (p.map .str) (q.map .str) = true ↔ plt p q
  | [], [] => by
    have : PySem.W.rowLt [] [] = false := PyProof.Rows.lex_irrefl _
    simp [this, plt]
  | [], y :: q => by
    have : PySem.W.rowLt [] (.str y :: q.map .str) = true := by
      unfold PySem.W.rowLt
      rw [PySem.W.keyToksAll, PySem.W.keyToksAll]
      rfl
    show PySem.W.rowLt [] (.str y :: q.map .str) = true ↔ True
    simp [this]
  | x :: p, [] => by
    have : PySem.W.rowLt (.str x :: p.map .str) [] = false := by
      unfold PySem.W.rowLt
      rw [PySem.W.keyToksAll, PySem.W.keyToksAll]
      rfl
    show PySem.W.rowLt (.str x :: p.map .str) [] = true ↔ False
    simp [this]
  | x :: p, y :: q => by
    show PySem.W.rowLt (.str x :: p.map .str) (.str y :: q.map .str) = true ↔ (nlt x y ∨ (x = y ∧ plt p q))
    have e : PySem.W.rowLt (.str x :: p.map .str) (.str y :: q.map .str) = if PyData.eqv (.str x) (.str y) = true then PySem.W.rowLt (p.map .str) (q.map .str) else PySem.W.dataLt (.str x) (.str y) := PySem.W.dataLt_cons (by simp [PySem.W.alike]) _ _
    rw [e, eqv_str]
    by_cases h : x = y
    · subst h
      rw [if_pos (by simp), rowLt_strs p q]
      exact ⟨fun z => .inr ⟨rfl, z⟩, fun z => z.elim (fun z => absurd z (nlt_irrefl x)) fun z => z.2⟩
    · rw [if_neg (by simp [h]), PySem.W.dataLt_str, decide_eq_true_iff]
      exact ⟨fun z => .inl z, fun z => z.elim (fun z => z) fun z => absurd z.1 h⟩
theorem dataLt_rows {a b : Rw} (h : a.1 ≠ b.1) : PySem.W.dataLt (encR a) (encR b) = true ↔ plt a.1 b.1 := by
  have e : PySem.W.dataLt (encR a) (encR b) = if PyData.eqv (.tuple (a.1.map .str)) (.tuple (b.1.map .str)) = true then PySem.W.rowLt [.str (formOf a.2), .int a.2.mode, .str a.2.own, .str a.2.grp] [.str (formOf b.2), .int b.2.mode, .str b.2.own, .str b.2.grp] else PySem.W.dataLt (.tuple (a.1.map .str)) (.tuple (b.1.map .str)) :=
    PySem.W.dataLt_cons (by simp [PySem.W.alike, alike_strs]) _ _
  rw [e, eqv_strs, if_neg (by simp [h])]
  exact rowLt_strs a.1 b.1
/-- rows sorted by path, no path twice -/
def RSort (l : List Rw) : Prop := l.Pairwise fun a b => plt a.1 b.1
theorem RSort.nodup {l : List Rw} (h : RSort l) : (l.map (·.1)).Nodup := by
  rw [List.nodup_iff_pairwise_ne, List.pairwise_map]
  refine h.imp fun {a b} z e => ?_
  rw [e] at z
  exact plt_irrefl _ z
/-- what sorted() makes of rows whose paths differ -/
theorem sort_rows {l : List Rw} (nd : (l.map (·.1)).Nodup) : RSort (l.mergeSort (PySem.W.dataLe false encR)) := by
  have hp : (l.mergeSort (PySem.W.dataLe false encR)).Perm l := List.mergeSort_perm _ _
  have nd2 : ((l.mergeSort (PySem.W.dataLe false encR)).map (·.1)).Nodup := (hp.map _).nodup_iff.mpr nd
  have hs : (l.mergeSort (PySem.W.dataLe false encR)).Pairwise fun a b => PySem.W.dataLe false encR a b = true := by
    exact PySem.W.sort_pairwise (PySem.W.sortLe_total _ false _) l
  rw [List.nodup_iff_pairwise_ne, List.pairwise_map] at nd2
  refine (hs.and nd2).imp fun {a b} ⟨z, ne⟩ => ?_
  have z2 : (!PySem.W.dataLt (encR b) (encR a)) = true := z
  rcases plt_tri ne with h | h
  · exact h
  · rw [(dataLt_rows (Ne.symm ne)).mpr h] at z2
    cases z2
theorem rsort_perm : ∀ {l m : List Rw}, RSort l → RSort m → (∀ r, r ∈ l ↔ r ∈ m) → l = m
  | [], [], _, _, _ => rfl
  | [], b :: m, _, _, h => absurd ((h b).mpr List.mem_cons_self) (by simp)
  | a :: l, [], _, _, h => absurd ((h a).mp List.mem_cons_self) (by simp)
  | a :: l, b :: m, h1, h2, h => by
    have p1 := List.pairwise_cons.mp h1
    have p2 := List.pairwise_cons.mp h2
    have e : a = b := by
      rcases List.mem_cons.mp ((h a).mp List.mem_cons_self) with z | z
      · exact z
      · rcases List.mem_cons.mp ((h b).mpr List.mem_cons_self) with y | y
        · exact y.symm
        · exact absurd (plt_trans (p1.1 b y) (p2.1 a z)) (plt_irrefl _)
    subst e
    rw [rsort_perm p1.2 p2.2 fun r => ?_]
    have n1 : a ∉ l := fun z => plt_irrefl _ (p1.1 a z)
    have n2 : a ∉ m := fun z => plt_irrefl _ (p2.1 a z)
    constructor
    · intro z
      rcases List.mem_cons.mp ((h r).mp (List.mem_cons_of_mem _ z)) with y | y
      · rw [y] at z; exact absurd z n1
      · exact y
    · intro z
      rcases List.mem_cons.mp ((h r).mpr (List.mem_cons_of_mem _ z)) with y | y
      · rw [y] at z; exact absurd z n2
      · exact y
end K18
namespace K18
open PySem PySem.Spec PyProof.Rows L2 NdefX StX LamX
def Fo.rows (p : List Str) : Fo → List Rw
  | .nil => []
  | .cons n d ch rest => (p ++ [n], d) :: (ch.rows (p ++ [n]) ++ rest.rows p)
def rowsOf (k : Nd) : List Rw := ([], k.1) :: k.2.rows []
theorem Fo.rows_pre : ∀ (p : List Str) (fo : Fo), (fo.pre p).map (fun pk => (pk.1, pk.2.1)) = fo.rows p
  | _, .nil => rfl
  | p, .cons n d ch rest => by
    show ((p ++ [n], (d, ch)) :: (ch.pre (p ++ [n]) ++ rest.pre p)).map _ = _
    rw [List.map_cons, List.map_append, Fo.rows_pre _ ch, Fo.rows_pre _ rest]
    rfl
theorem rowsOf_pre (k : Nd) : (k.pre []).map (fun pk => (pk.1, pk.2.1)) = rowsOf k := by
  show (([], k) :: k.2.pre []).map _ = _
  rw [List.map_cons, Fo.rows_pre]; rfl
theorem rowsOf_len (k : Nd) : (rowsOf k).length = 1 + k.2.size := by
  rw [← rowsOf_pre, List.length_map]
  show (k.2.pre []).length + 1 = _
  rw [Fo.pre_len]; omega
/-- the facts at a path -/
def datP (k : Nd) (r : List Str) : Option Dat := (findP k r).map (·.1)
theorem datP_nil (k : Nd) : datP k [] = some k.1 := rfl
theorem datP_cons (k : Nd) (x : Str) (r : List Str) : datP k (x :: r) = (k.2.getN x).bind fun k1 => datP k1 r := by
  unfold datP
  show (match k.2.getN x with | some k' => findP k' r | none => none).map _ = _
  cases k.2.getN x <;> rfl
theorem Fo.mem_rows : ∀ {fo : Fo} {p r : List Str} {d : Dat}, fo.Wf → ((r, d) ∈ fo.rows p ↔ ∃ n q k1, r = p ++ (n :: q) ∧ fo.getN n = some k1 ∧ datP k1 q = some d)
  | .nil, p, r, d, _ => by
    constructor
    · intro h; cases h
    · rintro ⟨n, q, k1, _, h, _⟩; simp [getN] at h
  | .cons m e ch rest, p, r, d, w => by
    have i1 := Fo.mem_rows (fo := ch) (p := p ++ [m]) (r := r) (d := d) w.2.2.2.1
    have i2 := Fo.mem_rows (fo := rest) (p := p) (r := r) (d := d) w.2.2.2.2.1
    show (r, d) ∈ (p ++ [m], e) :: (ch.rows (p ++ [m]) ++ rest.rows p) ↔ _
    rw [List.mem_cons, List.mem_append, i1, i2]
    constructor
    · rintro (h | ⟨n, q, k1, h1, h2, h3⟩ | ⟨n, q, k1, h1, h2, h3⟩)
      · cases h
        exact ⟨m, [], (e, ch), rfl, by simp [getN], rfl⟩
      · refine ⟨m, n :: q, (e, ch), by rw [h1, List.append_assoc]; rfl, by simp [getN], ?_⟩
        rw [datP_cons]
        show (ch.getN n).bind _ = _
        rw [h2]
        exact h3
      · refine ⟨n, q, k1, h1, ?_, h3⟩
        have hne : m ≠ n := fun z => by
          have hm : n ∈ rest.names := by
            by_cases hm : n ∈ rest.names
            · exact hm
            · rw [Fo.getN_none.mpr hm] at h2; cases h2
          have := w.2.2.2.2.2 n hm
          rw [z] at this
          exact nlt_irrefl _ this
        unfold getN
        rw [if_neg hne]
        exact h2
    · rintro ⟨n, q, k1, h1, h2, h3⟩
      unfold getN at h2
      by_cases hn : m = n
      · rw [if_pos hn] at h2
        cases h2
        subst hn
        match q, h3 with
        | [], h3 =>
          left
          rw [datP_nil] at h3
          cases h3
          rw [h1]
        | y :: q, h3 =>
          right; left
          rw [datP_cons] at h3
          cases hg : ch.getN y with
          | none =>
            have : (e, ch).2.getN y = none := hg
            rw [this] at h3; cases h3
          | some k2 =>
            have : (e, ch).2.getN y = some k2 := hg
            rw [this] at h3
            exact ⟨y, q, k2, by rw [h1, List.append_assoc]; rfl, hg, h3⟩
      · rw [if_neg hn] at h2
        exact .inr (.inr ⟨n, q, k1, h1, h2, h3⟩)
theorem mem_rowsOf {k : Nd} {r : List Str} {d : Dat} (w : k.2.Wf) : (r, d) ∈ rowsOf k ↔ datP k r = some d := by
  unfold rowsOf
  rw [List.mem_cons, Fo.mem_rows w]
  match r with
  | [] =>
    rw [datP_nil]
    constructor
    · rintro (h | ⟨n, q, k1, h1, _⟩)
      · cases h; rfl
      · cases h1
    · intro h
      cases h
      exact .inl rfl
  | x :: r =>
    rw [datP_cons]
    constructor
    · rintro (h | ⟨n, q, k1, h1, h2, h3⟩)
      · cases h
      · cases h1
        rw [h2]; exact h3
    · intro h
      cases hg : k.2.getN x with
      | none => rw [hg] at h; cases h
      | some k1 => rw [hg] at h; exact .inr ⟨x, r, k1, rfl, hg, h⟩
theorem Fo.rows_path {fo : Fo} {p r : List Str} {d : Dat} (w : fo.Wf) (h : (r, d) ∈ fo.rows p) : ∃ n q, r = p ++ (n :: q) ∧ n ∈ fo.names := by
  obtain ⟨n, q, k1, h1, h2, _⟩ := (Fo.mem_rows w).mp h
  refine ⟨n, q, h1, ?_⟩
  by_cases hm : n ∈ fo.names
  · exact hm
  · rw [Fo.getN_none.mpr hm] at h2; cases h2
theorem Fo.rows_sort : ∀ {fo : Fo} {p : List Str}, fo.Wf → RSort (fo.rows p)
  | .nil, _, _ => .nil
  | .cons m e ch rest, p, w => by
    have s1 := Fo.rows_sort (fo := ch) (p := p ++ [m]) w.2.2.2.1
    have s2 := Fo.rows_sort (fo := rest) (p := p) w.2.2.2.2.1
    have far : ∀ (a : List Str) (b : Rw), b ∈ rest.rows p → plt (p ++ m :: a) b.1 := fun a b hb => by
      obtain ⟨n, q, h1, h2⟩ := Fo.rows_path w.2.2.2.2.1 (r := b.1) (d := b.2) hb
      rw [h1, plt_pre]
      exact .inl (w.2.2.2.2.2 n h2)
    refine List.pairwise_cons.mpr ⟨fun b hb => ?_, List.pairwise_append.mpr ⟨s1, s2, fun a ha b hb => ?_⟩⟩
    · rcases List.mem_append.mp hb with hb | hb
      · obtain ⟨n, q, h1, _⟩ := Fo.rows_path w.2.2.2.1 (r := b.1) (d := b.2) hb
        show plt (p ++ [m]) b.1
        rw [h1]
        exact plt_self_app (by simp)
      · exact far [] b hb
    · obtain ⟨n, q, h1, _⟩ := Fo.rows_path w.2.2.2.1 (r := a.1) (d := a.2) ha
      rw [h1, List.append_assoc]
      exact far (n :: q) b hb
theorem rowsOf_sort {k : Nd} (w : k.2.Wf) : RSort (rowsOf k) := by
  refine List.pairwise_cons.mpr ⟨fun b hb => ?_, Fo.rows_sort w⟩
  obtain ⟨n, q, h1, _⟩ := Fo.rows_path w (r := b.1) (d := b.2) hb
  show plt [] b.1
  rw [h1]
  trivial
/-! ### changes -/
theorem getN_set : ∀ {fo : Fo} {x y : Str} {v : Nd}, (fo.getN x).isSome = true → (fo.setN x v).getN y = if y = x then some v else fo.getN y
  | .nil, x, y, v, h => by simp [Fo.getN] at h
  | .cons m e ch rest, x, y, v, h => by
    unfold Fo.setN
    by_cases hm : m = x
    · subst hm
      rw [if_pos rfl]
      unfold Fo.getN
      by_cases hy : m = y
      · rw [if_pos hy, if_pos hy.symm]
      · rw [if_neg hy, if_neg (fun z => hy z.symm), if_neg hy]
    · rw [if_neg hm]
      unfold Fo.getN at h ⊢
      rw [if_neg hm] at h
      by_cases hy : m = y
      · rw [if_pos hy, if_neg (fun z => hm (by rw [hy, z])), if_pos hy]
      · rw [if_neg hy, if_neg hy, getN_set h]
theorem getN_put : ∀ {fo : Fo} {x y : Str} {v : Nd}, fo.Wf → (fo.putN x v).getN y = if y = x then some v else fo.getN y
  | .nil, x, y, v, _ => by
    unfold Fo.putN Fo.getN
    by_cases h : x = y
    · rw [if_pos h, if_pos h.symm]
    · rw [if_neg h, if_neg (fun z => h z.symm)]; rfl
  | .cons m e ch rest, x, y, v, w => by
    unfold Fo.putN
    by_cases hm : m = x
    · subst hm
      rw [if_pos rfl]
      unfold Fo.getN
      by_cases hy : m = y
      · rw [if_pos hy, if_pos hy.symm]
      · rw [if_neg hy, if_neg (fun z => hy z.symm), if_neg hy]
    · rw [if_neg hm]
      by_cases hl : nlt x m
      · rw [if_pos hl]
        show (if x = y then some (v.1, v.2) else (Fo.cons m e ch rest).getN y) = _
        by_cases hy : x = y
        · rw [if_pos hy, if_pos hy.symm]
        · rw [if_neg hy, if_neg (fun z => hy z.symm)]
      · rw [if_neg hl]
        show (if m = y then some (e, ch) else (rest.putN x v).getN y) = _
        rw [getN_put w.2.2.2.2.1]
        by_cases hy : m = y
        · rw [if_pos hy, if_neg (fun z => hm (by rw [hy, z]))]
          unfold Fo.getN
          rw [if_pos hy]
        · rw [if_neg hy]
          by_cases hx : y = x
          · rw [if_pos hx, if_pos hx]
          · rw [if_neg hx, if_neg hx]
            conv => rhs; unfold Fo.getN
            rw [if_neg hy]
theorem getN_del : ∀ {fo : Fo} {x y : Str}, fo.Wf → (fo.delN x).getN y = if y = x then none else fo.getN y
  | .nil, x, y, _ => by
    unfold Fo.delN Fo.getN
    split <;> rfl
  | .cons m e ch rest, x, y, w => by
    unfold Fo.delN
    by_cases hm : m = x
    · subst hm
      rw [if_pos rfl]
      by_cases hy : y = m
      · rw [if_pos hy, hy]
        exact Fo.getN_none.mpr fun z => nlt_irrefl _ (w.2.2.2.2.2 m z)
      · rw [if_neg hy]
        conv => rhs; unfold Fo.getN
        rw [if_neg (fun z => hy z.symm)]
    · rw [if_neg hm]
      show (if m = y then some (e, ch) else (rest.delN x).getN y) = _
      rw [getN_del w.2.2.2.2.1]
      by_cases hy : m = y
      · rw [if_pos hy, if_neg (fun z => hm (by rw [hy, z]))]
        unfold Fo.getN
        rw [if_pos hy]
      · rw [if_neg hy]
        by_cases hx : y = x
        · rw [if_pos hx, if_pos hx]
        · rw [if_neg hx, if_neg hx]
          conv => rhs; unfold Fo.getN
          rw [if_neg hy]
theorem datP_set {k2 : Nd} : ∀ {k : Nd} {q r : List Str} {k0 : Nd}, findP k q = some k0 → datP (setP k2 k q) r = if r.take q.length = q then datP k2 (r.drop q.length) else datP k r
  | k, [], r, k0, h => by
    rw [if_pos (by simp)]
    show datP k2 r = datP k2 r
    rfl
  | k, x :: q, [], k0, h => by
    rw [if_neg (by simp)]
    cases hg : k.2.getN x with
    | none =>
      show datP (match k.2.getN x with | some k' => (k.1, k.2.setN x (setP k2 k' q)) | none => k) [] = _
      rw [hg]
    | some k1 =>
      show datP (match k.2.getN x with | some k' => (k.1, k.2.setN x (setP k2 k' q)) | none => k) [] = _
      rw [hg]; rfl
  | k, x :: q, y :: r, k0, h => by
    have h1 : (match k.2.getN x with | some k' => findP k' q | none => none) = some k0 := h
    cases hg : k.2.getN x with
    | none => rw [hg] at h1; cases h1
    | some k1 =>
      rw [hg] at h1
      show datP (match k.2.getN x with | some k' => (k.1, k.2.setN x (setP k2 k' q)) | none => k) (y :: r) = _
      rw [hg]
      show datP (k.1, k.2.setN x (setP k2 k1 q)) (y :: r) = _
      rw [datP_cons, datP_cons]
      show ((k.2.setN x (setP k2 k1 q)).getN y).bind _ = _
      rw [getN_set (by rw [hg]; rfl)]
      by_cases hy : y = x
      · subst hy
        rw [if_pos rfl, hg]
        show datP (setP k2 k1 q) r = if (y :: r).take (q.length + 1) = y :: q then datP k2 ((y :: r).drop (q.length + 1)) else datP k1 r
        rw [datP_set (k0 := k0) h1]
        simp only [List.take_succ_cons, List.drop_succ_cons, List.cons.injEq, true_and]
      · rw [if_neg hy, if_neg]
        simp only [List.length_cons, List.take_succ_cons, List.cons.injEq]
        exact fun z => hy z.1
end K18
namespace K18
open PySem PySem.Spec PyProof.Rows L2 NdefX StX LamX
theorem datP_append {k k0 : Nd} {q s : List Str} (h : findP k q = some k0) : datP k (q ++ s) = datP k0 s := by
  unfold datP
  rw [findP_append, h]; rfl
theorem split_take {q r : List Str} (h : r.take q.length = q) : r = q ++ r.drop q.length := by
  conv => lhs; rw [← List.take_append_drop q.length r, h]
theorem under_app (q s : List Str) : (q ++ s).take q.length = q := by simp
theorem under_snoc {q s : List Str} {x y : Str} : (q ++ y :: s).take (q ++ [x]).length = q ++ [x] ↔ y = x := by
  rw [List.length_append, List.take_append]
  rw [show q.length + [x].length - q.length = 1 from by simp, List.take_of_length_le (by simp)]
  show q ++ [y] = q ++ [x] ↔ y = x
  constructor
  · intro h
    have := List.append_cancel_left h
    simpa using this
  · rintro rfl; rfl
theorem under_up {q r : List Str} {x : Str} (h : r.take (q ++ [x]).length = q ++ [x]) : r.take q.length = q := by
  have h2 := split_take h
  rw [h2, List.append_assoc]
  exact under_app _ _
theorem ne_longer {q s : List Str} {y : Str} : q ++ y :: s ≠ q := fun z => by
  have := congrArg List.length z
  simp at this
theorem datP_mode {k k0 : Nd} {q : List Str} {n : Nat} (h : findP k q = some k0) (r : List Str) : datP (setP (k0.md n) k q) r = (datP k r).map fun d => if r = q then { d with mode := n } else d := by
  rw [datP_set h]
  by_cases hp : r.take q.length = q
  · rw [if_pos hp]
    have hr := split_take hp
    generalize r.drop q.length = s at hr
    subst hr
    rw [datP_append h]
    match s with
    | [] =>
      simp only [List.append_nil, if_true]; rfl
    | y :: s =>
      rw [datP_cons, datP_cons]
      simp only [ne_longer, if_false, Option.map_id']
      rfl
  · have : r ≠ q := fun z => hp (by rw [z]; simp)
    rw [if_neg hp]
    simp only [this, if_false, Option.map_id']
theorem datP_leaf {k1 : Nd} (h : k1.2 = .nil) (s : List Str) : datP k1 s = if s = [] then some k1.1 else none := by
  match s with
  | [] => rfl
  | y :: s => rw [datP_cons, h, if_neg (by simp)]; rfl
theorem datP_put {k k0 k1 : Nd} {q : List Str} {x : Str} (w : k0.2.Wf) (h : findP k q = some k0) (hk1 : k1.2 = .nil) (r : List Str) : datP (setP (k0.1, k0.2.putN x k1) k q) r = if r.take (q ++ [x]).length = q ++ [x] then (if r = q ++ [x] then some k1.1 else none) else datP k r := by
  rw [datP_set h]
  by_cases hp : r.take q.length = q
  · rw [if_pos hp]
    have hr := split_take hp
    generalize r.drop q.length = s at hr
    subst hr
    rw [datP_append h]
    match s with
    | [] =>
      rw [List.append_nil, if_neg (fun z => by have := congrArg List.length z; simp at this)]; rfl
    | y :: s =>
      rw [datP_cons, datP_cons]
      show ((k0.2.putN x k1).getN y).bind _ = _
      rw [getN_put w]
      by_cases hy : y = x
      · subst hy
        rw [if_pos rfl, if_pos (under_snoc.mpr rfl)]
        show datP k1 s = _
        rw [datP_leaf hk1]
        by_cases hs : s = []
        · subst hs; rw [if_pos rfl, if_pos rfl]
        · rw [if_neg hs, if_neg (fun z => hs (by have := List.append_cancel_left z; simpa using this))]
      · rw [if_neg hy, if_neg (fun z => hy (under_snoc.mp z))]
  · rw [if_neg hp, if_neg (fun z => hp (under_up z))]
theorem datP_del {k k0 : Nd} {q : List Str} {x : Str} (w : k0.2.Wf) (h : findP k q = some k0) (r : List Str) : datP (setP (k0.1, k0.2.delN x) k q) r = if r.take (q ++ [x]).length = q ++ [x] then none else datP k r := by
  rw [datP_set h]
  by_cases hp : r.take q.length = q
  · rw [if_pos hp]
    have hr := split_take hp
    generalize r.drop q.length = s at hr
    subst hr
    rw [datP_append h]
    match s with
    | [] =>
      rw [List.append_nil, if_neg (fun z => by have := congrArg List.length z; simp at this)]; rfl
    | y :: s =>
      rw [datP_cons, datP_cons]
      show ((k0.2.delN x).getN y).bind _ = _
      rw [getN_del w]
      by_cases hy : y = x
      · subst hy
        rw [if_pos rfl, if_pos (under_snoc.mpr rfl)]; rfl
      · rw [if_neg hy, if_neg (fun z => hy (under_snoc.mp z))]
  · rw [if_neg hp, if_neg (fun z => hp (under_up z))]
/-! ### a tree within a world of paths -/
structure UpOk (Up : List (List Str)) : Prop where
  len : Up.length ≤ 12
  nm : ∀ p ∈ Up, ∀ n ∈ p, NmOk n ∧ n ≠ "zz"
structure TOk (Up : List (List Str)) (k : Nd) : Prop where
  ok : Fo.NdOk k
  dir : k.1.dir = true
  sub : ∀ r d, datP k r = some d → r ∈ Up
theorem Fo.depth_le : ∀ fo : Fo, fo.depth ≤ fo.size
  | .nil => Nat.le_refl _
  | .cons n d ch rest => by
    have h1 := Fo.depth_le ch
    have h2 := Fo.depth_le rest
    show max (1 + ch.depth) rest.depth ≤ 1 + ch.size + rest.size
    omega
theorem nodup_len {α : Type} [DecidableEq α] : ∀ {l m : List α}, l.Nodup → (∀ x ∈ l, x ∈ m) → l.length ≤ m.length
  | [], _, _, _ => Nat.zero_le _
  | a :: l, m, nd, h => by
    obtain ⟨n1, n2⟩ := List.nodup_cons.mp nd
    have ha := h a List.mem_cons_self
    have hl := nodup_len (m := m.erase a) n2 fun x hx => (List.mem_erase_of_ne (fun z => n1 (by rw [← z]; exact hx))).mpr (h x (List.mem_cons_of_mem _ hx))
    have := List.length_erase_of_mem ha
    have hp : 0 < m.length := List.length_pos_of_mem ha
    show l.length + 1 ≤ m.length
    omega
theorem TOk.size {Up : List (List Str)} {k : Nd} (U : UpOk Up) (t : TOk Up k) : k.2.size ≤ 11 ∧ k.2.depth ≤ 11 := by
  have hn := (rowsOf_sort t.ok.2.2).nodup
  have hl : ((rowsOf k).map (·.1)).length ≤ Up.length := by
    refine nodup_len hn fun p hp => ?_
    obtain ⟨⟨r, d⟩, h1, h2⟩ := List.mem_map.mp hp
    rw [← h2]
    exact t.sub r d ((mem_rowsOf t.ok.2.2).mp h1)
  rw [List.length_map, rowsOf_len] at hl
  have := U.len
  have := Fo.depth_le k.2
  omega
theorem findP_len : ∀ {k k0 : Nd} {q : List Str}, Fo.NdOk k → findP k q = some k0 → q.length ≤ k.2.depth
  | k, k0, [], _, _ => Nat.zero_le _
  | k, k0, x :: q, w, h => by
    have h1 : (match k.2.getN x with | some k' => findP k' q | none => none) = some k0 := h
    cases hg : k.2.getN x with
    | none => rw [hg] at h1; cases h1
    | some k1 =>
      rw [hg] at h1
      obtain ⟨a, b, _⟩ := Fo.get_ok w.2.2 hg
      have := findP_len a (k0 := k0) h1
      show q.length + 1 ≤ _
      omega
theorem TOk.find {Up : List (List Str)} {k : Nd} {q : List Str} {d : Dat} (h : datP k q = some d) : ∃ k0, findP k q = some k0 ∧ k0.1 = d := by
  unfold datP at h
  exact Option.map_eq_some_iff.mp h
/-! the rows after a change -/
theorem set_ok' {k k0 k2 : Nd} {q : List Str} (h2 : Fo.NdOk k2) (h : Fo.NdOk k) : Fo.NdOk (setP k2 k q) := set_ok h2 h fun _ _ => .inr trivial
theorem set_dir {k k0 k2 : Nd} {q : List Str} (hf : findP k q = some k0) (hd : k2.1.dir = k0.1.dir) : (setP k2 k q).1.dir = k.1.dir := by
  match q with
  | [] => cases hf; exact hd
  | x :: q =>
    show (match k.2.getN x with | some k' => (k.1, k.2.setN x (setP k2 k' q)) | none => k).1.dir = _
    cases k.2.getN x <;> rfl
def modeR (q : List Str) (n : Nat) (r : Rw) : Rw := if r.1 = q then (r.1, { r.2 with mode := n }) else r
theorem modeR_path (q : List Str) (n : Nat) (r : Rw) : (modeR q n r).1 = r.1 := by
  unfold modeR; split <;> rfl
theorem rows_mode {Up : List (List Str)} {k k0 : Nd} {q : List Str} {n : Nat} (t : TOk Up k) (hn : n ≤ 511) (h : findP k q = some k0) : TOk Up (setP (k0.md n) k q) ∧ rowsOf (setP (k0.md n) k q) = (rowsOf k).map (modeR q n) := by
  have ok0 := (find_ok t.ok h).1
  have ok2 : Fo.NdOk (k0.md n) := ⟨⟨hn, ok0.1.2⟩, ok0.2⟩
  have tk : TOk Up (setP (k0.md n) k q) := ⟨set_ok' (k0 := k0) ok2 t.ok, (set_dir (k2 := k0.md n) h rfl).trans t.dir, fun r d e => by
    rw [datP_mode h] at e
    obtain ⟨d', e1, _⟩ := Option.map_eq_some_iff.mp e
    exact t.sub r d' e1⟩
  refine ⟨tk, rsort_perm (rowsOf_sort tk.ok.2.2) ?_ fun r => ?_⟩
  · unfold RSort
    rw [List.pairwise_map]
    exact (rowsOf_sort t.ok.2.2).imp fun {a b} z => by rw [modeR_path, modeR_path]; exact z
  · obtain ⟨p, d⟩ := r
    rw [mem_rowsOf tk.ok.2.2, datP_mode h, Option.map_eq_some_iff, List.mem_map]
    constructor
    · rintro ⟨d', e1, e2⟩
      refine ⟨(p, d'), (mem_rowsOf t.ok.2.2).mpr e1, ?_⟩
      unfold modeR
      show (if p = q then (p, { d' with mode := n }) else (p, d')) = (p, d)
      by_cases hp : p = q
      · rw [if_pos hp] at e2 ⊢; rw [← e2]
      · rw [if_neg hp] at e2 ⊢; rw [e2]
    · rintro ⟨⟨p', d'⟩, e1, e2⟩
      have hp' : p' = p := by have := congrArg Prod.fst e2; rw [modeR_path] at this; exact this
      subst hp'
      refine ⟨d', (mem_rowsOf t.ok.2.2).mp e1, ?_⟩
      have e3 := congrArg Prod.snd e2
      unfold modeR at e3
      by_cases hp : p' = q
      · rw [if_pos hp] at e3 ⊢; exact e3
      · rw [if_neg hp] at e3 ⊢; exact e3
def lessR (q : List Str) (l : List Rw) : List Rw := l.filter fun r => decide (r.1.take q.length ≠ q)
theorem rsort_less {q : List Str} {l : List Rw} (h : RSort l) : RSort (lessR q l) := List.Pairwise.filter _ h
theorem mem_less {q : List Str} {l : List Rw} {r : Rw} : r ∈ lessR q l ↔ r ∈ l ∧ r.1.take q.length ≠ q := by
  unfold lessR
  rw [List.mem_filter, decide_eq_true_iff]
theorem rows_del {Up : List (List Str)} {k k0 : Nd} {q : List Str} {x : Str} (t : TOk Up k) (h : findP k q = some k0) : TOk Up (setP (k0.1, k0.2.delN x) k q) ∧ rowsOf (setP (k0.1, k0.2.delN x) k q) = lessR (q ++ [x]) (rowsOf k) := by
  have ok0 := (find_ok t.ok h).1
  have ok2 : Fo.NdOk (k0.1, k0.2.delN x) := ⟨ok0.1, fun z => by rw [ok0.2.1 z]; rfl, Fo.del_wf ok0.2.2⟩
  have tk : TOk Up (setP (k0.1, k0.2.delN x) k q) := ⟨set_ok' (k0 := k0) ok2 t.ok, (set_dir (k2 := (k0.1, k0.2.delN x)) h rfl).trans t.dir, fun r d e => by
    rw [datP_del ok0.2.2 h] at e
    split at e
    · cases e
    · exact t.sub r d e⟩
  refine ⟨tk, rsort_perm (rowsOf_sort tk.ok.2.2) (rsort_less (rowsOf_sort t.ok.2.2)) fun r => ?_⟩
  obtain ⟨p, d⟩ := r
  rw [mem_rowsOf tk.ok.2.2, datP_del ok0.2.2 h, mem_less, mem_rowsOf t.ok.2.2]
  by_cases hp : p.take (q ++ [x]).length = q ++ [x]
  · rw [if_pos hp]
    exact ⟨fun z => (by cases z), fun z => absurd hp z.2⟩
  · rw [if_neg hp]
    exact ⟨fun z => ⟨z, hp⟩, fun z => z.1⟩
theorem rows_put {Up : List (List Str)} {k k0 k1 : Nd} {q : List Str} {x : Str} (t : TOk Up k) (h : findP k q = some k0) (hd : k0.1.dir = true) (hx : NmOk x) (ok1 : Fo.NdOk k1) (hk1 : k1.2 = .nil) (hu : q ++ [x] ∈ Up) :
    TOk Up (setP (k0.1, k0.2.putN x k1) k q) ∧ ∀ r, r ∈ rowsOf (setP (k0.1, k0.2.putN x k1) k q) ↔ r ∈ lessR (q ++ [x]) (rowsOf k) ∨ r = (q ++ [x], k1.1) := by
  have ok0 := (find_ok t.ok h).1
  have ok2 : Fo.NdOk (k0.1, k0.2.putN x k1) := ⟨ok0.1, fun z => (by rw [hd] at z; cases z), Fo.put_wf ok0.2.2 hx ok1⟩
  have tk : TOk Up (setP (k0.1, k0.2.putN x k1) k q) := ⟨set_ok' (k0 := k0) ok2 t.ok, (set_dir (k2 := (k0.1, k0.2.putN x k1)) h rfl).trans t.dir, fun r d e => by
    rw [datP_put ok0.2.2 h hk1] at e
    split at e
    · split at e
      · rename_i _ e2; rw [e2]; exact hu
      · cases e
    · exact t.sub r d e⟩
  refine ⟨tk, fun r => ?_⟩
  obtain ⟨p, d⟩ := r
  rw [mem_rowsOf tk.ok.2.2, datP_put ok0.2.2 h hk1, mem_less, mem_rowsOf t.ok.2.2]
  by_cases hp : p.take (q ++ [x]).length = q ++ [x]
  · rw [if_pos hp]
    by_cases he : p = q ++ [x]
    · rw [if_pos he]
      constructor
      · intro z; cases z; exact .inr (by rw [he])
      · rintro (z | z)
        · exact absurd hp z.2
        · cases z; rfl
    · rw [if_neg he]
      constructor
      · intro z; cases z
      · rintro (z | z)
        · exact absurd hp z.2
        · exact absurd (congrArg Prod.fst z) he
  · rw [if_neg hp]
    constructor
    · exact fun z => .inl ⟨z, hp⟩
    · rintro (z | z)
      · exact z.1
      · exact absurd (by have := congrArg Prod.fst z; dsimp only at this; rw [this]; exact List.take_length) hp
end K18
namespace K18
open PySem PySem.Spec PyProof.Rows L2 NdefX StX LamX
/-! ### rows in the heap -/
def rowI (tp : Addr) (r : Rw) : List V := [.ref tp, .str (formOf r.2), .int (r.2.mode : Int), .str r.2.own, .str r.2.grp]
def RowAt (H : Hp) (v : V) (r : Rw) : Prop := ∃ a tp, v = .ref a ∧ H a = some (.lst (rowI tp r)) ∧ H tp = some (.tup (r.1.map V.str))
def RowsL (H : Hp) (R : Addr) (l : List Rw) : Prop := ∃ vs, H R = some (.lst vs) ∧ Paired (RowAt H) vs l
/-- lists and tuples stay, but such as a pen -/
def isPen (xs : List V) : Prop := ∃ L i j, xs = [.ref L, .int i, .int j]
def SeqKeep (H H' : Hp) : Prop := ∀ a xs, (H a = some (.tup xs) → H' a = some (.tup xs)) ∧ (H a = some (.lst xs) → ¬ isPen xs → H' a = some (.lst xs))
theorem SeqKeep.trans {H H1 H2 : Hp} (a : SeqKeep H H1) (b : SeqKeep H1 H2) : SeqKeep H H2 := fun c xs => ⟨fun h => (b c xs).1 ((a c xs).1 h), fun h n => (b c xs).2 ((a c xs).2 h n) n⟩
theorem SeqKeep.grow {H H' : Hp} (g : Grow H H') : SeqKeep H H' := fun c xs => ⟨fun h => g _ _ h, fun h _ => g _ _ h⟩
theorem SeqKeep.pen {H H' : Hp} {pn : Addr} {n : Nat} (p : PenAt H pn n) (k : Kp [pn] H H') : SeqKeep H H' := by
  obtain ⟨L, zs, a, g, h1, _⟩ := p
  refine fun c xs => ⟨fun h => k _ _ h ?_, fun h np => k _ _ h ?_⟩
  · simp; rintro rfl; rw [h1] at h; cases h
  · simp; rintro rfl; rw [h1] at h; cases h; exact np ⟨L, _, _, rfl⟩
theorem rowI_np {tp : Addr} {r : Rw} : ¬ isPen (rowI tp r) := fun ⟨L, i, j, e⟩ => by
  have := congrArg List.length e
  simp [rowI] at this
theorem RowAt.keep {H H' : Hp} {v : V} {r : Rw} (h : RowAt H v r) (k : SeqKeep H H') : RowAt H' v r := by
  obtain ⟨a, tp, e, h1, h2⟩ := h
  exact ⟨a, tp, e, (k a _).2 h1 rowI_np, (k tp _).1 h2⟩
theorem refs_np {H : Hp} : ∀ {vs : List V} {l : List Rw}, Paired (RowAt H) vs l → ¬ isPen vs
  | _, _, .nil => fun ⟨_, _, _, e⟩ => by cases e
  | _, _, .cons h t => fun ⟨L, i, j, e⟩ => by
    cases t with
    | nil => cases e
    | cons h2 t2 =>
      obtain ⟨a, tp, e2, _⟩ := h2
      subst e2
      injection e with _ e
      injection e with e _
      cases e
theorem RowsL.keep {H H' : Hp} {R : Addr} {l : List Rw} (h : RowsL H R l) (k : SeqKeep H H') : RowsL H' R l := by
  obtain ⟨vs, h1, h2⟩ := h
  exact ⟨vs, (k R _).2 h1 (refs_np h2), L2.Paired.mapP h2 fun v r z => z.keep k⟩
def NamesOk (l : List Rw) : Prop := ∀ r ∈ l, (∀ n ∈ r.1, NmOk n) ∧ r.1.length ≤ 50
theorem dp_strs {K : PySem.W.Frag} {H : Hp} : ∀ (p : List Str), DpAll K H (p.map V.str) (p.map PyData.str)
  | [] => .nil
  | x :: p => .cons (.str x) (dp_strs p)
theorem lay_strs : ∀ {p : List Str}, (∀ n ∈ p, NmOk n) → PyData.canLayAll0 (p.map PyData.str) = true
  | [], _ => by simp [PyData.canLayAll0]
  | x :: p, h => by
    have h1 := lay_strs (p := p) fun n hn => h n (List.mem_cons_of_mem _ hn)
    have h2 := (h x List.mem_cons_self).fit
    simp [PyData.canLayAll0, PyData.canLay0, h1, h2]
theorem shaped_strs {p : List Str} (h : ∀ n ∈ p, NmOk n) : SeqAt.shaped (.tuple (p.map PyData.str)) = true := by
  simp [SeqAt.shaped, PyData.canLay0, PyData.depth, lay_strs h, depth_strs]
theorem take_ok {p : List Str} (h : ∀ n ∈ p, NmOk n) (k : Nat) : ∀ n ∈ p.take k, NmOk n := fun n hn => h n (List.mem_of_mem_take hn)
theorem Paired.atP {α β : Type} {R : α → β → Prop} : ∀ {l : List α} {m : List β}, Paired R l m → ∀ {i : Nat} {a : α}, l[i]? = some a → ∃ b, m[i]? = some b ∧ R a b
  | _, _, .nil, i, a, h => by simp at h
  | _, _, .cons r t, 0, a, h => ⟨_, rfl, by cases h; exact r⟩
  | _, _, .cons r t, i + 1, a, h => Paired.atP t (i := i) h
theorem paired_snoc {α β : Type} {R : α → β → Prop} {a : α} {b : β} (r : R a b) : ∀ {l : List α} {m : List β}, Paired R l m → Paired R (l ++ [a]) (m ++ [b])
  | _, _, .nil => .cons r .nil
  | _, _, .cons r' t => .cons r' (paired_snoc r t)
section
variable {P : Program} {w : World} {K : PySem.W.Frag} {mg : Str → Option Value} {base : Heap} {c : Ad}
abbrev rLen (K : PySem.W.Frag) : List V → Hp → VK → Prop := fun xs H Q => ∃ p ys, xs = [V.ref p] ∧ (SqL K H p ys ∨ SqT K H p ys) ∧ Q (V.int (ys.length : Nat)) H
def spLess : Sp := fun vs H Q _ => ∃ (R tp : Addr) (l : List Rw) (q : List Str), vs = [.ref R, .ref tp] ∧ RowsL H R l ∧ H tp = some (.tup (q.map V.str)) ∧ NamesOk l ∧ (∀ n ∈ q, NmOk n) ∧ l.length ≤ 100 ∧ ∀ H' R', Grow H H' → RowsL H' R' (lessR q l) → Q (.ref R') H'
theorem sc_less : FnScope ["_law_rows", "_law_names", "_law_row"] ["_law_rows", "_law_names"] (defScope s_law_less) := ⟨rfl, rfl, rfl, by decide +kernel, rfl, by decide +kernel, by decide +kernel⟩
theorem cut_take (p : List Str) (k : Nat) : cutV (p.map V.str) none (some (k : Int)) = (p.take k).map V.str := by
  unfold cutV
  rw [HT.sIx_none, HT.sIx_nat, Nat.sub_zero, List.drop_zero, ← List.map_take, List.length_map]
  congr 1
  by_cases h : k ≤ p.length
  · rw [Nat.min_eq_left h]
  · rw [Nat.min_eq_right (by omega), List.take_length, List.take_of_length_le (by omega)]
theorem ca_less (B : Bt mg) (D : Dn K mg "_law_less" s_law_less) : Ca P w K mg base CX0 1 "_law_less" spLess := by
  refine ca_ok (k := 0) D sc_less (fun _ _ _ _ _ _ us hl => match us, hl with | [_, _], _ => rfl) (fun vs H Q E h => ?_) (fun f cdv A outer s H vs Q E hr h => ?_)
  · obtain ⟨R, tp, l, q, rfl, _⟩ := h
    rfl
  · obtain ⟨R, tp, l, p, rfl, ⟨xs, hR, pr⟩, htp, hN, hp, hl, q⟩ := h
    refine ⟨_, pss_one (ps_ret (pe_lc (own := [("_law_row", 2)]) (g := gName 2) rfl sc_less.nd (pi_list (pv 0)) (blkOk_by (own := [("_law_row", 2)]) (N := ["_law_rows", "_law_names", "_law_row"]) (sc := defScope s_law_less) (by decide +kernel))
      (fun _ _ _ _ _ => pg_name (i := 2) sc_less.nd rfl (Or.inl rfl)) (fun _ _ _ _ _ => pts_one (pt_cmpR (r := rNeD K) (op_neD hr.units) (pe_slice (r := rSlA K) sl_tupA (pe_ix (r := rIxL K) ix_list (pv 2) pe_int (fun _ _ => rfl)) po_none (po_some (pe_callB (r := rLen K) call_len_seq rfl B.len boot_len (pa_cons (pv 1) pa_nil)))) (pv 1) (nomark _))) (fun _ _ _ _ _ => pv 2))), ?_⟩
    refine ⟨_, rfl, R, rfl, ⟨_, SqL.of hR⟩, fun D hD => ?_⟩
    have nRD : R ≠ D := ne_of_none hR hD
    have hll := paired_len pr
    refine lc_it (walk_list (K := K) (a := R) (xs := xs)) (fun i H2 => Grow H H2 ∧ H D = none ∧ ∃ acc, H2 D = some (.lst acc) ∧ acc.length ≤ i ∧ Paired (RowAt H) acc (lessR p (l.take i))) ⟨?_, hD, [], upd_same, Nat.le_refl _, .nil⟩ (fun _ _ _ z => SqL.of (z.1 _ _ hR)) ?_ ?_
    · exact fun a o z => by rw [upd_ne (ne_of_none z hD)]; exact z
    · rintro i x H2 H3 hi ⟨g2, hD0, acc, e2, la, p2⟩ ⟨rfl, hx⟩
      obtain ⟨r, hr1, ⟨a, tq, rfl, ha, ht⟩⟩ := Paired.atP pr hx
      obtain ⟨hn1, hn2⟩ := hN r (List.mem_of_getElem? hr1)
      have htk : l.take (i + 1) = l.take i ++ [r] := by rw [List.take_add_one, hr1]; rfl
      have fin : ∀ (v : V) (H4 : Hp), (∃ z, v = .ref z ∧ SqT K H4 z ((r.1.take p.length).map V.str)) → Grow H3 H4 → rNeD K v (.ref tp) H4 (fun y H5 => ∃ b, y = .bl b ∧ (if b = true then ∃ v2, (some (some (V.ref a)) : Option (Option V)) = some (some v2) ∧ ∃ acc, H5 D = some (.lst acc) ∧ acc.length < sizeLine ∧ (Grow H (upd H5 D (.lst (acc ++ [v2]))) ∧ H D = none ∧ ∃ acc', upd H5 D (.lst (acc ++ [v2])) D = some (.lst acc') ∧ acc'.length ≤ i + 1 ∧ Paired (RowAt H) acc' (lessR p (l.take (i + 1))))
          else (Grow H H5 ∧ H D = none ∧ ∃ acc', H5 D = some (.lst acc') ∧ acc'.length ≤ i + 1 ∧ Paired (RowAt H) acc' (lessR p (l.take (i + 1)))))) := by
        rintro v H4 ⟨z, rfl, hz⟩ g4
        refine ⟨.tuple ((r.1.take p.length).map .str), .tuple (p.map .str), .tup hz (dp_strs _), .tup (.of (g4 _ _ (g2 _ _ htp))) (dp_strs _), shaped_strs (take_ok hn1 _), shaped_strs hp, !decide (r.1.take p.length = p), by rw [eqv_strs], ?_⟩
        by_cases hc : r.1.take p.length = p
        · rw [decide_eq_true hc]
          have e : lessR p (l.take (i + 1)) = lessR p (l.take i) := by
            rw [htk]; unfold lessR; rw [List.filter_append]; simp [hc]
          exact iteF ⟨fun a o z => g4 _ _ (g2 _ _ z), hD0, acc, g4 _ _ e2, by omega, by rw [e]; exact p2⟩
        · rw [decide_eq_false hc]
          have e : lessR p (l.take (i + 1)) = lessR p (l.take i) ++ [r] := by
            rw [htk]; unfold lessR; rw [List.filter_append]; simp [hc]
          refine iteT ⟨_, rfl, acc, g4 _ _ e2, Nat.lt_of_le_of_lt la (Nat.lt_of_lt_of_le (show i < 101 by omega) (small_line (by decide))), fun b o z => ?_, hD0, acc ++ [.ref a], upd_same, by simp; omega, by rw [e]; exact paired_snoc ⟨a, tq, rfl, ha, ht⟩ p2⟩
          rw [upd_ne (ne_of_none z hD0)]; exact g4 _ _ (g2 _ _ z)
      refine ⟨rfl, _, rfl, a, _, 0, .ref tq, rfl, rfl, .of (g2 _ _ ha), rfl, _, rfl, tp, _, rfl, .inr (.of (g2 _ _ htp)), ?_⟩
      refine ⟨(p.length : Int), by rw [List.length_map], tq, r.1.map V.str, rfl, .of (g2 _ _ ht), fun hw => ?_, fun hw t ht' => ?_⟩
      · have hle : r.1.length ≤ p.length := by
          have := hw.2
          rw [HT.sIx_nat, List.length_map] at this
          omega
        refine ⟨_, rfl, fin (.ref tq) H3 ⟨tq, rfl, ?_⟩ (fun _ _ z => z)⟩
        rw [List.take_of_length_le hle]
        exact .of (g2 _ _ ht)
      · refine ⟨_, rfl, fin (.ref t) _ ⟨t, rfl, ?_⟩ (fun b o z => by rw [upd_ne (ne_of_none z ht')]; exact z)⟩
        rw [cut_take]
        exact .of upd_same
    · rintro H2 ⟨g2, hD0, acc, e2, la, p2⟩
      rw [hll, List.take_length] at p2
      exact q H2 D g2 ⟨acc, e2, L2.Paired.mapP p2 fun v r z => z.keep (.grow g2)⟩
end
end K18
namespace K18
open PySem PySem.Spec PyProof.Rows L2 NdefX StX LamX
def rJoin (K : PySem.W.Frag) : V → List V → Hp → VK → Prop := fun x xs H Q => ∃ a p, ∃ ys : List Str, x = .str a ∧ xs = [.ref p] ∧ (SqL K H p (ys.map V.str) ∨ SqT K H p (ys.map V.str)) ∧ (ys.map (·.length)).sum + ys.length * a.length ≤ 16777216 ∧ Q (.str (Txt.join a ys)) H
theorem pe_joinK {X : Cx} {K : PySem.W.Frag} {o e : Expr} {apos pos : Pos} {to te : TE} (hK : X.K = K) (ho : PE X o to) (he : PE X e te) (hs : starEach [e] X.env = [(false, eval e X.env)] := by rfl) (hbase : attributeBase o "join" X.env (eval o X.env) = eval o X.env := by rfl) (hline : (apos.endLine == pos.line) = true := by rfl) :
    PE X (.Call (.Attribute o "join" apos) [e] [] pos) (tM1 (rJoin K) to te) := by
  subst hK
  exact pe_join ho he hs hbase hline
def toldV (r : Rw) : List V := [.str (pj r.1), .str (formOf r.2), .int (r.2.mode : Int), .str r.2.own, .str r.2.grp]
theorem sum_names : ∀ {p : List Str}, (∀ n ∈ p, NmOk n) → (p.map (·.length)).sum ≤ 8 * p.length
  | [], _ => Nat.le_refl _
  | x :: p, h => by
    have h1 := sum_names (p := p) fun n hn => h n (List.mem_cons_of_mem _ hn)
    have h2 := (h x List.mem_cons_self).2.1
    rw [List.map_cons, List.sum_cons, List.length_cons]; omega
theorem join_small {p : List Str} (h : ∀ n ∈ p, NmOk n) (hl : p.length ≤ 50) : (p.map (·.length)).sum + p.length * slash.length ≤ 16777216 := by
  have := sum_names h
  rw [len_slash]; omega
section
variable {P : Program} {w : World} {K : PySem.W.Frag} {mg : Str → Option Value} {base : Heap} {c : Ad}
def spTold : Sp := fun vs H Q _ => ∃ (R : Addr) (l : List Rw), vs = [.ref R] ∧ RowsL H R l ∧ NamesOk l ∧ l.length ≤ 100 ∧
  ∀ (H' : Hp) (L : Addr) (as : List Addr), Grow H H' → H' L = some (.lst (as.map V.ref)) → as.length = l.length → (∀ (i : Nat) (a : Addr) (r : Rw), as[i]? = some a → l[i]? = some r → H' a = some (.tup (toldV r))) → Q (.ref L) H'
theorem sc_told : FnScope ["_law_rows", "_law_row"] ["_law_rows"] (defScope s_law_told_rows) := ⟨rfl, rfl, rfl, by decide +kernel, rfl, by decide +kernel, by decide +kernel⟩
theorem ca_told (B : Bt mg) (D : Dn K mg "_law_told_rows" s_law_told_rows) : Ca P w K mg base CX0 1 "_law_told_rows" spTold := by
  refine ca_ok (k := 0) D sc_told (fun _ _ _ _ _ _ us hl => match us, hl with | [_], _ => rfl) (fun vs H Q E h => ?_) (fun f cdv A outer s H vs Q E hr h => ?_)
  · obtain ⟨R, l, rfl, _⟩ := h
    rfl
  · obtain ⟨R, l, rfl, ⟨xs, hR, pr⟩, hN, hl, q⟩ := h
    refine ⟨_, pss_one (ps_ret (pe_lc (own := [("_law_row", 1)]) (g := gName 1) (tt := tYes) rfl sc_told.nd (pi_list (pv 0)) (blkOk_by (own := [("_law_row", 1)]) (N := ["_law_rows", "_law_row"]) (sc := defScope s_law_told_rows) (by decide +kernel))
      (fun _ _ _ _ _ => pg_name (i := 1) sc_told.nd rfl (Or.inl rfl)) (fun _ _ _ _ _ => pts_nil)
      (fun _ _ _ _ _ => pe_tup (pa_cons (pe_joinK (K := K) rfl pe_str (pe_ix (r := rIxL K) ix_list (pv 1) pe_int (fun _ _ => rfl))) (pa_cons (pe_ix (r := rIxL K) ix_list (pv 1) pe_int (fun _ _ => rfl)) (pa_cons (pe_ix (r := rIxL K) ix_list (pv 1) pe_int (fun _ _ => rfl)) (pa_cons (pe_ix (r := rIxL K) ix_list (pv 1) pe_int (fun _ _ => rfl)) (pa_cons (pe_ix (r := rIxL K) ix_list (pv 1) pe_int (fun _ _ => rfl)) pa_nil)))))))), ?_⟩
    refine ⟨_, rfl, R, rfl, ⟨_, SqL.of hR⟩, fun D hD => ?_⟩
    have hll := paired_len pr
    refine lc_it (walk_list (K := K) (a := R) (xs := xs)) (fun i H2 => Grow H H2 ∧ H D = none ∧ ∃ as : List Addr, H2 D = some (.lst (as.map V.ref)) ∧ as.length = i ∧ ∀ (j : Nat) (a : Addr) (r : Rw), as[j]? = some a → l[j]? = some r → H2 a = some (.tup (toldV r))) ⟨?_, hD, [], upd_same, rfl, fun j a r z _ => by simp at z⟩ (fun _ _ _ z => SqL.of (z.1 _ _ hR)) ?_ ?_
    · exact fun a o z => by rw [upd_ne (ne_of_none z hD)]; exact z
    · rintro i x H2 H3 hi ⟨g2, hD0, as, e2, la, p2⟩ ⟨rfl, hx⟩
      obtain ⟨r, hr1, ⟨a, tq, rfl, ha, ht⟩⟩ := Paired.atP pr hx
      obtain ⟨hn1, hn2⟩ := hN r (List.mem_of_getElem? hr1)
      have ha3 := g2 _ _ ha
      refine ⟨rfl, ⟨_, rfl⟩, _, rfl, a, _, 0, .ref tq, rfl, rfl, .of ha3, rfl, slash, tq, r.1, rfl, rfl, .inr (.of (g2 _ _ ht)), join_small hn1 hn2, ?_⟩
      refine ⟨_, rfl, a, _, 1, _, rfl, rfl, .of ha3, rfl, _, rfl, a, _, 2, _, rfl, rfl, .of ha3, rfl, _, rfl, a, _, 3, _, rfl, rfl, .of ha3, rfl, _, rfl, a, _, 4, _, rfl, rfl, .of ha3, rfl, Nat.le_of_ble_eq_true rfl, fun T hT => ?_⟩
      have gT : Grow H3 (upd H3 T (.tup (toldV r))) := fun b o z => by rw [upd_ne (ne_of_none z hT)]; exact z
      refine ⟨as.map V.ref, gT _ _ e2, ?_, fun b o z => ?_, hD0, as ++ [T], ?_, by rw [List.length_append, la]; rfl, fun j b r' hb hr' => ?_⟩
      · rw [List.length_map, la]
        exact Nat.lt_of_lt_of_le (show i < 101 by omega) (small_line (by decide))
      · rw [upd_ne (ne_of_none z hD0)]; exact gT _ _ (g2 _ _ z)
      · rw [upd_same, List.map_append]; rfl
      · have nTD : T ≠ D := Ne.symm (ne_of_none e2 hT)
        by_cases hj : j < as.length
        · rw [List.getElem?_append_left hj] at hb
          have := p2 j b r' hb hr'
          rw [upd_ne (fun y => by rw [y, e2] at this; cases this)]
          exact gT _ _ this
        · have hj2 : j = as.length := by
            have := (List.getElem?_eq_some_iff.mp hb).1
            rw [List.length_append, List.length_singleton] at this; omega
          subst hj2
          rw [List.getElem?_append_right (Nat.le_refl _), Nat.sub_self] at hb
          cases hb
          rw [la, hr1] at hr'
          cases hr'
          rw [upd_ne nTD, upd_same]
          rfl
    · rintro H2 ⟨g2, hD0, as, e2, la, p2⟩
      exact q H2 D as g2 e2 (by rw [la, hll]) p2
end
end K18
namespace K18
open PySem PySem.Spec PyProof.Rows L2 NdefX StX LamX
theorem guards_deeper {A : Around} {env : Env} (h : A.guards = some []) : (A.deeper env).guards = some [] := by
  first | exact h | simp [Around.deeper, h]
/-! ### repr of what reads as data -/
def rRepr (K : PySem.W.Frag) : List V → Hp → VK → Prop := fun xs H Q => ∃ a d, xs = [.ref a] ∧ Dp K H (.ref a) d ∧ d.showable = true ∧ d.hasDict = false ∧ d.depth ≤ 32 ∧ d.shown.length ≤ sizeLine ∧ Q (.str d.shown) H
theorem cr_repr {X : Cx} (hg : X.A.guards = some []) (hu : X.A.units + 64 < cLine) : CallR X (.builtin "repr") (rRepr X.K) := by
  intro pins s σ H xs us Q I r h
  obtain ⟨a, d, rfl, hd, hs, hnd, hdp, hsz, q⟩ := h
  rw [Vals.ref1 r]
  obtain ⟨as, hr⟩ := Dp.reads I d (.ref a) _ hd (show RelV (.ref a) (.ref a) from rfl)
  exact PySem.repr_of_reads' hr hs (fun z => by rw [hnd] at z; cases z) hg (by omega) (fun _ _ e => e) (fun h' u tk hk => ⟨.str d.shown, H, I.kept (t' := tk) hk, ⟨_, rfl⟩, q⟩) hsz
/-- the rows told, as data -/
def encT (r : Rw) : PyData := .tuple [.str (pj r.1), .str (formOf r.2), .int r.2.mode, .str r.2.own, .str r.2.grp]
def encTs (l : List Rw) : PyData := .list (l.map encT)
theorem joinL_mem (S : List Nat) {c : Nat} : ∀ (ps : List (List Nat)), c ∈ TL.joinL S ps → c ∈ S ∨ ∃ p ∈ ps, c ∈ p
  | [], h => by cases h
  | [p], h => .inr ⟨p, by simp, h⟩
  | p :: r :: t, h => by
    have h : c ∈ p ++ (S ++ TL.joinL S (r :: t)) := h
    rcases List.mem_append.mp h with h | h
    · exact .inr ⟨p, by simp, h⟩
    · rcases List.mem_append.mp h with h | h
      · exact .inl h
      · rcases joinL_mem S (r :: t) h with h | ⟨q, h1, h2⟩
        · exact .inl h
        · exact .inr ⟨q, List.mem_cons_of_mem _ h1, h2⟩
theorem pj_chars {p : List Str} (h : ∀ n ∈ p, NmOk n) : ∀ c ∈ (pj p).cps.toList, c ≤ 122 := by
  intro c hc
  have hc : c ∈ TL.tl (Txt.join slash p) := hc
  rw [TL.join_eq, TL.tl_join] at hc
  rcases joinL_mem _ _ hc with h1 | ⟨q, h1, h2⟩
  · rw [tl_slash] at h1
    rw [List.mem_singleton.mp h1]; decide
  · obtain ⟨n, hn, rfl⟩ := List.mem_map.mp h1
    exact ((h n hn).2.2 c h2).2
theorem form_chars (d : Dat) : ∀ c ∈ (formOf d).cps.toList, c ≤ 122 := by
  unfold formOf
  cases d.dir
  · decide +kernel
  · decide +kernel
theorem short_of {x : Str} (h : ∀ c ∈ x.cps.toList, c ≤ 122) : (x.cps.toList.all fun c => decide (c < 16 ^ 8)) = true := by
  rw [List.all_eq_true]
  intro c hc
  have := h c hc
  exact decide_eq_true (by omega)
def RwOk (r : Rw) : Prop := (∀ n ∈ r.1, NmOk n) ∧ r.1.length ≤ 50 ∧ DatOk r.2
theorem encT_ok {r : Rw} (h : RwOk r) : PyData.leavesShort 13 (encT r) = true ∧ PyData.weight (encT r) ≤ 500 ∧ PyData.canLay0 (encT r) = true ∧ PyData.showable (encT r) = true := by
  obtain ⟨h1, h2, h3, h4, h5⟩ := h
  have l1 := pj_len h1
  have lf : (formOf r.2).cps.size ≤ 6 := by unfold formOf; cases r.2.dir <;> decide +kernel
  have lo : r.2.own.cps.size ≤ 8 := h4.2.1
  have lg : r.2.grp.cps.size ≤ 8 := h5.2.1
  have l1' : (pj r.1).cps.size ≤ 450 := by have : (pj r.1).cps.size = (pj r.1).length := rfl; omega
  have li : (if ((r.2.mode : Int) == 0) = true then 0 else (r.2.mode : Int).natAbs.log2 + 1) ≤ 10 := by
    split
    · omega
    · have : (r.2.mode : Int).natAbs.log2 ≤ (511 : Nat).log2 := by
        by_cases hz : r.2.mode = 0
        · rw [hz]; decide
        · have : r.2.mode.log2 ≤ 8 := by
            have := (Nat.log2_lt hz (k := 9)).mpr (by omega)
            omega
          rw [Int.natAbs_natCast]; exact Nat.le_trans this (by decide)
      have e : (511 : Nat).log2 = 8 := by decide
      omega
  have sg : ∀ {x : Str}, NmOk x → (x.cps.toList.all fun c => decide (c < 16 ^ 8)) = true := fun h => short_of fun c hc => (h.2.2 c hc).2
  have ok0 : ∀ {x : Str}, (∀ c ∈ x.cps.toList, c ≤ 122) → PyData.strOk x = true := fun {x} h => by
    unfold PyData.strOk
    rw [← Array.all_toList, List.all_eq_true]
    intro c hc
    have := h c hc
    exact decide_eq_true (by omega)
  refine ⟨?_, ?_, ?_, ?_⟩
  · have e : (PyData.shown (.int (r.2.mode : Int))).length ≤ 13 := PyData.shown_int_le (by omega)
    simp only [encT, PyData.leavesShort, PyData.leavesShortAll, short_of (pj_chars h1), short_of (form_chars r.2), sg h4, sg h5, e, decide_true, Bool.and_self, Bool.and_true]
  · simp only [encT, PyData.weight, PyData.weightAll]
    omega
  · simp only [encT, PyData.canLay0, PyData.canLayAll0, ok0 (pj_chars h1), ok0 (form_chars r.2), h4.fit, h5.fit, Bool.and_self]
  · have e : (r.2.mode : Int).natAbs.log2 < 1920 := by
      rw [Int.natAbs_natCast]
      by_cases hz : r.2.mode = 0
      · rw [hz]; decide
      · have := (Nat.log2_lt hz (k := 9)).mpr (by omega)
        omega
    simp only [encT, PyData.showable, PyData.showableAll, e, decide_true, Bool.and_self]
theorem encTs_ok : ∀ {l : List Rw}, (∀ r ∈ l, RwOk r) → PyData.leavesShortAll 13 (l.map encT) = true ∧ PyData.weightAll (l.map encT) ≤ 501 * l.length ∧ PyData.canLayAll0 (l.map encT) = true ∧ PyData.showableAll (l.map encT) = true ∧ PyData.hasDictAll (l.map encT) = false ∧ PyData.depthAll (l.map encT) ≤ 2
  | [], _ => by simp [PyData.leavesShortAll, PyData.weightAll, PyData.canLayAll0, PyData.showableAll, PyData.hasDictAll, PyData.depthAll]
  | r :: l, h => by
    obtain ⟨h1, h2, h3, h4, h5, h6⟩ := encTs_ok (l := l) fun x hx => h x (List.mem_cons_of_mem _ hx)
    obtain ⟨a1, a2, a3, a4⟩ := encT_ok (h r List.mem_cons_self)
    have a5 : PyData.hasDict (encT r) = false := by simp [encT, PyData.hasDict, PyData.hasDictAll]
    have a6 : PyData.depth (encT r) ≤ 2 := by simp [encT, PyData.depth, PyData.depthAll]
    rw [List.map_cons, List.length_cons]
    refine ⟨by simp only [PyData.leavesShortAll, a1, h1, Bool.and_self], by simp only [PyData.weightAll]; omega, by simp only [PyData.canLayAll0, a3, h3, Bool.and_self], by simp only [PyData.showableAll, a4, h4, Bool.and_self], by simp only [PyData.hasDictAll, a5, h5, Bool.or_self], by simp only [PyData.depthAll]; omega⟩
theorem repr_rows {K : PySem.W.Frag} {H : Hp} {L : Addr} {l : List Rw} {as : List Addr} {Q : VK} (ok : ∀ r ∈ l, RwOk r) (hl : l.length ≤ 100) (eL : H L = some (.lst (as.map V.ref))) (el : as.length = l.length) (ea : ∀ (i : Nat) (a : Addr) (r : Rw), as[i]? = some a → l[i]? = some r → H a = some (.tup (toldV r))) (q : Q (.str (encTs l).shown) H) : rRepr K [.ref L] H Q := by
  obtain ⟨h1, h2, h3, h4, h5, h6⟩ := encTs_ok ok
  have dp : ∀ (as : List Addr) (l : List Rw), as.length = l.length → (∀ (i : Nat) (a : Addr) (r : Rw), as[i]? = some a → l[i]? = some r → H a = some (.tup (toldV r))) → DpAll K H (as.map V.ref) (l.map encT) := by
    intro as
    induction as with
    | nil => intro l e _; match l, e with | [], _ => exact .nil
    | cons a as ih =>
      intro l e h
      match l, e with
      | r :: l, e =>
        refine .cons (.tup (.of (h 0 a r rfl rfl)) (.cons (.str _) (.cons (.str _) (.cons (.int _) (.cons (.str _) (.cons (.str _) .nil)))))) (ih l (by simpa using e) fun i b r' hb hr => h (i + 1) b r' (by simpa using hb) (by simpa using hr))
  refine ⟨L, encTs l, rfl, .lst (.of eL) (dp as l el ea), ?_, ?_, ?_, ?_, q⟩
  · simp only [encTs, PyData.showable, h4]
  · simp only [encTs, PyData.hasDict, h5]
  · simp only [encTs, PyData.depth]; omega
  · refine PyData.shown_fits (B := 13) (by decide) (by decide) ?_ ?_
    · simp only [encTs, PyData.leavesShort, h1]
    · simp only [encTs, PyData.weight]
      have : (2 : Nat) ^ 20 = 1048576 := by decide
      omega
end K18
namespace K18
open PySem PySem.Spec PyProof.Rows L2 NdefX StX LamX
section
variable {P : Program} {w : World} {K : PySem.W.Frag} {mg : Str → Option Value} {base : Heap} {c : Ad}
theorem mk_file {d : Dat} {H : Hp} {Q : VK} (hd : d.dir = false) (ok : DatOk d) (q : ∀ e' F' H', Grow H H' → NodeAt c H' e' d .nil F' → F'.Nodup → (∀ b ∈ F', H b = none) → Q (.ref e') H') : ∀ x dx, H x = none → H dx = none → dx ≠ x →
    spEInit c c.F preF [.ref x, .int (d.mode : Int), .str d.own, .str d.grp] (upd (upd H dx (.own x)) x (.ins c.F dx [])) (fun v H2 => v = .non ∧ Q (.ref x) H2) E0 := by
  intro x dx' hx hdx hne
  refine ⟨x, dx', .int d.mode, d.mode, d.own, d.grp, rfl, upd_same, ⟨ok.1, .inr rfl⟩, ok.2.1, ok.2.2, fun m' z => (by cases z), ?_⟩
  intro H' m' fs k1 k2 k3 k4 k5 k6
  have k2 : fs = [] := k2
  subst k2
  refine ⟨rfl, q x [x, m'] H' (kp_own hx hdx k1) ⟨dx', m', k5, .inl ⟨hd, k6, rfl, rfl, rfl⟩⟩ (by simpa using Ne.symm k3) fun a ha => ?_⟩
  simp at ha
  rcases ha with rfl | rfl
  · exact hx
  · exact none_of k4 k3
theorem mk_folder {d : Dat} {H : Hp} {Q : VK} (hd : d.dir = true) (ok : DatOk d) (q : ∀ e' F' H', Grow H H' → NodeAt c H' e' d .nil F' → F'.Nodup → (∀ b ∈ F', H b = none) → Q (.ref e') H') : ∀ x dx, H x = none → H dx = none → dx ≠ x →
    spEInit c c.D preD [.ref x, .int (d.mode : Int), .str d.own, .str d.grp] (upd (upd H dx (.own x)) x (.ins c.D dx [])) (fun v H2 => v = .non ∧ Q (.ref x) H2) E0 := by
  intro x dx' hx hdx hne
  refine ⟨x, dx', .int d.mode, d.mode, d.own, d.grp, rfl, upd_same, ⟨ok.1, .inr rfl⟩, ok.2.1, ok.2.2, fun m' z => (by cases z), ?_⟩
  intro H' m' fs k1 k2 k3 k4 k5 k6
  obtain ⟨b', rfl, hb0, hb1⟩ := k2
  have nbx : b' ≠ x := fun z => by rw [z, upd_same] at hb0; cases hb0
  have hbH := none_of hb0 nbx
  have hmH := none_of k4 k3
  have nbm : b' ≠ m' := fun z => by obtain ⟨_, dm, y⟩ := k5; rw [z, y] at hb1; cases hb1
  refine ⟨rfl, q x [x, m', b'] H' (kp_own hx hdx k1) ⟨dx', m', k5, .inr ⟨hd, b', [], [], [], k6, hb1, .nil, ⟨rfl, rfl⟩, rfl⟩⟩ ?_ fun a ha => ?_⟩
  · simp [Ne.symm k3, Ne.symm nbx, Ne.symm nbm]
  · simp at ha
    rcases ha with rfl | rfl | rfl
    · exact hx
    · exact hmH
    · exact hbH
/-! ### made_entry -/
def spMade (c : Ad) : Sp := fun vs H Q _ => ∃ (v : V) (r : Rw), vs = [v] ∧ RowAt H v r ∧ RwOk r ∧ ∀ e F H', Grow H H' → NodeAt c H' e r.2 .nil F → F.Nodup → (∀ b ∈ F, H b = none) → Q (.ref e) H'
theorem sc_made : FnScope ["_law_row"] ["_law_row"] (defScope s_law_made_entry) := ⟨rfl, rfl, rfl, by decide +kernel, rfl, by decide +kernel, by decide +kernel⟩
theorem form_dir (d : Dat) : decide (V.str (formOf d) = V.str "folder") = d.dir := by
  unfold formOf
  cases d.dir
  · decide +kernel
  · decide +kernel
theorem ca_made (L : Lv P w K mg base c) (D : Dn K mg "_law_made_entry" s_law_made_entry) : Ca P w K mg base CX0 15 "_law_made_entry" (spMade c) := by
  refine ca_ok (k := 14) D sc_made (fun _ _ _ _ _ _ us hl => match us, hl with | [_], _ => rfl) (fun vs H Q E h => ?_) (fun f cdv A outer s H vs Q E hr h => ?_)
  · obtain ⟨v, r, rfl, _⟩ := h
    rfl
  · obtain ⟨v, r, rfl, ⟨a, tp, rfl, ha, ht⟩, ok, q⟩ := h
    refine ⟨_, pss_cons (ps_if (pt_cmpR op_eq (pe_ix ix_list (pv 0) pe_int (fun _ _ => rfl)) pe_str (nomark _)) (pss_one (ps_ret (pe_mr L.mkD hr (by decide) pass0 rfl (pa_cons (pe_ix ix_list (pv 0) pe_int (fun _ _ => rfl)) (pa_cons (pe_ix ix_list (pv 0) pe_int (fun _ _ => rfl)) (pa_cons (pe_ix ix_list (pv 0) pe_int (fun _ _ => rfl)) pa_nil)))))) pss_nil)
      (pss_one (ps_ret (pe_ma L.mkF hr (by decide) pass0 rfl (pa_cons (pe_ix ix_list (pv 0) pe_int (fun _ _ => rfl)) (pa_cons (pe_ix ix_list (pv 0) pe_int (fun _ _ => rfl)) (pa_cons (pe_ix ix_list (pv 0) pe_int (fun _ _ => rfl)) pa_nil)))))), ?_⟩
    refine ⟨_, rfl, a, _, 1, .str (formOf r.2), rfl, rfl, .of ha, rfl, rfl, r.2.dir, congrArg V.bl (form_dir r.2), ?_⟩
    cases hd : r.2.dir with
    | true =>
      refine iteT ⟨_, rfl, a, _, 2, .int (r.2.mode : Int), rfl, rfl, .of ha, rfl, _, rfl, a, _, 3, .str r.2.own, rfl, rfl, .of ha, rfl, _, rfl, a, _, 4, .str r.2.grp, rfl, rfl, .of ha, rfl, ?_⟩
      exact mk_folder hd ok.2.2 q
    | false =>
      refine iteF ⟨_, rfl, a, _, 2, .int (r.2.mode : Int), rfl, rfl, .of ha, rfl, _, rfl, a, _, 3, .str r.2.own, rfl, rfl, .of ha, rfl, _, rfl, a, _, 4, .str r.2.grp, rfl, rfl, .of ha, rfl, ?_⟩
      exact mk_file hd ok.2.2 q
end
end K18
namespace K18
open PySem PySem.Spec PyProof.Rows L2 NdefX StX LamX
/-- drawn rows: sorted, a root, folders above -/
structure LOk (Up : List (List Str)) (l : List Rw) : Prop where
  sort : RSort l
  root : ∃ d, d.dir = true ∧ ([], d) ∈ l
  rw : ∀ r ∈ l, RwOk r
  par : ∀ q x d, (q ++ [x], d) ∈ l → ∃ d', (q, d') ∈ l ∧ d'.dir = true
  up : ∀ r ∈ l, r.1 ∈ Up
theorem LOk.names {Up : List (List Str)} {l : List Rw} (h : LOk Up l) : NamesOk l := fun r hr => ⟨(h.rw r hr).1, (h.rw r hr).2.1⟩
theorem LOk.len {Up : List (List Str)} {l : List Rw} (U : UpOk Up) (h : LOk Up l) : l.length ≤ 12 := by
  have : (l.map (·.1)).length ≤ Up.length := nodup_len h.sort.nodup fun p hp => by
    obtain ⟨r, h1, h2⟩ := List.mem_map.mp hp
    rw [← h2]; exact h.up r h1
  rw [List.length_map] at this
  have := U.len
  omega
theorem LOk.head {Up : List (List Str)} {l : List Rw} (h : LOk Up l) : ∃ d m, l = ([], d) :: m ∧ d.dir = true := by
  obtain ⟨d, hd, hm⟩ := h.root
  match l, h.sort, hm with
  | r :: m, s, hm =>
    rcases List.mem_cons.mp hm with e | e
    · exact ⟨d, m, by rw [e], hd⟩
    · have := (List.pairwise_cons.mp s).1 _ e
      cases hr : r.1 with
      | nil => rw [hr] at this; exact this.elim
      | cons x p => rw [hr] at this; exact this.elim
theorem plt_under {p q : List Str} (h : plt p q) : p.take q.length ≠ q := fun e => by
  have e2 := split_take e
  generalize p.drop q.length = s at e2
  subst e2
  cases s with
  | nil => rw [List.append_nil] at h; exact plt_irrefl _ h
  | cons y s => exact plt_irrefl _ (plt_trans h (plt_self_app (by simp)))
theorem less_none {q : List Str} {l : List Rw} (h : ∀ r ∈ l, plt r.1 q) : lessR q l = l := by
  unfold lessR
  rw [List.filter_eq_self]
  intro r hr
  exact decide_eq_true (plt_under (h r hr))
theorem last_split : ∀ {p : List Str}, p ≠ [] → ∃ q x, p = q ++ [x]
  | [], h => absurd rfl h
  | x :: p, _ => by
    by_cases h : p = []
    · exact ⟨[], x, by rw [h]; rfl⟩
    · obtain ⟨q, y, e⟩ := last_split h
      exact ⟨x :: q, y, by rw [e]; rfl⟩
theorem cut_drop (xs : List V) : cutV xs (some (1 : Int)) none = xs.drop 1 := by
  unfold cutV
  rw [HT.sIx_none, show (some (1 : Int)) = some ((1 : Nat) : Int) from rfl, HT.sIx_nat]
  cases xs with
  | nil => rfl
  | cons x r =>
    have : min 1 (x :: r).length = 1 := by simp
    rw [this]
    show ((x :: r).drop 1).take ((x :: r).length - 1) = _
    rw [List.take_of_length_le (by simp)]
theorem Paired.getP {α β : Type} {R : α → β → Prop} : ∀ {l : List α} {m : List β}, Paired R l m → ∀ {i : Nat} {b : β}, m[i]? = some b → ∃ a, l[i]? = some a ∧ R a b
  | _, _, .nil, i, a, h => by simp at h
  | _, _, .cons r t, 0, a, h => ⟨_, rfl, by cases h; exact r⟩
  | _, _, .cons r t, i + 1, a, h => Paired.getP t (i := i) h
section
variable {P : Program} {w : World} {K : PySem.W.Frag} {mg : Str → Option Value} {base : Heap} {c : Ad}
def spMT (c : Ad) : Sp := fun vs H Q _ => ∃ (R : Addr) (l : List Rw) (Up : List (List Str)), vs = [.ref R] ∧ RowsL H R l ∧ UpOk Up ∧ LOk Up l ∧
  ∀ (H' : Hp) (t : Addr) (k : Nd) (F : List Addr), Grow H H' → TreeAt c H' t k F → TOk Up k → rowsOf k = l → (∀ b ∈ F, H b = none) → H t = none → Q (.ref t) H'
theorem sc_mt : FnScope ["_law_rows", "_law_tree", "_law_row"] ["_law_rows"] (defScope s_law_made_tree) := ⟨rfl, rfl, rfl, by decide +kernel, rfl, by decide +kernel, by decide +kernel⟩
theorem ca_mt (B : Bt mg) (Z : Cs K mg c) (me : Ca P w K mg base CX0 15 "_law_made_entry" (spMade c)) (mt : Ma P w K mg base CX0 30 "Tree" c.T (spTInit c)) (pu : Me P w K mg base CX0 30 c.T "put" (spTPut c)) (D : Dn K mg "_law_made_tree" s_law_made_tree) : Ca P w K mg base CX0 32 "_law_made_tree" (spMT c) := by
  refine ca_ok (k := 31) D sc_mt (fun _ _ _ _ _ _ us hl => match us, hl with | [_], _ => rfl) (fun vs H Q E h => ?_) (fun f cdv A outer s H vs Q E hr h => ?_)
  · obtain ⟨R, l, Up, rfl, _⟩ := h
    rfl
  · obtain ⟨R, l, Up, rfl, hRL, U, lo, q⟩ := h
    refine ⟨_, pss_cons (ps_set (i := 1) sc_mt.nd rfl (.inl rfl) (pe_ma mt hr (by decide) pass0 rfl (pa_cons (pe_ca me hr (by decide) pass0 rfl (pa_cons (pe_ix ix_list (pv 0) pe_int (fun _ _ => rfl)) pa_nil)) pa_nil)))
      (pss_cons (ps_for PassesOwn.never rfl (pi_list (pe_slice sl_list (pv 0) (po_some pe_int) po_none)) (pg_name (i := 2) sc_mt.nd rfl (.inl rfl)) (pss_one (ps_expr (pe_me pu hr (by decide) pass0 (pv 1) (pa_cons (pe_join pe_str (pe_ix ix_list (pv 2) pe_int (fun _ _ => rfl))) (pa_cons (pe_ca me hr (by decide) pass0 rfl (pa_cons (pv 2) pa_nil)) pa_nil))))))
      (pss_one (ps_ret (pv 1)))), ?_⟩
    obtain ⟨xs, hR, pr⟩ := id hRL
    have hll := paired_len pr
    have hlen := lo.len U
    obtain ⟨d0, m, el, hd0⟩ := lo.head
    obtain ⟨v0, hv0, r0⟩ := Paired.getP pr (i := 0) (b := ([], d0)) (by rw [el]; rfl)
    have ok0 := lo.rw ([], d0) (by rw [el]; simp)
    refine ⟨_, rfl, R, xs, 0, v0, rfl, rfl, .of hR, atI_nat hv0, v0, ([], d0), rfl, r0, ok0, fun e0 F0 H1 g1 n1 nd1 fr1 => ?_⟩
    intro t dt ht hdt hne
    have tF0 : t ∉ F0 := fun z => by obtain ⟨o, y⟩ := n1.trk t z; rw [ht] at y; cases y
    have dF0 : dt ∉ F0 := fun z => by obtain ⟨o, y⟩ := n1.trk dt z; rw [hdt] at y; cases y
    have tH : H t = none := none_grow g1 ht
    refine ⟨t, dt, e0, (d0, .nil), F0, rfl, upd_same, ?_, tF0, ⟨ok0.2.2, fun _ => rfl, trivial⟩, Nat.zero_le _, Nat.zero_le _, fun top F H2 k2 et n2 nd2 fr2 => ⟨rfl, ?_⟩⟩
    · refine n1.keep fun b hb o z => ?_
      rw [upd_ne (fun y => tF0 (by rw [← y]; exact hb)), upd_ne (fun y => dF0 (by rw [← y]; exact hb))]; exact z
    have g12 : Grow H1 H2 := kp_own ht hdt k2
    have g2 : Grow H H2 := fun a o z => g12 _ _ (g1 _ _ z)
    have tF : t ∉ F := fun z => by have := fr2 t z; rw [upd_same] at this; cases this
    have frF : ∀ b ∈ F, H b = none := fun b hb => none_grow g1 (none_of (fr2 b hb) (fun y => tF (by rw [← y]; exact hb)))
    have T0 : TreeAt c H2 t (d0, .nil) F := ⟨dt, top, et, n2, nd2, tF⟩
    have K0 : TOk Up (d0, .nil) := ⟨⟨ok0.2.2, fun _ => rfl, trivial⟩, hd0, fun r d e => by
      rw [datP_leaf rfl] at e
      split at e
      · rename_i e2; rw [e2]; exact lo.up ([], d0) (by rw [el]; simp)
      · cases e⟩
    refine ⟨_, rfl, 1, rfl, R, xs, rfl, .of (g2 _ _ hR), fun S hS => ?_⟩
    rw [cut_drop]
    have eS : upd H2 S (.lst (xs.drop 1)) S = some (.lst (xs.drop 1)) := upd_same
    have g3 : Grow H (upd H2 S (.lst (xs.drop 1))) := fun a o z => by rw [upd_ne (ne_of_none (g2 a o z) hS)]; exact g2 a o z
    have T1 : TreeAt c (upd H2 S (.lst (xs.drop 1))) t (d0, .nil) F := T0.grow fun a o z => by rw [upd_ne (ne_of_none z hS)]; exact z
    have hSH : H S = none := none_grow g2 hS
    generalize upd H2 S (.lst (xs.drop 1)) = H3 at eS g3 T1
    refine ⟨S, rfl, ⟨_, .of eS⟩, ?_⟩
    have hdl : (xs.drop 1).length = l.length - 1 := by rw [List.length_drop, hll]
    refine for_it (walk_list (K := K) (a := S) (xs := xs.drop 1)) (fun i σ' H' => σ'[1]? = some (some (.ref t)) ∧ σ'.length = 3 ∧ Grow H H' ∧ H' S = some (.lst (xs.drop 1)) ∧ ∃ k F, TreeAt c H' t k F ∧ TOk Up k ∧ rowsOf k = l.take (i + 1) ∧ (∀ b ∈ F, H b = none))
      ⟨rfl, rfl, g3, eS, (d0, .nil), F, T1, K0, by rw [el]; rfl, frF⟩ (fun i _ _ _ z => .of z.2.2.2.1) ?_ ?_
    · rintro i x σ' H4 H5 hi ⟨s1, l3, g4, e4, k, F4, T4, K4, hrows, fr4⟩ ⟨rfl, hx⟩
      rw [List.getElem?_drop] at hx
      obtain ⟨r, hr1, ⟨a, tp, rfl, ha, htp⟩⟩ := Paired.atP pr hx
      rw [Nat.add_comm] at hr1
      have hrm := List.mem_of_getElem? hr1
      obtain ⟨hn1, hn2, hn3⟩ := lo.rw r hrm
      have htk : l.take (i + 1 + 1) = l.take (i + 1) ++ [r] := by rw [List.take_add_one, hr1]; rfl
      have hlt : ∀ r' ∈ l.take (i + 1), plt r'.1 r.1 := fun r' hr' => by
        have hs := lo.sort
        rw [← List.take_append_drop (i + 1 + 1) l, htk] at hs
        have hs2 := (List.pairwise_append.mp hs).1
        exact (List.pairwise_append.mp hs2).2.2 r' hr' r (by simp)
      have hne' : r.1 ≠ [] := fun z => by
        have h0 : ([], d0) ∈ l.take (i + 1) := by rw [el]; simp
        have := hlt _ h0
        rw [z] at this
        exact this
      obtain ⟨p, x', epx⟩ := last_split hne'
      obtain ⟨d', hd'm, hd'⟩ := lo.par p x' r.2 (by rw [← epx]; exact hrm)
      have hp4 : (p, d') ∈ l.take (i + 1) := by
        have hmm : (p, d') ∈ l.take (i + 1) ++ (r :: l.drop (i + 1 + 1)) := by
          have : l = l.take (i + 1) ++ (r :: l.drop (i + 1 + 1)) := by
            rw [List.append_cons, ← htk, List.take_append_drop]
          rw [← this]; exact hd'm
        rcases List.mem_append.mp hmm with z | z
        · exact z
        · exfalso
          have hpl : plt p r.1 := by rw [epx]; exact plt_self_app (by simp)
          rcases List.mem_cons.mp z with y | y
          · have : p = r.1 := congrArg Prod.fst y
            rw [this] at hpl; exact plt_irrefl _ hpl
          · have hs := lo.sort
            have e5 : l = l.take (i + 1) ++ (r :: l.drop (i + 1 + 1)) := by
              rw [List.append_cons, ← htk, List.take_append_drop]
            rw [e5] at hs
            have := (List.pairwise_cons.mp (List.pairwise_append.mp hs).2.1).1 _ y
            exact plt_irrefl _ (plt_trans hpl this)
      rw [← hrows] at hp4
      obtain ⟨k0, hf, hk0⟩ := TOk.find (Up := Up) ((mem_rowsOf K4.ok.2.2).mp hp4)
      obtain ⟨sz, dp⟩ := K4.size U
      have hx'm : x' ∈ r.1 := by rw [epx]; simp
      have hpp : ∀ n ∈ p, NmOk n := fun n hn => hn1 n (by rw [epx]; simp [hn])
      have hpl := findP_len K4.ok hf
      have ha5 := g4 _ _ ha
      have s1' : (σ'.set 2 (some (V.ref a)))[1]? = some (some (V.ref t)) := by rw [List.getElem?_set_ne (by decide)]; exact s1
      have s2' : (σ'.set 2 (some (V.ref a)))[2]? = some (some (V.ref a)) := List.getElem?_set_self (by omega)
      obtain ⟨dx, top4, et4, _⟩ := id T4
      refine ⟨_, s1', t, dx, _, rfl, et4, rfl, ⟨_, rfl⟩, _, s2', a, _, 0, .ref tp, rfl, rfl, .of ha5, rfl, slash, tp, r.1, rfl, rfl, .inr (.of (g4 _ _ htp)), join_small hn1 hn2, ?_⟩
      refine ⟨_, s2', .ref a, r, rfl, ⟨a, tp, rfl, ha5, g4 _ _ htp⟩, ⟨hn1, hn2, hn3⟩, fun e1 F1 H6 g6 n6 nd6 fr6 => ?_⟩
      have g46 : Grow H H6 := fun b o z => g6 _ _ (g4 _ _ z)
      have ep : Txt.join slash r.1 = pj (p ++ [x']) := by rw [← epx]; rfl
      refine ⟨t, e1, k, k0, (r.2, .nil), F4, F1, p, x', ?_, T4.grow g6, K4.ok, by omega, by omega, hpp, hn1 x' hx'm, by omega, hf, by rw [hk0]; exact hd', n6, ⟨hn3, fun _ => rfl, trivial⟩, rfl, fun H7 F7 k7 T7 fr7 => ?_⟩
      · exact congrArg (fun z => [V.ref t, V.str z, V.ref e1]) ep
      have nt4 : t ∉ F4 := by obtain ⟨_, _, _, _, _, z⟩ := T4; exact z
      obtain ⟨K7, m7⟩ := rows_put K4 hf (by rw [hk0]; exact hd') (hn1 x' hx'm) (k1 := (r.2, .nil)) ⟨hn3, fun _ => rfl, trivial⟩ rfl (by rw [← epx]; exact lo.up r hrm)
      have kp7 : ∀ b o, H b = some o → H7 b = some o := fun b o z => k7 b o (g46 _ _ z) (fun y => by rw [fr4 b y] at z; cases z) (fun y => by rw [y, tH] at z; cases z)
      refine ⟨s1', by rw [List.length_set]; exact l3, kp7, k7 S _ (g6 _ _ e4) (fun y => ?_) (fun y => ?_), _, F7, T7, K7, ?_, fun b hb => ?_⟩
      · obtain ⟨_, _, _, hn, _, _⟩ := T4
        exact (hn.kinds S y).lst e4
      · rw [y, et4] at e4; cases e4
      · rw [htk]
        refine rsort_perm (rowsOf_sort K7.ok.2.2) ?_ fun r' => ?_
        · have hs := lo.sort
          rw [← List.take_append_drop (i + 1 + 1) l, htk] at hs
          exact (List.pairwise_append.mp hs).1
        · rw [m7, ← epx, hrows, less_none hlt, List.mem_append, List.mem_singleton]
      · rcases fr7 b hb with y | y
        · exact fr4 b y
        · exact none_grow g46 y
    · rintro σ' H4 ⟨s1, l3, g4, e4, k, F4, T4, K4, hrows, fr4⟩
      have hl1 : 1 ≤ l.length := by rw [el]; simp
      rw [hdl, Nat.sub_add_cancel hl1, List.take_length] at hrows
      exact ⟨_, s1, q H4 t k F4 g4 T4 K4 hrows fr4 tH⟩
end
end K18
namespace K18
open PySem PySem.Spec PyProof.Rows L2 NdefX StX LamX
def menuL : List Str := ["a", "aa", "ab", "b", "ba", "abcdefgh", "abcdefgi", "z"]
def ownL : List Str := ["ann", "ann", "bob", "cy"]
def grpL : List Str := ["staff", "ops", "ann"]
def extL : List Str := ["a", "zy", "m"]
def annL : List Str := ["ann", "ops"]
def nmB (z : Str) : Bool := decide (1 ≤ z.length) && decide (z.length ≤ 8) && z.cps.toList.all fun c => decide (97 ≤ c) && decide (c ≤ 122)
theorem nm_of {z : Str} (h : nmB z = true) : NmOk z := by
  unfold nmB at h
  simp only [Bool.and_eq_true, decide_eq_true_eq, List.all_eq_true] at h
  exact ⟨h.1.1, h.1.2, fun c hc => h.2 c hc⟩
theorem nm_all : ∀ z ∈ menuL ++ ownL ++ grpL ++ extL ++ annL, NmOk z := by
  have : (menuL ++ ownL ++ grpL ++ extL ++ annL).all nmB = true := by decide +kernel
  exact fun z hz => nm_of (List.all_eq_true.mp this z hz)
theorem zz_no : ∀ z ∈ menuL ++ extL, z ≠ "zz" := by decide +kernel
/-- rows as they are drawn -/
structure DOk (n : Nat) (l : List Rw) : Prop where
  nd : (l.map (·.1)).Nodup
  root : ∃ d, d.dir = true ∧ ([], d) ∈ l
  dat : ∀ r ∈ l, DatOk r.2
  nm : ∀ r ∈ l, ∀ x ∈ r.1, x ∈ menuL
  len : ∀ r ∈ l, r.1.length ≤ n
  par : ∀ q x d, (q ++ [x], d) ∈ l → ∃ d', (q, d') ∈ l ∧ d'.dir = true
  cnt : l.length ≤ n + 1
theorem DOk.rw {n : Nat} {l : List Rw} (h : DOk n l) (hn : n ≤ 50) : ∀ r ∈ l, RwOk r := fun r hr => ⟨fun x hx => nm_all x (by simp [h.nm r hr x hx]), Nat.le_trans (h.len r hr) hn, h.dat r hr⟩
theorem DOk.mono {n m : Nat} {l : List Rw} (h : DOk n l) (hm : n ≤ m) : DOk m l := ⟨h.nd, h.root, h.dat, h.nm, fun r hr => Nat.le_trans (h.len r hr) hm, h.par, Nat.le_trans h.cnt (by omega)⟩
theorem DOk.add {n : Nat} {l : List Rw} {q : List Str} {x : Str} {d d' : Dat} (h : DOk n l) (hq : (q, d') ∈ l) (hd' : d'.dir = true) (hx : x ∈ menuL) (hd : DatOk d) (hn : q ++ [x] ∉ l.map (·.1)) : DOk (n + 1) (l ++ [(q ++ [x], d)]) where
  nd := by
    rw [List.map_append, List.nodup_append]
    refine ⟨h.nd, by simp, fun a ha b hb => ?_⟩
    rintro rfl
    have : a = q ++ [x] := by simpa using hb
    rw [this] at ha; exact hn ha
  root := let ⟨d, a, b⟩ := h.root; ⟨d, a, List.mem_append_left _ b⟩
  dat := fun r hr => by
    rcases List.mem_append.mp hr with z | z
    · exact h.dat r z
    · rw [List.mem_singleton.mp z]; exact hd
  nm := fun r hr y hy => by
    rcases List.mem_append.mp hr with z | z
    · exact h.nm r z y hy
    · rw [List.mem_singleton.mp z] at hy
      rcases List.mem_append.mp hy with z | z
      · exact h.nm _ hq y z
      · rw [List.mem_singleton.mp z]; exact hx
  len := fun r hr => by
    rcases List.mem_append.mp hr with z | z
    · exact Nat.le_succ_of_le (h.len r z)
    · rw [List.mem_singleton.mp z]
      have := h.len _ hq
      show (q ++ [x]).length ≤ n + 1
      rw [List.length_append]
      exact Nat.succ_le_succ this
  par := fun p y e hr => by
    rcases List.mem_append.mp hr with z | z
    · obtain ⟨d2, a, b⟩ := h.par p y e z
      exact ⟨d2, List.mem_append_left _ a, b⟩
    · have z := List.mem_singleton.mp z
      have e1 : p ++ [y] = q ++ [x] := congrArg Prod.fst z
      have e2 : p = q := by
        have := congrArg List.dropLast e1
        simpa using this
      subst e2
      exact ⟨d', List.mem_append_left _ hq, hd'⟩
  cnt := by rw [List.length_append]; have := h.cnt; show l.length + 1 ≤ _; omega
/-- the world of paths of drawn rows -/
def upOf (l : List Rw) : List (List Str) := l.map (·.1) ++ extL.map fun x => [x]
theorem up_ok {l : List Rw} (h : DOk 8 l) : UpOk (upOf l) := by
  refine ⟨?_, fun p hp n hn => ?_⟩
  · unfold upOf
    rw [List.length_append, List.length_map, List.length_map]
    have := h.cnt
    show l.length + 3 ≤ 12
    omega
  · rcases List.mem_append.mp (show p ∈ l.map (·.1) ++ extL.map fun x => [x] from hp) with z | z
    · obtain ⟨r, h1, h2⟩ := List.mem_map.mp z
      rw [← h2] at hn
      have := h.nm r h1 n hn
      exact ⟨nm_all n (by simp [this]), zz_no n (by simp [this])⟩
    · have hm : n ∈ extL := by
        obtain ⟨x, h1, rfl⟩ := List.mem_map.mp z
        rw [List.mem_singleton.mp hn]; exact h1
      exact ⟨nm_all n (by simp [hm]), zz_no n (List.mem_append_right _ hm)⟩
theorem sorted_ok {l : List Rw} (h : DOk 8 l) : LOk (upOf l) (l.mergeSort (PySem.W.dataLe false encR)) := by
  have hp : (l.mergeSort (PySem.W.dataLe false encR)).Perm l := List.mergeSort_perm _ _
  have hm : ∀ r, r ∈ l.mergeSort (PySem.W.dataLe false encR) ↔ r ∈ l := fun r => hp.mem_iff
  refine ⟨sort_rows h.nd, ?_, fun r hr => h.rw (by decide) r ((hm r).mp hr), fun q x d hr => ?_, fun r hr => ?_⟩
  · obtain ⟨d, a, b⟩ := h.root
    exact ⟨d, a, (hm _).mpr b⟩
  · obtain ⟨d', a, b⟩ := h.par q x d ((hm _).mp hr)
    exact ⟨d', (hm _).mpr a, b⟩
  · show r.1 ∈ l.map (·.1) ++ extL.map fun x => [x]
    exact List.mem_append_left _ (List.mem_map.mpr ⟨r, (hm r).mp hr, rfl⟩)
end K18
namespace K18
open PySem PySem.Spec PyProof.Rows L2 NdefX StX LamX
section
variable {P : Program} {w : World} {K : PySem.W.Frag} {mg : Str → Option Value} {base : Heap} {c : Ad}
def spDR : Sp := fun vs H Q _ => ∃ (pn : Addr) (n : Nat), vs = [.ref pn, .int 9] ∧ PenAt H pn n ∧ n ≤ 80000 ∧
  ∀ (H' : Hp) (R : Addr) (l : List Rw) (Up : List (List Str)), Kp [pn] H H' → PenAt H' pn (n + 80) → RowsL H' R l → UpOk Up → LOk Up l → (∀ x ∈ extL, [x] ∈ Up) → Q (.ref R) H'
structure DSt (H0 H : Hp) (pn M O G R : Addr) (nn : Nat) (l : List Rw) : Prop where
  kp : Kp [pn] H0 H
  pen : PenAt H pn nn
  m : H M = some (.lst (menuL.map V.str))
  o : H O = some (.lst (ownL.map V.str))
  g : H G = some (.lst (grpL.map V.str))
  mp : M ≠ pn
  op : O ≠ pn
  gp : G ≠ pn
  mr : M ≠ R
  or : O ≠ R
  gr : G ≠ R
  r0 : H0 R = none
  rows : RowsL H R l
theorem DSt.draw {H0 H H' : Hp} {pn M O G R : Addr} {nn mm : Nat} {l : List Rw} (d : DSt H0 H pn M O G R nn l) (k : Kp [pn] H H') (p : PenAt H' pn mm) : DSt H0 H' pn M O G R mm l :=
  ⟨d.kp.trans k, p, k _ _ d.m (by simpa using d.mp), k _ _ d.o (by simpa using d.op), k _ _ d.g (by simpa using d.gp), d.mp, d.op, d.gp, d.mr, d.or, d.gr, d.r0, d.rows.keep (.pen d.pen k)⟩
theorem DSt.grow {H0 H H' : Hp} {pn M O G R : Addr} {nn : Nat} {l : List Rw} (d : DSt H0 H pn M O G R nn l) (g : Grow H H') : DSt H0 H' pn M O G R nn l :=
  ⟨d.kp.trans (Kp.of_same g), d.pen.grow g, g _ _ d.m, g _ _ d.o, g _ _ d.g, d.mp, d.op, d.gp, d.mr, d.or, d.gr, d.r0, d.rows.keep (.grow g)⟩
theorem DSt.mono {H0 H : Hp} {pn M O G R : Addr} {nn mm : Nat} {l : List Rw} (d : DSt H0 H pn M O G R nn l) (h : nn ≤ mm) : DSt H0 H pn M O G R mm l := { d with pen := d.pen.mono h }
theorem up_new {H : Hp} {p : Addr} {o : HO} (h : H p = none) : Grow H (upd H p o) := fun a u z => by rw [upd_ne (ne_of_none z h)]; exact z
theorem pen_lst {H : Hp} {pn p : Addr} {n : Nat} {xs : List V} (h : PenAt H pn n) (e : H p = some (.lst xs)) (hx : ¬ isPen xs) : p ≠ pn := fun z => by
  obtain ⟨L, zs, a, g, h1, _⟩ := h
  rw [z, h1] at e
  cases e
  exact hx ⟨L, _, _, rfl⟩
theorem strs_np (l : List Str) : ¬ isPen (l.map V.str) := fun ⟨L, i, j, e⟩ => by
  cases l with
  | nil => cases e
  | cons x r => cases e
theorem Grow.trans' {H H1 H2 : Hp} (a : Grow H H1) (b : Grow H1 H2) : Grow H H2 := fun c o z => b c o (a c o z)
theorem dok0 {d : Dat} (hd : d.dir = true) (ok : DatOk d) : DOk 0 [(([] : List Str), d)] where
  nd := by simp
  root := ⟨d, hd, by simp⟩
  dat := fun r hr => by rw [List.mem_singleton.mp hr]; exact ok
  nm := fun r hr x hx => by rw [List.mem_singleton.mp hr] at hx; cases hx
  len := fun r hr => by rw [List.mem_singleton.mp hr]; exact Nat.le_refl _
  par := fun q x d hr => by
    have := congrArg Prod.fst (List.mem_singleton.mp hr)
    simp at this
  cnt := Nat.le_refl _
theorem take_set_ge {σ : L2.St} {k j : Nat} {v : Option V} (h : k ≤ j) : (σ.set j v).take k = σ.take k := by
  rw [List.take_set, List.set_eq_of_length_le (by rw [List.length_take]; omega)]
theorem wipe_one {σ : L2.St} {j : Nat} {v : Option V} : wipe ((wipe σ [j]).set j v) [j] = wipe σ [j] := by
  show ((σ.set j none).set j v).set j none = σ.set j none
  rw [List.set_set, List.set_set]
theorem dp_row {K : PySem.W.Frag} {H : Hp} {v : V} {r : Rw} (h : RowAt H v r) : Dp K H v (encR r) := by
  obtain ⟨a, tp, rfl, h1, h2⟩ := h
  exact .lst (.of h1) (.cons (.tup (.of h2) (dp_strs _)) (.cons (.str _) (.cons (.int _) (.cons (.str _) (.cons (.str _) .nil)))))
theorem dp_rows {K : PySem.W.Frag} {H : Hp} : ∀ {vs : List V} {l : List Rw}, Paired (RowAt H) vs l → DpAll K H vs (l.map encR)
  | _, _, .nil => .nil
  | _, _, .cons h t => .cons (dp_row h) (dp_rows t)
theorem lay_rows : ∀ {l : List Rw}, (∀ r ∈ l, RwOk r) → PyData.canLayAll0 (l.map encR) = true ∧ PyData.depthAll (l.map encR) ≤ 32
  | [], _ => by simp [PyData.canLayAll0, PyData.depthAll]
  | r :: l, h => by
    obtain ⟨h1, h2⟩ := lay_rows (l := l) fun x hx => h x (List.mem_cons_of_mem _ hx)
    obtain ⟨a1, a2, a3, a4, a5⟩ := h r List.mem_cons_self
    have f : PyData.strOk (formOf r.2) = true := by
      unfold PyData.strOk
      rw [← Array.all_toList, List.all_eq_true]
      intro c hc
      have := form_chars r.2 c hc
      exact decide_eq_true (by omega)
    have d := depth_row r
    rw [List.map_cons]
    refine ⟨?_, by simp only [PyData.depthAll]; omega⟩
    rw [PyData.canLayAll0, h1, Bool.and_true]
    simp only [encR, PyData.canLay0, PyData.canLayAll0, lay_strs a1, f, a4.fit, a5.fit, Bool.and_self]
theorem shaped_rows {l : List Rw} (h : ∀ r ∈ l, RwOk r) : SeqAt.shaped (.list (l.map encR)) = true := by
  obtain ⟨h1, h2⟩ := lay_rows h
  simp [SeqAt.shaped, PyData.canLay0, PyData.depth, h1]
  omega
theorem eqv_nil (l : List Rw) : PyData.eqv (.list (l.map encR)) (.list []) = l.isEmpty := by
  cases l with
  | nil => simp [PyData.eqv, PyData.eqvAll]
  | cons r l => simp [PyData.eqv, PyData.eqvAll]
theorem forms3 (fr : Nat) (h : fr < 3) : ∃ b : Bool, ([.str "file", .str "folder", .str "folder"] : List V)[fr]? = some (.str (if b then "folder" else "file")) := by
  match fr, h with
  | 0, _ => exact ⟨false, rfl⟩
  | 1, _ => exact ⟨true, rfl⟩
  | 2, _ => exact ⟨true, rfl⟩
theorem refs_all {H : Hp} : ∀ {vs : List V} {l : List Rw}, Paired (RowAt H) vs l → ∀ v ∈ vs, ∃ a, v = .ref a
  | _, _, .nil, v, h => by cases h
  | _, _, .cons h t, v, hv => by
    rcases List.mem_cons.mp hv with e | e
    · obtain ⟨a, _, e2, _⟩ := h
      exact ⟨a, e.trans e2⟩
    · exact refs_all t v e
theorem rowI_no {tp : Addr} {r : Rw} {xs : List V} (h : ∀ v ∈ xs, ∃ a, v = .ref a) (e : rowI tp r = xs) : False := by
  obtain ⟨a, z⟩ := h (.str (formOf r.2)) (by rw [← e]; simp [rowI])
  cases z
theorem row_upd {H : Hp} {R : Addr} {xw : List V} {o : HO} {v : V} {r : Rw} (hall : ∀ v ∈ xw, ∃ a, v = .ref a) (eR : H R = some (.lst xw)) (h : RowAt H v r) : RowAt (upd H R o) v r := by
  obtain ⟨a, tp, rfl, h1, h2⟩ := h
  refine ⟨a, tp, rfl, ?_, ?_⟩
  · rw [upd_ne (fun z => by rw [z, eR] at h1; injection h1 with h1; injection h1 with h1; exact rowI_no hall h1.symm)]; exact h1
  · rw [upd_ne (fun z => by rw [z, eR] at h2; cases h2)]; exact h2
/-- (..) + (..), the answer said once -/
def rCatU : R2 := fun x y H Q => ∃ a b xs ys, x = .ref a ∧ y = .ref b ∧ H a = some (.tup xs) ∧ H b = some (.tup ys) ∧ xs.length + ys.length ≤ sizeLine ∧ ∀ t H', Grow H H' → H' t = some (.tup (xs ++ ys)) → Q (.ref t) H'
theorem op_catU {X : Cx} : OpR X (binaryOp .Add) rCatU := by
  intro pins s σ H x y v u Q I rx ry h
  obtain ⟨a, b, xs, ys, rfl, rfl, ha, hb, hz, q⟩ := h
  refine op_catA pins s σ H _ _ v u Q I rx ry ⟨a, b, xs, ys, rfl, rfl, .of ha, .of hb, hz, fun e => ?_, fun _ e => ?_, fun _ _ p hp => ?_⟩
  · subst e; exact q b H (fun _ _ z => z) hb
  · subst e; exact q a H (fun _ _ z => z) (by rw [List.append_nil]; exact ha)
  · exact q p _ (up_new hp) upd_same
/-- one of the folders -/
def tAbove : TE := fun σ H Q => ∃ (way spot : Nat) (Df : Addr) (vs : List V), σ[7]? = some (some (.int (way : Int))) ∧ σ[8]? = some (some (.int (spot : Int))) ∧ σ[10]? = some (some (.ref Df)) ∧ H Df = some (.lst vs) ∧ vs ≠ [] ∧ ∀ (j : Nat) (v : V), vs[j]? = some v → Q v H
/-- [row for row in rows if ..]: rows that pass -/
theorem lc_rows {K : PySem.W.Frag} {σ : L2.St} {vs : List Nat} {D R : Addr} {H1 : Hp} {xs : List V} {l : List Rw} {g : TG} {tt : TT} {te : TE} {Qd : Hp → Prop} (hR : H1 R = some (.lst xs)) (pr : Paired (RowAt H1) xs l) (hD : H1 D = none) (hlen : l.length ≤ 100) (pred : Rw → Bool)
    (step : ∀ (a tq : Addr) (r : Rw) (H3 : Hp) (Kt : VK) (Kf : Hp → Prop), r ∈ l → Grow H1 H3 → H3 a = some (.lst (rowI tq r)) → H3 tq = some (.tup (r.1.map V.str)) → (pred r = true → Kt (.ref a) H3) → (pred r = false → Kf H3) →
      g (.ref a) (wipe σ vs) H3 fun σ2 H2 => wipe σ2 vs = wipe σ vs ∧ tt σ2 H2 fun b H4 => if b = true then te σ2 H4 Kt else Kf H4)
    (fin : ∀ H', Grow H1 H' → RowsL H' D (l.filter pred) → Qd H') :
    ∃ W : Nat → Nat → Hp → Prop, (∃ m, W 0 m (upd H1 D (.lst []))) ∧ ∀ i m H, W i m H →
      ((Itl K R).stop i H ∧ Qd H) ∨ ((Itl K R).go i H ∧ ∃ Nx : Hp → Prop, (∀ H', Nx H' → ∃ m', m' < m ∧ W (i + 1) m' H') ∧ ∀ x H', (Itl K R).yld i H x H' → g x (wipe σ vs) H' fun σ2 H2 => wipe σ2 vs = wipe σ vs ∧ tt σ2 H2 fun b H3 =>
        if b = true then te σ2 H3 fun y H4 => ∃ acc, H4 D = some (.lst acc) ∧ acc.length < sizeLine ∧ Nx (upd H4 D (.lst (acc ++ [y]))) else Nx H3) := by
  have hll := paired_len pr
  refine lc_it (walk_list (K := K) (a := R) (xs := xs)) (fun i H2 => Grow H1 H2 ∧ ∃ acc, H2 D = some (.lst acc) ∧ acc.length ≤ i ∧ Paired (RowAt H1) acc ((l.take i).filter pred)) ⟨up_new hD, [], upd_same, Nat.le_refl _, .nil⟩ (fun _ _ _ z => SqL.of (z.1 _ _ hR)) ?_ ?_
  · rintro i x H2 H3 hi ⟨g2, acc, e2, la, p2⟩ ⟨rfl, hx⟩
    obtain ⟨r, hr1, ⟨a, tq, rfl, ha, ht⟩⟩ := Paired.atP pr hx
    have htk : l.take (i + 1) = l.take i ++ [r] := by rw [List.take_add_one, hr1]; rfl
    refine step a tq r H3 _ _ (List.mem_of_getElem? hr1) g2 (g2 _ _ ha) (g2 _ _ ht) (fun hb => ?_) fun hb => ?_
    · refine ⟨acc, e2, Nat.lt_of_le_of_lt la (Nat.lt_of_lt_of_le (show i < 101 by omega) (small_line (by decide))), fun b o z => ?_, acc ++ [.ref a], upd_same, by simp; omega, ?_⟩
      · rw [upd_ne (ne_of_none z hD)]; exact g2 _ _ z
      · rw [htk, List.filter_append, show [r].filter pred = [r] by simp [hb]]
        exact paired_snoc ⟨a, tq, rfl, ha, ht⟩ p2
    · refine ⟨g2, acc, e2, by omega, ?_⟩
      rw [htk, List.filter_append, show [r].filter pred = [] by simp [hb], List.append_nil]
      exact p2
  · rintro H2 ⟨g2, acc, e2, la, p2⟩
    rw [hll, List.take_length] at p2
    exact fin H2 g2 ⟨acc, e2, L2.Paired.mapP p2 fun v r z => z.keep (.grow g2)⟩
abbrev NDR : List Str := ["_law_pen_here", "_law_most", "_law_menu", "_law_owners", "_law_groups", "_law_rows", "_law_k", "_law_way", "_law_spot", "_law_row", "_law_folders", "_law_above", "_law_names", "_law_form", "_law_one"]
theorem sc_dr : FnScope NDR ["_law_pen_here", "_law_most"] (defScope s_law_drawn_rows) := ⟨rfl, rfl, rfl, by decide +kernel, rfl, by decide +kernel, by decide +kernel⟩
theorem ca_dr (B : Bt mg) (dr : Ca P w K mg base CX0 1 "_law_draw" spDraw) (pk : Ca P w K mg base CX0 2 "_law_pick" spPick) (dm : Ca P w K mg base CX0 2 "_law_drawn_mode" spMode) (D : Dn K mg "_law_drawn_rows" s_law_drawn_rows) : Ca P w K mg base CX0 3 "_law_drawn_rows" spDR := by
  refine ca_ok (k := 2) D sc_dr (fun _ _ _ _ _ _ us hl => match us, hl with | [_, _], _ => rfl) (fun vs H Q E h => ?_) (fun f cdv A outer s H vs Q E hr h => ?_)
  · obtain ⟨pn, n, rfl, _⟩ := h
    rfl
  · obtain ⟨pn, n, rfl, hP, hn, q⟩ := h
    refine ⟨_, pss_cons (ps_set (i := 2) sc_dr.nd rfl (.inl rfl) (pe_lst (pa_cons pe_str (pa_cons pe_str (pa_cons pe_str (pa_cons pe_str (pa_cons pe_str (pa_cons pe_str (pa_cons pe_str (pa_cons pe_str pa_nil))))))))))
      (pss_cons (ps_par (i := 3) (j := 4) rfl sc_dr.nd rfl rfl (by decide) rfl rfl (pa_cons (pe_lst (pa_cons pe_str (pa_cons pe_str (pa_cons pe_str (pa_cons pe_str pa_nil))))) (pa_cons (pe_lst (pa_cons pe_str (pa_cons pe_str (pa_cons pe_str pa_nil)))) pa_nil)) rfl)
      (pss_cons (ps_set (i := 5) sc_dr.nd rfl (.inl rfl) (pe_lst (pa_cons (pe_lst (pa_cons (pe_tup pa_nil) (pa_cons pe_str (pa_cons (pe_ca dm hr (by decide) pass0 rfl (pa_cons (pv 0) pa_nil)) (pa_cons (pe_ca pk hr (by decide) pass0 rfl (pa_cons (pv 0) (pa_cons (pv 3) pa_nil))) (pa_cons (pe_ca pk hr (by decide) pass0 rfl (pa_cons (pv 0) (pa_cons (pv 4) pa_nil))) pa_nil)))))) pa_nil)))
      (pss_cons (ps_for PassesOwn.never rfl (pi_range1 rfl B.range (pa_cons (pe_ca dr hr (by decide) pass0 rfl (pa_cons (pv 0) (pa_cons (pv 1) pa_nil))) pa_nil)) (pg_name (i := 6) sc_dr.nd rfl (.inl rfl))
        (pss_cons (ps_par (i := 7) (j := 8) rfl sc_dr.nd rfl rfl (by decide) rfl rfl (pa_cons (pe_ca dr hr (by decide) pass0 rfl (pa_cons (pv 0) (pa_cons pe_int pa_nil))) (pa_cons (pe_ca dr hr (by decide) pass0 rfl (pa_cons (pv 0) (pa_cons (pe_op op_pow pe_int pe_int) pa_nil))) pa_nil)) rfl)
        (pss_cons (ps_setLc (i := 10) (own := [("_law_row", 9)]) (g := gName 9) rfl sc_dr.nd rfl rfl rfl (pi_list (pv 5)) (blkOk_by (own := [("_law_row", 9)]) (N := NDR) (sc := defScope s_law_drawn_rows) (by decide +kernel))
          (fun _ _ _ _ _ => pg_name (i := 9) sc_dr.nd rfl (Or.inl rfl)) (fun _ _ _ _ _ => pts_one (pt_cmpR op_eq (pe_ix (r := rIxL K) ix_list (pv 9) pe_int (fun _ _ => rfl)) pe_str (nomark _))) (fun _ _ _ _ _ => pv 9))
        (pss_cons (ps_set (i := 11) sc_dr.nd rfl (.inl rfl) (pe_imp (u := tAbove) (pe_ifExp (pt_cmpR op_eq (pv 7) pe_int (nomark _)) (pe_ix ix_list (pv 10) (pe_un un_neg pe_int) (fun _ _ => rfl)) (pe_ix ix_list (pv 10) (pe_op op_mod (pe_callTy call_int1 rfl B.int boot_int (pa_cons (pv 8) pa_nil)) (pe_callB call_len_seq rfl B.len boot_len (pa_cons (pv 10) pa_nil))) (fun _ _ => rfl))) (fun σ H Q h => by
            obtain ⟨way, spot, Df, vs, h7, h8, h10, hd, hne, hq⟩ := h
            have hp : 0 < vs.length := List.length_pos_iff.mpr hne
            refine ⟨_, h7, rfl, decide (V.int (way : Int) = V.int 0), rfl, ?_⟩
            by_cases hw : V.int (way : Int) = V.int 0
            · rw [decide_eq_true hw]
              have hl : vs[vs.length - 1]? = some vs[vs.length - 1] := List.getElem?_eq_getElem (by omega)
              refine iteT ⟨_, h10, 1, rfl, Df, vs, -1, _, rfl, rfl, .of hd, ?_, hq _ _ hl⟩
              unfold atI ixN
              rw [if_neg (by decide), if_pos (by omega)]
              show vs[_]? = _
              rw [← hl]
              congr 1
              omega
            · rw [decide_eq_false hw]
              have hm : spot % vs.length < vs.length := Nat.mod_lt _ hp
              have hl : vs[spot % vs.length]? = some vs[spot % vs.length] := List.getElem?_eq_getElem hm
              refine iteF ⟨_, h10, _, h8, .inl ⟨spot, rfl, _, h10, Df, vs, rfl, .inl (.of hd), spot, vs.length, rfl, rfl, (show (0 : Int) < (vs.length : Nat) by omega), Df, vs, _, _, rfl, rfl, .of hd, ?_, hq _ _ hl⟩⟩
              rw [← Int.natCast_emod]
              exact atI_nat hl)))
        (pss_cons (ps_asg (pe_tup (pa_cons (pe_op op_catU (pe_ix ix_list (pv 11) pe_int (fun _ _ => rfl)) (pe_tup (pa_cons (pe_ca pk hr (by decide) pass0 rfl (pa_cons (pv 0) (pa_cons (pv 2) pa_nil))) pa_nil))) (pa_cons (pe_ix ix_list (pe_lst (pa_cons pe_str (pa_cons pe_str (pa_cons pe_str pa_nil)))) (pe_ca dr hr (by decide) pass0 rfl (pa_cons (pv 0) (pa_cons pe_int pa_nil))) (fun _ _ => rfl)) pa_nil)))
            (pg_tup rfl (pgs_cons (pg_name (i := 12) sc_dr.nd rfl (.inr rfl)) (pgs_cons (pg_name (i := 13) sc_dr.nd rfl (.inl rfl)) pgs_nil))))
        (pss_cons (ps_set (i := 9) sc_dr.nd rfl (.inl rfl) (pe_lst (pa_cons (pv 12) (pa_cons (pv 13) (pa_cons (pe_ca dm hr (by decide) pass0 rfl (pa_cons (pv 0) pa_nil)) (pa_cons (pe_ca pk hr (by decide) pass0 rfl (pa_cons (pv 0) (pa_cons (pv 3) pa_nil))) (pa_cons (pe_ca pk hr (by decide) pass0 rfl (pa_cons (pv 0) (pa_cons (pv 4) pa_nil))) pa_nil)))))))
        (pss_one (ps_if (pt_cmpR (op_eqD hr.units) (pe_lc (own := [("_law_one", 14)]) (g := gName 14) rfl sc_dr.nd (pi_list (pv 5)) (blkOk_by (own := [("_law_one", 14)]) (N := NDR) (sc := defScope s_law_drawn_rows) (by decide +kernel))
            (fun _ _ _ _ _ => pg_name (i := 14) sc_dr.nd rfl (Or.inl rfl)) (fun _ _ _ _ _ => pts_one (pt_cmpR (r := rEqD K) (op_eqD hr.units) (pe_ix (r := rIxL K) ix_list (pv 14) pe_int (fun _ _ => rfl)) (pv 12) (nomark _))) (fun _ _ _ _ _ => pv 14)) (pe_lst pa_nil) (nomark _))
          (pss_one (ps_expr (pe_bm PySem.F.plainAttrs_list PySem.F.slot_list_append PySem.F.type_list_append mt_append (pv 5) (pa_cons (pv 9) pa_nil)))) pss_nil))))))))
      (pss_one (ps_ret (pe_callB (cr_sortD hr.units) rfl B.sorted boot_sorted (pa_cons (pv 5) pa_nil))))))), ?_⟩
    refine ⟨Nat.le_of_ble_eq_true rfl, fun M hM => ?_⟩
    have g1 : Grow H _ := up_new (o := .lst [.str "a", .str "aa", .str "ab", .str "b", .str "ba", .str "abcdefgh", .str "abcdefgi", .str "z"]) hM
    have eM : upd H M (.lst [.str "a", .str "aa", .str "ab", .str "b", .str "ba", .str "abcdefgh", .str "abcdefgi", .str "z"]) M = some (.lst (menuL.map V.str)) := upd_same
    generalize upd H M (.lst [.str "a", .str "aa", .str "ab", .str "b", .str "ba", .str "abcdefgh", .str "abcdefgi", .str "z"]) = H1 at g1 eM
    refine ⟨Nat.le_of_ble_eq_true rfl, fun O hO => ⟨Nat.le_of_ble_eq_true rfl, fun G hG => ⟨_, _, rfl, ?_⟩⟩⟩
    have g2 : Grow H _ := Grow.trans' g1 (up_new (o := .lst [.str "ann", .str "ann", .str "bob", .str "cy"]) hO)
    have eO : upd H1 O (.lst [.str "ann", .str "ann", .str "bob", .str "cy"]) O = some (.lst (ownL.map V.str)) := upd_same
    have eM2 := up_new (o := .lst [.str "ann", .str "ann", .str "bob", .str "cy"]) hO _ _ eM
    generalize upd H1 O (.lst [.str "ann", .str "ann", .str "bob", .str "cy"]) = H2 at g2 eO eM2 hG
    have g3 : Grow H _ := Grow.trans' g2 (up_new (o := .lst [.str "staff", .str "ops", .str "ann"]) hG)
    have eG : upd H2 G (.lst [.str "staff", .str "ops", .str "ann"]) G = some (.lst (grpL.map V.str)) := upd_same
    have eO3 := up_new (o := .lst [.str "staff", .str "ops", .str "ann"]) hG _ _ eO
    have eM3 := up_new (o := .lst [.str "staff", .str "ops", .str "ann"]) hG _ _ eM2
    generalize upd H2 G (.lst [.str "staff", .str "ops", .str "ann"]) = H3 at g3 eG eO3 eM3
    have P3 := hP.grow g3
    have Mp := pen_lst P3 eM3 (strs_np _)
    have Op := pen_lst P3 eO3 (strs_np _)
    have Gp := pen_lst P3 eG (strs_np _)
    refine ⟨Nat.zero_le _, fun T hT => ?_⟩
    have g4 := Grow.trans' g3 (up_new (o := .tup []) hT)
    have P4 := P3.grow (up_new (o := .tup []) hT)
    have eM4 := up_new (o := .tup []) hT _ _ eM3
    have eO4 := up_new (o := .tup []) hT _ _ eO3
    have eG4 := up_new (o := .tup []) hT _ _ eG
    have eT4 : upd H3 T (.tup []) T = some (.tup []) := upd_same
    generalize upd H3 T (.tup []) = H4 at g4 P4 eM4 eO4 eG4 eT4
    have Tp : T ≠ pn := fun z => by
      obtain ⟨L, zs, a, g, h1, _⟩ := P4
      rw [z, h1] at eT4; cases eT4
    refine ⟨_, rfl, pn, n, rfl, P4, by omega, fun m0 H5 hm0 k5 p5 => ?_⟩
    refine ⟨_, rfl, _, rfl, pn, O, ownL.map V.str, n + 2, rfl, k5 _ _ eO4 (by simpa using Op), Op, by decide, by decide, p5, by omega, fun vo H6 hvo k6 p6 => ?_⟩
    refine ⟨_, rfl, _, rfl, pn, G, grpL.map V.str, n + 3, rfl, k6 _ _ (k5 _ _ eG4 (by simpa using Gp)) (by simpa using Gp), Gp, by decide, by decide, p6, by omega, fun vg H7 hvg k7 p7 => ?_⟩
    obtain ⟨so, hso, rfl⟩ := List.mem_map.mp hvo
    obtain ⟨sg, hsg, rfl⟩ := List.mem_map.mp hvg
    have k47 : Kp [pn] H4 H7 := (k5.trans k6).trans k7
    have k07 : Kp [pn] H H7 := (Kp.of_same g4).trans k47
    refine ⟨Nat.le_of_ble_eq_true rfl, fun r0 hr0 => ⟨Nat.le_of_ble_eq_true rfl, fun R hR => ?_⟩⟩
    have d0ok : DatOk (⟨true, m0, so, sg⟩ : Dat) := ⟨hm0, nm_all so (by simp [hso]), nm_all sg (by simp [hsg])⟩
    have eT7 := k47 _ _ eT4 (by simpa using Tp)
    have gR : Grow H7 (upd (upd H7 r0 (.lst [.ref T, .str "folder", .int (m0 : Int), .str so, .str sg])) R (.lst [.ref r0])) := Grow.trans' (up_new hr0) (up_new hR)
    have eR : upd (upd H7 r0 (.lst [.ref T, .str "folder", .int (m0 : Int), .str so, .str sg])) R (.lst [.ref r0]) R = some (.lst [.ref r0]) := upd_same
    have er0 : upd (upd H7 r0 (.lst [.ref T, .str "folder", .int (m0 : Int), .str so, .str sg])) R (.lst [.ref r0]) r0 = some (.lst (rowI T ([], ⟨true, m0, so, sg⟩))) := up_new hR _ _ upd_same
    have R0 : H R = none := by
      cases z : H R with
      | none => rfl
      | some o =>
        exfalso
        by_cases hRp : R = pn
        · obtain ⟨L, zs, a, g, h1, _⟩ := p7
          rw [← hRp] at h1
          rw [up_new hr0 _ _ h1] at hR; cases hR
        · rw [up_new hr0 _ _ (k07 _ _ z (by simpa using hRp))] at hR; cases hR
    have np7 : ∀ {a : Addr} {xs : List V}, H4 a = some (.lst xs) → a ≠ pn → a ≠ R := fun {a xs} e na z => by
      have := up_new (o := .lst [.ref T, .str "folder", .int (m0 : Int), .str so, .str sg]) hr0 _ _ (k47 _ _ e (by simpa using na))
      rw [z, hR] at this; cases this
    have D0 : DSt H (upd (upd H7 r0 (.lst [.ref T, .str "folder", .int (m0 : Int), .str so, .str sg])) R (.lst [.ref r0])) pn M O G R (n + 4) [([], ⟨true, m0, so, sg⟩)] :=
      ⟨k07.trans (Kp.of_same gR), p7.grow gR, gR _ _ (k47 _ _ eM4 (by simpa using Mp)), gR _ _ (k47 _ _ eO4 (by simpa using Op)), gR _ _ (k47 _ _ eG4 (by simpa using Gp)), Mp, Op, Gp, np7 eM4 Mp, np7 eO4 Op, np7 eG4 Gp, R0, [.ref r0], eR, .cons ⟨r0, T, rfl, er0, gR _ _ eT7⟩ .nil⟩
    generalize upd (upd H7 r0 (.lst [.ref T, .str "folder", .int (m0 : Int), .str so, .str sg])) R (.lst [.ref r0]) = H8 at D0
    have L0 : DOk 0 [(([] : List Str), (⟨true, m0, so, sg⟩ : Dat))] := dok0 rfl d0ok
    refine ⟨_, rfl, _, rfl, pn, 9, n + 4, rfl, by decide, by decide, D0.pen, by omega, fun cnt H9 hcnt k9 p9 => ?_⟩
    have D9 := D0.draw k9 p9
    refine ⟨(cnt : Int), rfl, by omega, by omega, ?_⟩
    rw [Int.toNat_natCast]
    refine for_it (walk_range (lo := 0) (n := cnt)) (fun i σ' H' => σ'.take 6 = [some (.ref pn), some (.int 9), some (.ref M), some (.ref O), some (.ref G), some (.ref R)] ∧ σ'.length = 15 ∧ ∃ l, DOk i l ∧ DSt H H' pn M O G R (n + 5 + 8 * i) l) ⟨rfl, rfl, _, L0, D9⟩ (fun _ _ _ _ _ => trivial) ?_ ?_
    · rintro i x σ' Ha Hb hi ⟨t6, l15, l, Lo, Da⟩ ⟨rfl, rfl⟩
      have s0 : (σ'.set 6 (some (V.int (0 + (i : Int)))))[0]? = some (some (.ref pn)) := by
        rw [List.getElem?_set_ne (by decide)]; have := congrArg (·[0]?) t6; simpa using this
      refine ⟨_, s0, pn, 3, n + 5 + 8 * i, rfl, by decide, by decide, Da.pen, by omega, fun way H1 hway k1 p1 => ?_⟩
      have D1 := Da.draw k1 p1
      refine ⟨_, s0, 10, 6, rfl, rfl, ⟨by decide, by decide, by decide⟩, pn, 1000000, n + 5 + 8 * i + 1, rfl, by decide, by decide, p1, by omega, fun spot H2 hspot k2 p2 => ⟨_, _, rfl, ?_⟩⟩
      have D2 := D1.draw k2 p2
      generalize hσb : ((σ'.set 6 (some (V.int (0 + (i : Int))))).set 7 (some (V.int (way : Int)))).set 8 (some (V.int (spot : Int))) = σb
      have b6 : σb.take 6 = [some (.ref pn), some (.int 9), some (.ref M), some (.ref O), some (.ref G), some (.ref R)] := by
        rw [← hσb, take_set_ge (by decide), take_set_ge (by decide), take_set_ge (by decide)]
        exact t6
      have b15 : σb.length = 15 := by rw [← hσb]; simp [l15]
      have b7 : σb[7]? = some (some (V.int (way : Int))) := by rw [← hσb, List.getElem?_set_ne (by decide), List.getElem?_set_self (by simp [l15])]
      have b8 : σb[8]? = some (some (V.int (spot : Int))) := by rw [← hσb, List.getElem?_set_self (by simp [l15])]
      have at6 : ∀ {τ : L2.St}, τ.take 6 = [some (.ref pn), some (.int 9), some (.ref M), some (.ref O), some (.ref G), some (.ref R)] → τ[0]? = some (some (.ref pn)) ∧ τ[2]? = some (some (.ref M)) ∧ τ[3]? = some (some (.ref O)) ∧ τ[4]? = some (some (.ref G)) ∧ τ[5]? = some (some (.ref R)) := fun {τ} e => by
        refine ⟨?_, ?_, ?_, ?_, ?_⟩
        · have := congrArg (·[0]?) e; simpa using this
        · have := congrArg (·[2]?) e; simpa using this
        · have := congrArg (·[3]?) e; simpa using this
        · have := congrArg (·[4]?) e; simpa using this
        · have := congrArg (·[5]?) e; simpa using this
      obtain ⟨xs, eR2, pr2⟩ := id D2.rows
      have hlen : l.length ≤ 100 := by have := Lo.cnt; omega
      refine ⟨_, (at6 b6).2.2.2.2, R, rfl, ⟨_, SqL.of eR2⟩, fun Df hDf => lc_rows eR2 pr2 hDf hlen (fun r => r.2.dir) ?_ ?_⟩
      · intro a tq r H3 Kt Kf hr1 g3 ha ht kt kf
        have w9 : 9 < (wipe σb (List.map (fun x => x.snd) [(("_law_row" : Str), 9)])).length := by rw [wipe_length, b15]; decide
        refine ⟨?_, _, List.getElem?_set_self w9, a, _, 1, .str (formOf r.2), rfl, rfl, .of ha, rfl, rfl, r.2.dir, congrArg V.bl (form_dir r.2), ?_⟩
        · exact wipe_one
        · cases hd : r.2.dir with
          | true => exact iteT ⟨_, List.getElem?_set_self w9, kt hd⟩
          | false => exact iteF (kf hd)
      intro H3 g3 hF
      have D3 := D2.grow g3
      obtain ⟨vsF, eF, prF⟩ := id hF
      have hneF : vsF ≠ [] := fun z => by
        subst z
        have : (l.filter fun r => r.2.dir) = [] := List.length_eq_zero_iff.mp (paired_len prF).symm
        obtain ⟨d, hd, hm⟩ := Lo.root
        have hm2 : ([], d) ∈ l.filter fun r => r.2.dir := List.mem_filter.mpr ⟨hm, hd⟩
        rw [this] at hm2
        cases hm2
      have c7 : (σb.set 10 (some (V.ref Df)))[7]? = some (some (V.int (way : Int))) := by rw [List.getElem?_set_ne (by decide)]; exact b7
      have c8 : (σb.set 10 (some (V.ref Df)))[8]? = some (some (V.int (spot : Int))) := by rw [List.getElem?_set_ne (by decide)]; exact b8
      have c10 : (σb.set 10 (some (V.ref Df)))[10]? = some (some (V.ref Df)) := List.getElem?_set_self (by omega)
      refine ⟨way, spot, Df, vsF, c7, c8, c10, eF, hneF, fun j v hv => ?_⟩
      obtain ⟨ra, hra, a, tq, rfl, ha, htq⟩ := Paired.atP prF hv
      obtain ⟨hral, hrad⟩ := List.mem_filter.mp (List.mem_of_getElem? hra)
      have d6 : ((σb.set 10 (some (V.ref Df))).set 11 (some (V.ref a))).take 6 = [some (.ref pn), some (.int 9), some (.ref M), some (.ref O), some (.ref G), some (.ref R)] := by
        rw [take_set_ge (by decide), take_set_ge (by decide)]; exact b6
      have d11 : ((σb.set 10 (some (V.ref Df))).set 11 (some (V.ref a)))[11]? = some (some (V.ref a)) := List.getElem?_set_self (by rw [List.length_set]; omega)
      have d15 : ((σb.set 10 (some (V.ref Df))).set 11 (some (V.ref a))).length = 15 := by rw [List.length_set, List.length_set]; exact b15
      refine ⟨_, d11, a, _, 0, .ref tq, rfl, rfl, .of ha, rfl, _, (at6 d6).1, _, (at6 d6).2.1, pn, M, menuL.map V.str, _, rfl, D3.m, D3.mp, by decide, by decide, D3.pen, by omega, fun vx H4 hvx k4 p4 => ⟨Nat.le_of_ble_eq_true rfl, fun t1 ht1 => ?_⟩⟩
      obtain ⟨x, hx, rfl⟩ := List.mem_map.mp hvx
      have D4 := D3.draw k4 p4
      have htq4 := (SeqKeep.pen D3.pen k4 tq _).1 htq
      have D4' := D4.grow (up_new (o := .tup [V.str x]) ht1)
      have htq4' := up_new (o := .tup [V.str x]) ht1 _ _ htq4
      have hl1 := Lo.len ra hral
      refine ⟨tq, t1, ra.1.map V.str, [.str x], rfl, rfl, htq4', upd_same, ?_, fun tn H5 g5 en5 => ⟨Nat.le_of_ble_eq_true rfl, fun fl hfl => ?_⟩⟩
      · rw [List.length_map]
        exact Nat.le_trans (show ra.1.length + 1 ≤ 100 by omega) (small_line (by decide))
      have D5 := (D4'.grow g5).grow (up_new (o := .lst [.str "file", .str "folder", .str "folder"]) hfl)
      have en5' := up_new (o := .lst [.str "file", .str "folder", .str "folder"]) hfl _ _ en5
      have efl : upd H5 fl (.lst [.str "file", .str "folder", .str "folder"]) fl = some (.lst [.str "file", .str "folder", .str "folder"]) := upd_same
      generalize upd H5 fl (.lst [.str "file", .str "folder", .str "folder"]) = H5' at D5 en5' efl
      refine ⟨_, (at6 d6).1, pn, 3, _, rfl, by decide, by decide, D5.pen, by omega, fun fr H6 hfr k6 p6 => ?_⟩
      obtain ⟨dr', hdr⟩ := forms3 fr hfr
      have D6 := D5.draw k6 p6
      have flp : fl ≠ pn := pen_lst D5.pen efl (fun ⟨_, _, _, e⟩ => by cases e)
      have en6 := (SeqKeep.pen D5.pen k6 tn _).1 en5'
      refine ⟨fl, _, fr, _, rfl, rfl, .of (k6 _ _ efl (by simpa using flp)), atI_nat hdr, Nat.le_of_ble_eq_true rfl, fun tt htt => ⟨tt, _, rfl, .of upd_same, rfl, _, _, rfl, _, _, rfl, rfl, ?_⟩⟩
      have D7 := D6.grow (up_new (o := .tup [.ref tn, .str (if dr' then "folder" else "file")]) htt)
      have en7 := up_new (o := .tup [.ref tn, .str (if dr' then "folder" else "file")]) htt _ _ en6
      generalize upd H6 tt (.tup [.ref tn, .str (if dr' then "folder" else "file")]) = H7' at D7 en7
      have e6 : ((((σb.set 10 (some (V.ref Df))).set 11 (some (V.ref a))).set 12 (some (V.ref tn))).set 13 (some (V.str (if dr' then "folder" else "file")))).take 6 = [some (.ref pn), some (.int 9), some (.ref M), some (.ref O), some (.ref G), some (.ref R)] := by
        rw [take_set_ge (by decide), take_set_ge (by decide)]; exact d6
      have e15 : ((((σb.set 10 (some (V.ref Df))).set 11 (some (V.ref a))).set 12 (some (V.ref tn))).set 13 (some (V.str (if dr' then "folder" else "file")))).length = 15 := by rw [List.length_set, List.length_set]; exact d15
      have e12 : ((((σb.set 10 (some (V.ref Df))).set 11 (some (V.ref a))).set 12 (some (V.ref tn))).set 13 (some (V.str (if dr' then "folder" else "file"))))[12]? = some (some (V.ref tn)) := by
        rw [List.getElem?_set_ne (by decide), List.getElem?_set_self (by omega)]
      have e13 : ((((σb.set 10 (some (V.ref Df))).set 11 (some (V.ref a))).set 12 (some (V.ref tn))).set 13 (some (V.str (if dr' then "folder" else "file"))))[13]? = some (some (V.str (if dr' then "folder" else "file"))) := List.getElem?_set_self (by rw [List.length_set]; omega)
      refine ⟨_, e12, _, e13, _, (at6 e6).1, pn, _, rfl, D7.pen, by omega, fun m1 H8' hm1 k8 p8 => ?_⟩
      have D8 := D7.draw k8 p8
      have en8 := (SeqKeep.pen D7.pen k8 tn _).1 en7
      refine ⟨_, (at6 e6).1, _, (at6 e6).2.2.1, pn, O, ownL.map V.str, _, rfl, D8.o, D8.op, by decide, by decide, D8.pen, by omega, fun vo1 H9' hvo1 k9' p9' => ?_⟩
      have D9' := D8.draw k9' p9'
      have en9 := (SeqKeep.pen D8.pen k9' tn _).1 en8
      refine ⟨_, (at6 e6).1, _, (at6 e6).2.2.2.1, pn, G, grpL.map V.str, _, rfl, D9'.g, D9'.gp, by decide, by decide, D9'.pen, by omega, fun vg1 H10 hvg1 k10 p10 => ⟨Nat.le_of_ble_eq_true rfl, fun rr hrr => ?_⟩⟩
      obtain ⟨so1, hso1, rfl⟩ := List.mem_map.mp hvo1
      obtain ⟨sg1, hsg1, rfl⟩ := List.mem_map.mp hvg1
      have gr := up_new (o := .lst [.ref tn, .str (if dr' then "folder" else "file"), .int (m1 : Int), .str so1, .str sg1]) hrr
      have D10 := (D9'.draw k10 p10).grow gr
      have en10 := gr _ _ ((SeqKeep.pen D9'.pen k10 tn _).1 en9)
      have err : upd H10 rr (.lst [.ref tn, .str (if dr' then "folder" else "file"), .int (m1 : Int), .str so1, .str sg1]) rr = some (.lst (rowI tn (ra.1 ++ [x], ⟨dr', m1, so1, sg1⟩))) := by
        rw [upd_same]; cases dr' <;> rfl
      have ht10 : upd H10 rr (.lst [.ref tn, .str (if dr' then "folder" else "file"), .int (m1 : Int), .str so1, .str sg1]) tn = some (.tup ((ra.1 ++ [x]).map V.str)) := by rw [List.map_append]; exact en10
      generalize upd H10 rr (.lst [.ref tn, .str (if dr' then "folder" else "file"), .int (m1 : Int), .str so1, .str sg1]) = Hz at D10 err ht10
      have dok : DatOk (⟨dr', m1, so1, sg1⟩ : Dat) := ⟨hm1, nm_all so1 (by simp [hso1]), nm_all sg1 (by simp [hsg1])⟩
      generalize hσe : (((σb.set 10 (some (V.ref Df))).set 11 (some (V.ref a))).set 12 (some (V.ref tn))).set 13 (some (V.str (if dr' then "folder" else "file"))) = σe at e6 e15 e12 e13
      have f6 : (σe.set 9 (some (V.ref rr))).take 6 = [some (.ref pn), some (.int 9), some (.ref M), some (.ref O), some (.ref G), some (.ref R)] := by rw [take_set_ge (by decide)]; exact e6
      have f15 : (σe.set 9 (some (V.ref rr))).length = 15 := by rw [List.length_set]; exact e15
      have f12 : (σe.set 9 (some (V.ref rr)))[12]? = some (some (V.ref tn)) := by rw [List.getElem?_set_ne (by decide)]; exact e12
      have f9 : (σe.set 9 (some (V.ref rr)))[9]? = some (some (V.ref rr)) := List.getElem?_set_self (by omega)
      subst hσe
      obtain ⟨xz, eRz, prz⟩ := id D10.rows
      have Lw := Lo.rw (by omega)
      have nmx : ∀ y ∈ ra.1 ++ [x], NmOk y := fun y hy => by
        rcases List.mem_append.mp hy with z | z
        · exact (Lw ra hral).1 y z
        · rw [List.mem_singleton.mp z]; exact nm_all x (by simp [hx])
      refine ⟨_, (at6 f6).2.2.2.2, R, rfl, ⟨_, SqL.of eRz⟩, fun Dc hDc => lc_rows eRz prz hDc hlen (fun r => decide (r.1 = ra.1 ++ [x])) ?_ ?_⟩
      · intro a' tq' r H3' Kt Kf hr1 g3' ha' ht' kt kf
        have w14 : 14 < (wipe ((((((σb.set 10 (some (V.ref Df))).set 11 (some (V.ref a))).set 12 (some (V.ref tn))).set 13 (some (V.str (if dr' then "folder" else "file"))))).set 9 (some (V.ref rr))) (List.map (fun x => x.snd) [(("_law_one" : Str), 14)])).length := by rw [wipe_length, f15]; decide
        have g12 : ((wipe ((((((σb.set 10 (some (V.ref Df))).set 11 (some (V.ref a))).set 12 (some (V.ref tn))).set 13 (some (V.str (if dr' then "folder" else "file"))))).set 9 (some (V.ref rr))) (List.map (fun x => x.snd) [(("_law_one" : Str), 14)])).set 14 (some (V.ref a')))[12]? = some (some (V.ref tn)) := by
          rw [List.getElem?_set_ne (by decide), wipe_out (by decide)]; exact f12
        refine ⟨wipe_one, _, List.getElem?_set_self w14, a', _, 0, .ref tq', rfl, rfl, .of ha', rfl, _, g12, .tuple (r.1.map .str), .tuple ((ra.1 ++ [x]).map .str), .tup (.of ht') (dp_strs _), .tup (.of (g3' _ _ ht10)) (dp_strs _), shaped_strs (Lw r hr1).1, shaped_strs nmx, decide (r.1 = ra.1 ++ [x]), congrArg V.bl (eqv_strs _ _), ?_⟩
        by_cases hc : r.1 = ra.1 ++ [x]
        · rw [decide_eq_true hc]
          exact iteT ⟨_, List.getElem?_set_self w14, kt (decide_eq_true hc)⟩
        · rw [decide_eq_false hc]
          exact iteF (kf (decide_eq_false hc))
      intro Hy gy hFy
      obtain ⟨ys, eDc, pry⟩ := id hFy
      refine ⟨Nat.zero_le _, fun z hz => ?_⟩
      have gz := up_new (o := .lst []) hz
      have Dy := (D10.grow gy).grow gz
      refine ⟨.list ((l.filter fun r => decide (r.1 = ra.1 ++ [x])).map encR), .list [], .lst (.of (gz _ _ eDc)) (dp_rows (L2.Paired.mapP pry fun v r y => y.keep (.grow gz))), .lst (.of upd_same) .nil, shaped_rows fun r hr' => Lw r (List.mem_filter.mp hr').1, shaped_rows (l := []) (fun r hr' => by cases hr'), (l.filter fun r => decide (r.1 = ra.1 ++ [x])).isEmpty, congrArg V.bl (eqv_nil _), ?_⟩
      cases hem : (l.filter fun r => decide (r.1 = ra.1 ++ [x])).isEmpty with
      | false => exact iteF ⟨f6, f15, l, Lo.mono (by omega), Dy.mono (by omega)⟩
      | true =>
        have hno : ra.1 ++ [x] ∉ l.map (·.1) := fun hm => by
          obtain ⟨r, h1, h2⟩ := List.mem_map.mp hm
          have h3 : r ∈ l.filter fun r => decide (r.1 = ra.1 ++ [x]) := List.mem_filter.mpr ⟨h1, decide_eq_true h2⟩
          rw [List.isEmpty_iff.mp hem] at h3
          cases h3
        obtain ⟨xw, eRw, prw⟩ := id Dy.rows
        have errw := gz _ _ (gy _ _ err)
        have htw := gz _ _ (gy _ _ ht10)
        have hlw := paired_len prw
        have Rp : R ≠ pn := pen_lst Dy.pen eRw (refs_np prw)
        have rrR : rr ≠ R := fun y => by rw [y, eRw] at errw; injection errw with errw; injection errw with errw; exact rowI_no (refs_all prw) errw.symm
        refine iteT ⟨_, (at6 f6).2.2.2.2, .inl ⟨rfl, _, SqL.of eRw⟩, _, f9, R, xw, .ref rr, rfl, rfl, eRw, ?_, f6, f15, l ++ [(ra.1 ++ [x], ⟨dr', m1, so1, sg1⟩)], Lo.add (d' := ra.2) hral hrad hx dok hno, ?_⟩
        · rw [hlw]
          exact Nat.lt_of_lt_of_le (show l.length < 101 by omega) (small_line (by decide))
        · have gq : ∀ b o, b ≠ R → upd Hy z (.lst []) b = some o → upd (upd Hy z (.lst [])) R (.lst (xw ++ [.ref rr])) b = some o := fun b o nb y => by rw [upd_ne nb]; exact y
          have pw : PenAt (upd (upd Hy z (.lst [])) R (.lst (xw ++ [.ref rr]))) pn (n + 5 + 8 * (i + 1)) := by
            obtain ⟨L, zs, a1, g1', h1, h2, h3, h4, h5⟩ := Dy.pen
            refine ⟨L, zs, a1, g1', gq _ _ (Ne.symm Rp) h1, gq _ _ (fun y => ?_) h2, h3, by omega, h5⟩
            rw [y, eRw] at h2
            cases prw with
            | nil => have := Lo.root; obtain ⟨_, _, hm⟩ := this; cases hm
            | cons h t =>
              obtain ⟨_, _, rfl, _⟩ := h
              match zs, h2 with
              | z0 :: zr, h2 => cases h2
          refine ⟨fun b o y nb => gq b o (fun e => by rw [e, Dy.r0] at y; cases y) (Dy.kp b o y nb), pw, gq _ _ Dy.mr Dy.m, gq _ _ Dy.or Dy.o, gq _ _ Dy.gr Dy.g, Dy.mp, Dy.op, Dy.gp, Dy.mr, Dy.or, Dy.gr, Dy.r0, xw ++ [.ref rr], upd_same, ?_⟩
          have tnR : tn ≠ R := fun y => by rw [y, eRw] at htw; cases htw
          refine paired_snoc ⟨rr, tn, rfl, gq _ _ rrR errw, gq _ _ tnR htw⟩ (L2.Paired.mapP prw fun v r y => row_upd (refs_all prw) eRw y)
    · rintro σ' Ha ⟨t6, l15, l, Lo, Da⟩
      have s5 : σ'[5]? = some (some (.ref R)) := by have := congrArg (·[5]?) t6; simpa using this
      obtain ⟨vs, eR', pr⟩ := id Da.rows
      have Lo8 := Lo.mono (m := 8) (by omega)
      have hc := Lo8.cnt
      refine ⟨_, s5, Rw, R, vs, l, encR, RowAt Ha, rfl, .of eR', pr, fun v r hv => ?_, allalike_rows l, sortable_rows l, by omega, fun r _ => depth_row r, fun vs' S pr' hS => ?_⟩
      · obtain ⟨a, tp, rfl, h1, h2⟩ := hv
        exact .lst (.of h1) (.cons (.tup (.of h2) (dp_strs _)) (.cons (.str _) (.cons (.int _) (.cons (.str _) (.cons (.str _) .nil)))))
      · have gS := up_new (o := .lst vs') hS
        have Ds := Da.grow gS
        refine q _ S _ _ Ds.kp (Ds.pen.mono (by omega)) ⟨vs', upd_same, L2.Paired.mapP pr' fun v r z => z.keep (.grow gS)⟩ (up_ok Lo8) (sorted_ok Lo8) fun x hx => ?_
        show [x] ∈ l.map (·.1) ++ extL.map fun x => [x]
        exact List.mem_append_right _ (List.mem_map.mpr ⟨x, hx, rfl⟩)
end
end K18
namespace K18
open PySem PySem.Spec PyProof.Rows L2 NdefX StX LamX
/-! ### defs that ask for a stack without guards -/
structure FnOkG (P : Program) (w : World) (K : PySem.W.Frag) (mg : Str → Option Value) (base : Heap) (CX : CXT) (k : Nat) (f : Addr) (fd : FuncData) (ps : List Str) (sp : Sp) : Prop where
  len : ∀ vs H Q E, sp vs H Q E → vs.length = ps.length
  run : ∀ (A : Around) (outer : List Env) (s : Shared) (H : Hp) (args : Args) (us : List Value) (vs : List V) (Q : VK) (E : XK), Room k A → A.guards = some [] → Env0 P w K mg base A outer s H → BindsTo s fd args (ps.zip us) → Vals vs us → sp vs H Q E →
    codeAny (model P w) A (.call (.ref f) args) (CR CX outer P w H s Q E) s
structure CaG (P : Program) (w : World) (K : PySem.W.Frag) (mg : Str → Option Value) (base : Heap) (CX : CXT) (k : Nat) (x : Str) (sp : Sp) : Prop where
  ex : ∃ (f : Addr) (fd : FuncData) (ps : List Str), FnOkG P w K mg base CX k f fd ps sp ∧ mg x = some (.ref f) ∧ PySem.W.keepIn K (.ref f) = true ∧ Binds K fd ps []
/-- a def of the module whose code object stands at cd -/
def DnC (K : PySem.W.Frag) (mg : Str → Option Value) (x : Str) (st : Stmt) (cd : Addr) : Prop := ∃ (f : Addr) (oc : Value) (od : Option Addr) (kV doc pm : Value) (an : Option Addr) (ct : Value) (osl : Array (Option Value)),
  K.lookup f = some ⟨oc, od, .func (PySem.W.fnOf x x (defArgs st) (defBody st) (defScope st) .none kV doc pm an (.ref cd) ct), osl⟩ ∧ PySem.W.codeIn K (.ref cd) x = true ∧ PySem.W.keepIn K (.ref f) = true ∧ mg x = some (.ref f)
section
variable {P : Program} {w : World} {K : PySem.W.Frag} {mg : Str → Option Value} {base : Heap} {CX : CXT}
theorem DnC.dn {x : Str} {st : Stmt} {cd : Addr} (h : DnC K mg x st cd) : Dn K mg x st := by
  obtain ⟨f, oc, od, kV, doc, pm, an, ct, osl, h1, h2, h3, h4⟩ := h
  exact ⟨f, _, fun_mk h1 h2 h3, h4⟩
theorem ca_okG {x : Str} {st : Stmt} {N ps : List Str} {k : Nat} {sp : Sp} {cd : Addr} (D : DnC K mg x st cd) (S : FnScope N ps (defScope st)) (hb : BindsOf x x st ps) (len : ∀ vs H Q E, sp vs H Q E → vs.length = ps.length)
    (hbody : ∀ (f : Addr) (A : Around) (outer : List Env) (s : Shared) (H : Hp) (vs : List V) (Q : VK) (E : XK), Room k (A.deeper (envOfC x (defScope st) s.heap.objs.size f (.ref cd))) → A.guards = some [] → sp vs H Q E →
      ∃ t, PSs (cxOf CX P w K mg base N x (defScope st) f (.ref cd) A outer s H E) (defBody st) t ∧ t { nx := fun _ H' => Q .non H', rt := Q } (start N vs) H) : CaG P w K mg base CX (k + 1) x sp := by
  obtain ⟨f, oc, od, kV, doc, pm, an, ct, osl, h1, h2, h3, h4⟩ := D
  refine ⟨f, _, ps, ⟨len, fun A outer s H args us vs Q E hr hg e0 hbd r hsp => ?_⟩, h4, h3, .all (hb kV doc pm an (.ref cd) ct)⟩
  exact run_ofS h1 h2 S hr e0 hbd r (len _ _ _ _ hsp) fun hr' => hbody f A outer s H vs Q E hr' hg hsp
/-- a def that is never called -/
theorem ca_neverG {x : Str} {st : Stmt} {ps : List Str} {k : Nat} {cd : Addr} {sp : Sp} (D : DnC K mg x st cd) (hb : BindsOf x x st ps) (no : ∀ vs H Q E, ¬ sp vs H Q E) : CaG P w K mg base CX k x sp := by
  obtain ⟨f, oc, od, kV, doc, pm, an, ct, osl, h1, h2, h3, h4⟩ := D
  exact ⟨f, _, ps, ⟨fun _ _ _ _ h => (no _ _ _ _ h).elim, fun _ _ _ _ _ _ _ _ _ _ _ _ _ _ h => (no _ _ _ _ h).elim⟩, h4, h3, .all (hb kV doc pm an (.ref cd) ct)⟩
theorem CaG.mono {k j : Nat} {x : Str} {sp : Sp} (c : CaG P w K mg base CX k x sp) (h : k ≤ j) : CaG P w K mg base CX j x sp := by
  obtain ⟨f, fd, ps, F, h1, h2, h3⟩ := c.ex
  exact ⟨f, fd, ps, ⟨F.len, fun A outer s H args us vs Q E hr => F.run A outer s H args us vs Q E (hr.mono h)⟩, h1, h2, h3⟩
end
theorem pe_caG {X : Cx} {CX : CXT} {k j : Nat} {x : Str} {sp : Sp} {E : XK} {p pos : Pos} {e : Expr} {es : List Expr} {t : TA} (c : CaG X.prog X.w X.K X.mg X.base CX k x sp) (hG : X.A.guards = some []) (hr : Room j X.A) (hk : k ≤ j) (hx : Passes CX X E) (hg : Gl X x) (ha : PA X (e :: es) t)
    (hdb : (x == ("__debug__" : Str)) = false := by decide) (he : starEach (e :: es) X.env = (false, eval e X.env) :: starEach es X.env := by rfl) (hpl : (backTo pos (starEach es X.env)).any (·.1) = false := by rfl) :
    PE X (.Call (.Name x p) (e :: es) [] pos) (tCa sp E t) := by
  obtain ⟨f, fd, ps, F, hm, kp, b⟩ := c.ex
  refine ⟨fun pins s σ H Q I h => wpAny_Call_Name_kw (ld_glob I hg hm (PySem.W.callWith_K (h₀ := X.base) I.ok.mod.kin kp (thn (ha.run pos pins s σ H _ I h) fun us s1 ⟨vs, H1, I1, r, q⟩ => ⟨I1.kIn, ?_⟩) he hpl) hdb)⟩
  have hl : us.length = ps.length := r.length ▸ F.len _ _ _ _ q
  have hbt : BindsTo s1 fd ⟨us, []⟩ (ps.zip us) := by
    have z := b s1 us I1.kIn (by rw [List.append_nil]; exact hl)
    rw [List.append_nil] at z
    exact z
  refine wpAny_call (codeAny_mono (F.run X.A X.stack s1 H1 ⟨us, []⟩ us vs Q E (hr.mono hk) hG I1.env0 hbt r q) fun r s' hq => ?_)
  match r, hq with
  | .error e, hq => exact hx pins σ H1 s1 e s' I1 hq
  | .ok (.ret u), hq => exact I1.after hq
  | .ok .next, hq => exact hq.elim
  | .ok .brk, hq => exact hq.elim
  | .ok .cont, hq => exact hq.elim
end K18
namespace K18
open PySem PySem.Spec PyProof.Rows L2 NdefX StX LamX
/-! ### clauses with and without a name -/
/-- a clause: its class, the slot of its name, what its suite reads -/
abbrev Hd := Value × Option Nat × (Addr → Value → Option Addr → TS)
def dropN (i : Nat) (D : Ends) : Ends := { nx := fun σ H => D.nx (σ.set i none) H, rt := D.rt, bk := fun σ H => D.bk (σ.set i none) H, ct := fun σ H => D.ct (σ.set i none) H }
def sHd (D : Ends) (a : Addr) (cls : Value) (d : Option Addr) (σ : L2.St) (H : Hp) : Hd → Prop
  | (_, none, ts) => ts a cls d D σ H
  | (_, some i, ts) => ts a cls d (dropN i D) (σ.set i (some (.ref a))) H
def wHds (K : PySem.W.Frag) (Wout : WX) (D : Ends) : List Hd → WX
  | [] => Wout
  | h :: r => fun cls d σ H => ∃ b, PySem.W.exmOne K cls h.1 = some b ∧ (b = true → ∀ a, H a = none → sHd D a cls d σ H h) ∧ (b = false → wHds K Wout D r cls d σ H)
def SuOk (X : Cx) (ss : List Stmt) (ts : Addr → Value → Option Addr → TS) : Prop := ∀ (a : Addr) (oe : Obj) (cls : Value) (d : Option Addr) (pn : List (Addr × Obj)), Zc cls d oe → (∃ vs, oe.data = .fields vs) → PSs (X.suite a ((a, oe) :: pn)) ss (ts a cls d)
inductive HdsA (X : Cx) : List ExceptHandler → List Hd → Prop
  | nil : HdsA X [] []
  | plain {x : Str} {c : Value} {ts : Addr → Value → Option Addr → TS} {b₀ : Stmt} {suite : List Stmt} {np pos' : Pos} {hds : List ExceptHandler} {l : List Hd} (hc : Names X x c) (hsu : SuOk X (b₀ :: suite) ts) (r : HdsA X hds l) :
      HdsA X (.ExceptHandler (some (.Name x np)) none (b₀ :: suite) pos' :: hds) ((c, none, ts) :: l)
  | named {x n : Str} {i : Nat} {c : Value} {ts : Addr → Value → Option Addr → TS} {b₀ : Stmt} {suite : List Stmt} {np pos' : Pos} {hds : List ExceptHandler} {l : List Hd} (hN : X.N.Nodup) (hi : X.N[i]? = some n) (hl : X.env.kindOf n = some .local) (hc : Names X x c) (hsu : SuOk X (b₀ :: suite) ts) (r : HdsA X hds l) :
      HdsA X (.ExceptHandler (some (.Name x np)) (some n) (b₀ :: suite) pos' :: hds) ((c, some i, ts) :: l)
section
variable {X : Cx} {body : List Stmt} {h₀ : ExceptHandler} {hds : List ExceptHandler} {l : List Hd} {pos : Pos} {tb : WX → TS} {Wout : WX}
theorem ps_tryA (hs : X.stack = X.env :: X.outer) (hf : X.env.frame = some X.env.locals) (tk : Takes X Wout)
    (hb : ∀ (W : WX) (pn : List (Addr × Obj)) (xe : Value → Shared → Prop), Takes (X.tr pn xe) W → PassesOwn (model X.prog X.w) X.A X.env xe → PSs (X.tr pn xe) body (tb W))
    (hh : HdsA X (h₀ :: hds) l) : PS X (.Try body (h₀ :: hds) [] [] pos) (fun D σ H => tb (wHds X.K Wout D l) D σ H) := by
  refine ⟨fun pins s σ H D I h => ?_⟩
  have ok := I.ok
  have hfr : X.A.frames = some (X.env :: X.outer) := by rw [ok.frames, hs]
  let xe1 : Value → Shared → Prop := fun e s₁ => wpAny (model X.prog X.w) X.A (noteFrame e X.env) (fun _ s₂ => wpAny (model X.prog X.w) X.A (setFlight e none) (fun _ s₃ => wpAny (model X.prog X.w) X.A (handleBy e X.env (h₀ :: hds)) (SP X pins D) X.xe s₃) X.xe s₂) X.xe s₁
  have tk1 : Takes (X.tr (X.pn ++ pins) xe1) (wHds X.K Wout D l) := fun u s' xx => by
    obtain ⟨a, B, sI, pins', σ', H', cls, d, rfl, J', nb, up, sky, na, os, ag, w⟩ := xx
    have J : L2.Inv X pins σ' H' sI := J'.ofTry ok
    have sky' : Sky B (X.env :: X.outer) a (Zc cls d) X.env.locals s'.heap := hs ▸ sky
    show wpAny (model X.prog X.w) X.A (noteFrame (.ref a) X.env) _ _ _
    refine Sky.land Zc.steady hfr hf sky' fun h3 fl3 up3 => ?_
    have J3 : L2.Inv X pins σ' H' { s' with heap := h3 } := J.landed nb fl3.1 (up.trans up3) os ag
    obtain ⟨oe3, vs3, he3, hz3, hd3⟩ := fl3.there
    have nfr : a ∉ frs (X.env :: X.outer) := fun hm => by
      obtain ⟨_, o', e', hnf⟩ := fl3.2.2.1.mem hm
      rw [he3] at e'
      cases e'
      exact hnf _ hd3
    have nL : a ≠ X.env.locals := fun z => nfr (List.mem_filterMap.mpr ⟨X.env, List.mem_cons_self, by rw [hf, z]⟩)
    have nF : a ∉ X.fs := fun hm => by
      obtain ⟨e, he, q⟩ := List.mem_filterMap.mp hm
      exact nfr (List.mem_filterMap.mpr ⟨e, List.mem_cons_of_mem _ he, q⟩)
    have S3 := J3.suite he3 hd3 na nL nF
    have LT : PySem.W.Looks (model X.prog X.w) h3 (typeOf (.ref a)) cls := fun A Q E s k q => wpAny_typeOf_ref (k _ _ he3) (hz3.1.symm ▸ q)
    have test : ∀ {x : Str} {c : Value} {np : Pos} {Q : Value → Shared → Prop} {E : Value → Shared → Prop}, Names X x c → Q c { s' with heap := h3 } → wpAny (model X.prog X.w) (X.A.mark (some (.ref a))) (eval (.Name x np) X.env) Q E { s' with heap := h3 } := fun {x c np Q E} hc q => by
      obtain ⟨hg, hdbg, hm | ⟨hm, hv, hnn⟩⟩ := hc
      · exact ld_glob (X := X.suite a ((a, oe3) :: (X.pn ++ pins))) S3 hg hm q hdbg
      · exact ld_blt (X := X.suite a ((a, oe3) :: (X.pn ++ pins))) S3 hg hm hv q hnn hdbg
    have go : ∀ {hds' : List ExceptHandler} {l' : List Hd}, HdsA X hds' l' → wHds X.K Wout D l' cls d σ' H' → wpAny (model X.prog X.w) X.A (handleBy (.ref a) X.env hds') (SP X pins D) X.xe { s' with heap := h3 } := by
      intro hds' l' hk
      induction hk with
      | nil =>
        intro w
        refine wpAny_handleBy_nil ?_
        obtain ⟨k1, k2, k3, oe, vs, T, oT, ts', he, hz, hd, h1, hr⟩ := id fl3
        have fin : wpAny (model X.prog X.w) X.A (setFlight (.ref a) X.env.frame) (fun _ s4 => wpAny (model X.prog X.w) X.A (throw (.ref a) : Sem Flow) (SP X pins D) X.xe s4) X.xe { s' with heap := h3 } := by
          rw [hf]
          exact HandSPX.setFlight_upZ fl3 fun h4 hh4 up4 => wpAny_throw (tk _ _ ⟨a, B, sI, pins, σ', H', cls, d, rfl, J, nb, (up.trans up3).trans up4, .inr (.inr (by rw [hs]; exact hh4)), na, os, ag, w⟩)
        unfold PySem.passOn
        refine wpAny_bind (wpAny_field he hd h1 ?_)
        rw [if_neg (by simp : ¬ ((Value.ref T == Value.none) = true))]
        first
          | exact wpAny_bind (wpAny_pure (wpAny_bind fin))
          | exact wpAny_bind fin
      | plain hc hsu r ih =>
        intro w
        obtain ⟨b, hb1, hyes, hno⟩ := w
        refine wpAny_handleBy_cons (codeAny_handlers_test (test hc ((PySem.W.exm_one (M := model X.prog X.w) J3.kIn LT hb1).here ?_))) (fun q => nomatch q)
        cases b with
        | false => exact ih (hno rfl)
        | true =>
          refine codeAny_handlers_suite (HandSPX.lands_againZ fl3 fun h4 fl4 up4 => ?_)
          have J4 : L2.Inv X pins σ' H' { s' with heap := h4 } := J.landed nb fl4.1 ((up.trans up3).trans up4) os ag
          obtain ⟨oe4, vs4, he4, hz4, hd4⟩ := fl4.there
          have S4 := J4.suite he4 hd4 na nL nF
          refine wpAny_mono ((hsu a oe4 cls d (X.pn ++ pins) hz4 ⟨_, hd4⟩).run [] _ _ H' _ S4 (hyes rfl a na)) (fun f s6 hsp => ?_) (fun _ _ z => z.elim)
          match f, hsp with
          | .next, ⟨σ6, H6, S6, q6⟩ => exact ⟨_, _, S6.unsuite ok, q6⟩
          | .brk, ⟨σ6, H6, S6, q6⟩ => exact ⟨_, _, S6.unsuite ok, q6⟩
          | .cont, ⟨σ6, H6, S6, q6⟩ => exact ⟨_, _, S6.unsuite ok, q6⟩
          | .ret u, ⟨v6, σ6, H6, S6, r6, q6⟩ => exact ⟨_, _, _, S6.unsuite ok, r6, q6⟩
      | @named x n i c ts b₀ suite np pos' hds2 l2 hN hi hl hc hsu r ih =>
        intro w
        obtain ⟨b, hb1, hyes, hno⟩ := w
        refine wpAny_handleBy_cons (codeAny_handlers_test (test hc ((PySem.W.exm_one (M := model X.prog X.w) J3.kIn LT hb1).here ?_))) (fun q => nomatch q)
        cases b with
        | false => exact ih (hno rfl)
        | true =>
          refine codeAny_handlers_suite_as (HandSPX.lands_againZ fl3 fun h4 fl4 up4 => ?_)
          have J4 : L2.Inv X pins σ' H' { s' with heap := h4 } := J.landed nb fl4.1 ((up.trans up3).trans up4) os ag
          obtain ⟨oe4, vs4, he4, hz4, hd4⟩ := fl4.there
          have S4 := J4.suite he4 hd4 na nL nF
          refine store_ok (X := X.suite a ((a, oe4) :: (X.pn ++ pins))) (v := .ref a) S4 hN hi (.inl hl) rfl (fun s5 S5 => ?_) (.inr hl)
          refine wpAny_mono ((hsu a oe4 cls d (X.pn ++ pins) hz4 ⟨_, hd4⟩).run [] s5 _ H' _ S5 (hyes rfl a na)) (fun f s6 hsp => ?_) (fun _ _ z => z.elim)
          match f, hsp with
          | .next, ⟨σ6, H6, S6, q6⟩ => exact gone_ok (S6.unsuite ok) hN hi hl fun s7 J7 => ⟨_, _, J7, q6⟩
          | .brk, ⟨σ6, H6, S6, q6⟩ => exact gone_ok (S6.unsuite ok) hN hi hl fun s7 J7 => ⟨_, _, J7, q6⟩
          | .cont, ⟨σ6, H6, S6, q6⟩ => exact gone_ok (S6.unsuite ok) hN hi hl fun s7 J7 => ⟨_, _, J7, q6⟩
          | .ret u, ⟨v6, σ6, H6, S6, r6, q6⟩ => exact gone_ok (S6.unsuite ok) hN hi hl fun s7 J7 => ⟨_, _, _, J7, r6, q6⟩
    exact go hh w
  refine wpAny_Try_except (wpAny_mono ((hb (wHds X.K Wout D l) (X.pn ++ pins) xe1 tk1 PassesOwn.looking).run [] s σ H D (I.toTry _) h) (fun f s1 hsp => ?_) (fun e s1 he => he))
  match f, hsp with
  | .next, ⟨σ', H', J', q⟩ => exact wpAny_execs_nil ⟨σ', H', J'.ofTry ok, q⟩
  | .brk, ⟨σ', H', J', q⟩ => exact ⟨σ', H', J'.ofTry ok, q⟩
  | .cont, ⟨σ', H', J', q⟩ => exact ⟨σ', H', J'.ofTry ok, q⟩
  | .ret u, ⟨v, σ', H', J', r, q⟩ => exact ⟨v, σ', H', J'.ofTry ok, r, q⟩
end
/-! ### isinstance(e, its very class) -/
def rIsX (cls : Value) (D a : Addr) : List V → Hp → VK → Prop := fun xs H Q => cls = .ref D ∧ xs = [.ref a, .ref D] ∧ Q (.bl true) H
theorem call_isX {X : Cx} {a D : Addr} {d : Option Addr} {oe : Obj} {pn : List (Addr × Obj)} {cls : Value} (hz : Zc cls d oe) : CallR (X.suite a ((a, oe) :: pn)) (.builtin "isinstance") (rIsX cls D a) := by
  intro pins s σ H xs us Q I r h
  obtain ⟨rfl, rfl, q⟩ := h
  obtain ⟨u1, u2, rfl⟩ : ∃ u1 u2, us = [u1, u2] := by
    have := r.length
    match us, this with
    | [u1, u2], _ => exact ⟨u1, u2, rfl⟩
  cases r with
  | cons rx rr =>
    cases rr with
    | cons rt rr =>
      obtain rfl : u1 = Value.ref a := rx
      obtain rfl : u2 = Value.ref D := rt
      have hget : s.heap.get? a = some oe := (I.pin (a, oe) (List.mem_append.mpr (.inl List.mem_cons_self))).1
      refine PyProof.Rows.call_isinstance_of ?_ (fun z => nomatch z)
      unfold Builtin.«isinstance.nested»
      refine wpAny_bind (wpAny_typeOf_ref hget ?_)
      rw [hz.1, if_pos (by simp)]
      have fin : ∃ (w' : V) (H' : Hp), L2.Inv (X.suite a ((a, oe) :: pn)) pins σ H' s ∧ RelV w' (Value.bool true) ∧ Q w' H' := ⟨.bl true, H, I, rfl, q⟩
      first
        | exact wpAny_bind (wpAny_rule fin)
        | exact wpAny_bind (wpAny_rule (wpAny_pure fin))
        | exact wpAny_bind (wpAny_rule (wpAny_bind (wpAny_pure fin)))
end K18
namespace K18
open PySem PySem.Spec PyProof.Rows L2 NdefX StX LamX
/-! ### what the law's functions stand on -/
structure LSt (c : Ad) (T : List (Addr × Str)) (H : Hp) (pn t b : Addr) (n : Nat) (k : Nd) (F : List Addr) (R : Addr) (l : List Rw) : Prop where
  pen : PenAt H pn n
  tree : TreeAt c H t k F
  box : ∃ dp : Int, H b = some (.dK [(.inr "rows", .ref R), (.inr "right", .bl true), (.inr "depth", .int dp)])
  rows : RowsL H R l
  tabs : Tabs T H
  bF : b ∉ F
/-- what a step may touch -/
def Ch (t pn b : Addr) (F : List Addr) (H H' : Hp) : Prop := ∀ a o, H a = some o → a ≠ t → a ≠ pn → a ≠ b → a ∉ F → (∀ ps, o ≠ .tbl ps) → H' a = some o
def NewIn (F : List Addr) (H : Hp) (F' : List Addr) : Prop := ∀ a ∈ F', a ∈ F ∨ ∀ o, H a = some o → ∃ ps, o = .tbl ps
theorem NewIn.refl (F : List Addr) (H : Hp) : NewIn F H F := fun _ h => .inl h
theorem NewIn.of {F F' : List Addr} {H : Hp} (h : ∀ a ∈ F', a ∈ F ∨ H a = none) : NewIn F H F' := fun a ha => (h a ha).imp id fun e o z => by rw [e] at z; cases z
theorem Ch.refl (t pn b : Addr) (F : List Addr) (H : Hp) : Ch t pn b F H H := fun _ _ h _ _ _ _ _ => h
theorem Ch.of_grow {t pn b : Addr} {F : List Addr} {H H' : Hp} (g : Grow H H') : Ch t pn b F H H' := fun a o h _ _ _ _ _ => g a o h
theorem Ch.of_pen {t pn b : Addr} {F : List Addr} {H H' : Hp} (k : Kp [pn] H H') : Ch t pn b F H H' := fun a o h _ n _ _ _ => k a o h (by simpa using n)
theorem Ch.of_tree {t pn b : Addr} {F : List Addr} {H H' : Hp} (k : KpT t F H H') : Ch t pn b F H H' := fun a o h n _ _ m _ => k a o h m n
theorem Ch.of_box {t pn b : Addr} {F : List Addr} {H : Hp} {o : HO} : Ch t pn b F H (upd H b o) := fun a u h _ _ n _ _ => by rw [upd_ne n]; exact h
theorem Ch.trans {t pn b : Addr} {F F1 : List Addr} {H H1 H2 : Hp} (x : Ch t pn b F H H1) (fr : NewIn F H F1) (y : Ch t pn b F1 H1 H2) : Ch t pn b F H H2 := fun a o h h1 h2 h3 h4 h5 =>
  y a o (x a o h h1 h2 h3 h4 h5) h1 h2 h3 (fun z => (fr a z).elim h4 fun e => by obtain ⟨ps, z⟩ := e o h; exact h5 ps z) h5
theorem Tabs.of {T : List (Addr × Str)} {H H' : Hp} (t : Tabs T H) (k : ∀ a o, H a = some o → ((∃ ps, o = .tbl ps) ∨ ∃ φ, o = .ext φ) → H' a = some o) : Tabs T H' := fun p hp => by
  obtain ⟨ps, h1, h2, h3⟩ := t p hp
  exact ⟨ps, k _ _ h1 (.inl ⟨_, rfl⟩), h2, fun pos cv hc => let ⟨c, e1, e2⟩ := h3 pos cv hc; ⟨c, e1, k _ _ e2 (.inr ⟨_, rfl⟩)⟩⟩
theorem TreeAt.ins {c : Ad} {H : Hp} {t : Addr} {k : Nd} {F : List Addr} (h : TreeAt c H t k F) : ∃ dx v, H t = some (.ins c.T dx [("top", v)]) := by
  obtain ⟨dx, top, e, _⟩ := h
  exact ⟨dx, _, e⟩
theorem TreeAt.kinds {c : Ad} {H : Hp} {t : Addr} {k : Nd} {F : List Addr} (h : TreeAt c H t k F) : ∀ b ∈ F, KiO H b := by
  obtain ⟨dx, top, e, hn, _, _⟩ := h
  exact hn.kinds
theorem PenAt.lst {H : Hp} {pn : Addr} {n : Nat} (h : PenAt H pn n) : ∃ xs, H pn = some (.lst xs) := by
  obtain ⟨L, zs, a, g, h1, _⟩ := h
  exact ⟨_, h1⟩
section
variable {c : Ad} {T : List (Addr × Str)} {H H' : Hp} {pn t b : Addr} {n : Nat} {k : Nd} {F : List Addr} {R : Addr} {l : List Rw}
theorem LSt.tp (S : LSt c T H pn t b n k F R l) : t ≠ pn := fun z => by
  obtain ⟨xs, e⟩ := S.pen.lst
  obtain ⟨dx, v, e2⟩ := S.tree.ins
  rw [z, e] at e2; cases e2
theorem LSt.tb (S : LSt c T H pn t b n k F R l) : t ≠ b := fun z => by
  obtain ⟨dp, e⟩ := S.box
  obtain ⟨dx, v, e2⟩ := S.tree.ins
  rw [z, e] at e2; cases e2
theorem LSt.bp (S : LSt c T H pn t b n k F R l) : b ≠ pn := fun z => by
  obtain ⟨dp, e⟩ := S.box
  obtain ⟨xs, e2⟩ := S.pen.lst
  rw [z, e2] at e; cases e
theorem LSt.pF (S : LSt c T H pn t b n k F R l) : pn ∉ F := fun z => by
  obtain ⟨xs, e2⟩ := S.pen.lst
  exact (S.tree.kinds _ z).lst e2
theorem LSt.seqAt (S : LSt c T H pn t b n k F R l) {a : Addr} {o : HO} (e : H a = some o) (ho : (∃ xs, o = .lst xs) ∨ (∃ xs, o = .tup xs) ∨ ∃ φ, o = .ext φ) : a ≠ t ∧ a ≠ b ∧ a ∉ F ∧ ∀ ps, o ≠ .tbl ps := by
  refine ⟨fun z => ?_, fun z => ?_, fun z => ?_, fun ps z => ?_⟩
  · obtain ⟨dx, v, e2⟩ := S.tree.ins
    rw [z, e2] at e
    rcases ho with ⟨_, y⟩ | ⟨_, y⟩ | ⟨_, y⟩ <;> rw [y] at e <;> cases e
  · obtain ⟨dp, e2⟩ := S.box
    rw [z, e2] at e
    rcases ho with ⟨_, y⟩ | ⟨_, y⟩ | ⟨_, y⟩ <;> rw [y] at e <;> cases e
  · have ki := S.tree.kinds a z
    rcases ho with ⟨_, y⟩ | ⟨_, y⟩ | ⟨_, y⟩ <;> rw [y] at e
    · exact ki.lst e
    · exact ki.tup e
    · exact ki.ext e
  · rcases ho with ⟨_, y⟩ | ⟨_, y⟩ | ⟨_, y⟩ <;> rw [y] at z <;> cases z
theorem LSt.seq (S : LSt c T H pn t b n k F R l) (h : Ch t pn b F H H') : SeqKeep H H' := fun a xs => by
  refine ⟨fun e => ?_, fun e np => ?_⟩
  · obtain ⟨h1, h2, h3, h4⟩ := S.seqAt e (.inr (.inl ⟨_, rfl⟩))
    exact h a _ e h1 (fun z => by obtain ⟨xs, e2⟩ := S.pen.lst; rw [z, e2] at e; cases e) h2 h3 h4
  · obtain ⟨h1, h2, h3, h4⟩ := S.seqAt e (.inl ⟨_, rfl⟩)
    exact h a _ e h1 (pen_lst S.pen e np) h2 h3 h4
/-- a step -/
theorem LSt.step {n' : Nat} {k' : Nd} {F' : List Addr} (S : LSt c T H pn t b n k F R l) (h : Ch t pn b F H H') (fr : NewIn F H F') (pen' : PenAt H' pn n') (tree' : TreeAt c H' t k' F') (box' : H' b = H b) (tabs' : Tabs T H') : LSt c T H' pn t b n' k' F' R l where
  pen := pen'
  tree := tree'
  box := let ⟨dp, e⟩ := S.box; ⟨dp, by rw [box', e]⟩
  rows := S.rows.keep (S.seq h)
  tabs := tabs'
  bF := fun z => (fr b z).elim S.bF fun e => by
    obtain ⟨dp, e2⟩ := S.box
    obtain ⟨ps, z⟩ := e _ e2
    cases z
theorem LSt.grow (S : LSt c T H pn t b n k F R l) (g : Grow H H') : LSt c T H' pn t b n k F R l :=
  S.step (.of_grow g) (.refl _ _) (S.pen.grow g) (S.tree.grow g) (by obtain ⟨dp, e⟩ := S.box; rw [e, g _ _ e]) (S.tabs.ext g)
theorem LSt.draw {m : Nat} (S : LSt c T H pn t b n k F R l) (h : Kp [pn] H H') (p : PenAt H' pn m) : LSt c T H' pn t b m k F R l := by
  refine S.step (.of_pen h) (.refl _ _) p (S.tree.keep fun a ha o e => h a o e ?_) ?_ (Tabs.of S.tabs fun a o e ho => h a o e ?_)
  · rcases List.mem_cons.mp ha with z | z
    · rw [z]; simpa using S.tp
    · simp; exact fun y => S.pF (y ▸ z)
  · obtain ⟨dp, e⟩ := S.box
    rw [e, h _ _ e (by simpa using S.bp)]
  · obtain ⟨xs, e2⟩ := S.pen.lst
    simp
    rintro rfl
    rw [e2] at e
    rcases ho with ⟨_, y⟩ | ⟨_, y⟩ <;> rw [y] at e <;> cases e
theorem LSt.mono {m : Nat} (S : LSt c T H pn t b n k F R l) (h : n ≤ m) : LSt c T H pn t b m k F R l := { S with pen := S.pen.mono h }
theorem LSt.tabsCh (S : LSt c T H pn t b n k F R l) (h : KpT t F H H') : Tabs T H' := by
  refine Tabs.of S.tabs fun a o e ho => h a o e (fun z => ?_) (fun z => ?_)
  · have ki := S.tree.kinds a z
    rcases ho with ⟨_, y⟩ | ⟨_, y⟩ <;> rw [y] at e
    · exact ki.tbl e
    · exact ki.ext e
  · obtain ⟨dx, v, e2⟩ := S.tree.ins
    rw [z, e2] at e
    rcases ho with ⟨_, y⟩ | ⟨_, y⟩ <;> rw [y] at e <;> cases e
/-- the tree has changed -/
theorem LSt.turn {k' : Nd} {F' : List Addr} (S : LSt c T H pn t b n k F R l) (h : KpT t F H H') (tree' : TreeAt c H' t k' F') (fr : NewIn F H F') : LSt c T H' pn t b n k' F' R l := by
  refine S.step (.of_tree h) fr ?_ tree' ?_ (S.tabsCh h)
  · obtain ⟨L, zs, a, g, h1, h2, h3, h4, h5⟩ := id S.pen
    have q2 := S.seqAt h2 (.inl ⟨_, rfl⟩)
    exact ⟨L, zs, a, g, h _ _ h1 S.pF (Ne.symm S.tp), h _ _ h2 q2.2.2.1 q2.1, h3, h4, h5⟩
  · obtain ⟨dp, e⟩ := S.box
    rw [e, h _ _ e S.bF (Ne.symm S.tb)]
/-- the box has other rows -/
theorem LSt.put {R' : Addr} {l' : List Rw} {kvs : List (Key × V)} {dp : Int} (S : LSt c T H pn t b n k F R l) (hR : RowsL H R' l') (hk : kvs = [(.inr "rows", .ref R'), (.inr "right", .bl true), (.inr "depth", .int dp)]) : LSt c T (upd H b (.dK kvs)) pn t b n k F R' l' := by
  subst hk
  have sq : SeqKeep H (upd H b (.dK [(.inr "rows", .ref R'), (.inr "right", .bl true), (.inr "depth", .int dp)])) := S.seq .of_box
  refine ⟨?_, S.tree.keep fun a ha o e => ?_, ⟨dp, upd_same⟩, hR.keep sq, Tabs.of S.tabs fun a o e ho => ?_, S.bF⟩
  · obtain ⟨L, zs, a, g, h1, h2, h3, h4, h5⟩ := id S.pen
    have q2 := S.seqAt h2 (.inl ⟨_, rfl⟩)
    exact ⟨L, zs, a, g, by rw [upd_ne (Ne.symm S.bp)]; exact h1, by rw [upd_ne q2.2.1]; exact h2, h3, h4, h5⟩
  · rw [upd_ne]
    · exact e
    · rcases List.mem_cons.mp ha with z | z
      · rw [z]; exact S.tb
      · exact fun y => S.bF (y ▸ z)
  · rw [upd_ne]
    · exact e
    · rintro rfl
      obtain ⟨dp, e2⟩ := S.box
      rw [e2] at e
      rcases ho with ⟨_, y⟩ | ⟨_, y⟩ <;> rw [y] at e <;> cases e
theorem LSt.newT {n' : Nat} {k' : Nd} {F1 F2 : List Addr} {R' : Addr} {l' : List Rw} {H1 : Hp} (S : LSt c T H1 pn t b n' k' F1 R' l') (x : Ch t pn b F H H1) (fr : NewIn F H F1) (y : NewIn F1 H1 F2) : NewIn F H F2 := fun a ha => by
  by_cases hF : a ∈ F
  · exact .inl hF
  rcases y a ha with z | z
  · exact fr a z
  refine .inr fun o e => ?_
  by_cases ht : ∃ ps, o = .tbl ps
  · exact ht
  exfalso
  have nt : ∀ ps, o ≠ .tbl ps := fun ps e2 => ht ⟨ps, e2⟩
  by_cases h1 : a = t
  · obtain ⟨dx, v, e2⟩ := S.tree.ins
    obtain ⟨ps, q⟩ := z _ (h1 ▸ e2)
    cases q
  by_cases h2 : a = pn
  · obtain ⟨xs, e2⟩ := S.pen.lst
    obtain ⟨ps, q⟩ := z _ (h2 ▸ e2)
    cases q
  by_cases h3 : a = b
  · obtain ⟨dp, e2⟩ := S.box
    obtain ⟨ps, q⟩ := z _ (h3 ▸ e2)
    cases q
  exact ht (z _ (x a o e h1 h2 h3 hF nt))
end
end K18
namespace K18
open PySem PySem.Spec PyProof.Rows L2 NdefX StX LamX
section
variable {P : Program} {w : World} {K : PySem.W.Frag} {mg : Str → Option Value} {base : Heap} {c : Ad}
abbrev NOD : List Str := ["_law_pen_here", "_law_held", "_law_box", "_law_way", "_law_rows", "_law_names", "_law_bits", "_law_fresh", "_law_one"]
theorem sc_od : FnScope NOD ["_law_pen_here", "_law_held", "_law_box", "_law_way"] (defScope s_law_one_deed) := ⟨rfl, rfl, rfl, by decide +kernel, rfl, by decide +kernel, by decide +kernel⟩
def spOD (c : Ad) (T : List (Addr × Str)) : Sp := fun vs H Q _ => ∃ (pn t b : Addr) (way n : Nat) (Up : List (List Str)) (k : Nd) (F : List Addr) (R : Addr), vs = [.ref pn, .ref t, .ref b, .int (way : Int)] ∧ way ≤ 5 ∧ UpOk Up ∧ (∀ x ∈ extL, [x] ∈ Up) ∧ LSt c T H pn t b n k F R (rowsOf k) ∧ TOk Up k ∧ n ≤ 80000 ∧
  ∀ (H' : Hp) (k' : Nd) (F' : List Addr) (R' : Addr), LSt c T H' pn t b (n + 4) k' F' R' (rowsOf k') → TOk Up k' → Ch t pn b F H H' → NewIn F H F' → Q .non H'
theorem lc_rowsM {K : PySem.W.Frag} {σ : L2.St} {vs : List Nat} {D R : Addr} {H1 : Hp} {xs : List V} {l : List Rw} {g : TG} {tt : TT} {te : TE} {Qd : Hp → Prop} (hR : H1 R = some (.lst xs)) (pr : Paired (RowAt H1) xs l) (hD : H1 D = none) (hlen : l.length ≤ 100) (f : Rw → Rw)
    (step : ∀ (a tq : Addr) (r : Rw) (H3 : Hp) (Kt : VK) (Kf : Hp → Prop), r ∈ l → Grow H1 H3 → H3 a = some (.lst (rowI tq r)) → H3 tq = some (.tup (r.1.map V.str)) → (∀ y H4, Grow H3 H4 → RowAt H4 y (f r) → Kt y H4) →
      g (.ref a) (wipe σ vs) H3 fun σ2 H2 => wipe σ2 vs = wipe σ vs ∧ tt σ2 H2 fun b H4 => if b = true then te σ2 H4 Kt else Kf H4)
    (fin : ∀ H', Grow H1 H' → RowsL H' D (l.map f) → Qd H') :
    ∃ W : Nat → Nat → Hp → Prop, (∃ m, W 0 m (upd H1 D (.lst []))) ∧ ∀ i m H, W i m H →
      ((Itl K R).stop i H ∧ Qd H) ∨ ((Itl K R).go i H ∧ ∃ Nx : Hp → Prop, (∀ H', Nx H' → ∃ m', m' < m ∧ W (i + 1) m' H') ∧ ∀ x H', (Itl K R).yld i H x H' → g x (wipe σ vs) H' fun σ2 H2 => wipe σ2 vs = wipe σ vs ∧ tt σ2 H2 fun b H3 =>
        if b = true then te σ2 H3 fun y H4 => ∃ acc, H4 D = some (.lst acc) ∧ acc.length < sizeLine ∧ Nx (upd H4 D (.lst (acc ++ [y]))) else Nx H3) := by
  have hll := paired_len pr
  refine lc_it (walk_list (K := K) (a := R) (xs := xs)) (fun i H2 => Grow H1 H2 ∧ ∃ acc, H2 D = some (.lst acc) ∧ acc.length ≤ i ∧ Paired (RowAt H2) acc ((l.take i).map f)) ⟨up_new hD, [], upd_same, Nat.le_refl _, .nil⟩ (fun _ _ _ z => SqL.of (z.1 _ _ hR)) ?_ ?_
  · rintro i x H2 H3 hi ⟨g2, acc, e2, la, p2⟩ ⟨rfl, hx⟩
    obtain ⟨r, hr1, ⟨a, tq, rfl, ha, ht⟩⟩ := Paired.atP pr hx
    have htk : l.take (i + 1) = l.take i ++ [r] := by rw [List.take_add_one, hr1]; rfl
    refine step a tq r H3 _ _ (List.mem_of_getElem? hr1) g2 (g2 _ _ ha) (g2 _ _ ht) fun y H4 g4 hy => ?_
    have p4 : Paired (RowAt H4) acc ((l.take i).map f) := L2.Paired.mapP p2 fun v r z => z.keep (.grow g4)
    refine ⟨acc, g4 _ _ e2, Nat.lt_of_le_of_lt la (Nat.lt_of_lt_of_le (show i < 101 by omega) (small_line (by decide))), fun b o z => ?_, acc ++ [y], upd_same, by simp; omega, ?_⟩
    · rw [upd_ne (ne_of_none z hD)]; exact g4 _ _ (g2 _ _ z)
    · rw [htk, List.map_append]
      exact paired_snoc (row_upd (refs_all p4) (g4 _ _ e2) hy) (L2.Paired.mapP p4 fun v r z => row_upd (refs_all p4) (g4 _ _ e2) z)
  · rintro H2 ⟨g2, acc, e2, la, p2⟩
    rw [hll, List.take_length] at p2
    exact fin H2 g2 ⟨acc, e2, p2⟩
/-- a node by its path, one step up -/
theorem find_up {k k' : Nd} {q : List Str} {x : Str} (h : findP k (q ++ [x]) = some k') : ∃ k0, findP k q = some k0 ∧ k0.2.getN x = some k' := by
  rw [findP_append] at h
  obtain ⟨k0, h1, h2⟩ := Option.bind_eq_some_iff.mp h
  refine ⟨k0, h1, ?_⟩
  have h3 : (match k0.2.getN x with | some k' => findP k' [] | none => none) = some k' := h2
  cases hg : k0.2.getN x with
  | none => rw [hg] at h3; cases h3
  | some k1 => rw [hg] at h3; exact h3
theorem rowsOk {Up : List (List Str)} {k : Nd} (U : UpOk Up) (t : TOk Up k) : (∀ r ∈ rowsOf k, RwOk r) ∧ (rowsOf k).length ≤ 12 := by
  obtain ⟨sz, dp⟩ := t.size U
  refine ⟨fun r hr => ?_, by rw [rowsOf_len]; omega⟩
  obtain ⟨p, d⟩ := r
  have hd := (mem_rowsOf t.ok.2.2).mp hr
  obtain ⟨k0, hf, rfl⟩ := TOk.find (Up := Up) hd
  have hl := findP_len t.ok hf
  exact ⟨fun n hn => (U.nm p (t.sub _ _ hd) n hn).1, by show p.length ≤ 50; omega, (find_ok t.ok hf).1.1⟩
theorem if_mode {K0 : PySem.W.Frag} {σ : L2.St} {H : Hp} {p : Prop} [Decidable p] {bits m : Nat} {a : Addr} {xs : List V} {Kc : VK} (h6 : σ[6]? = some (some (.int (bits : Int)))) (h8 : σ[8]? = some (some (.ref a))) (ha : H a = some (.lst xs)) (hx : atI xs 2 = some (.int (m : Int))) (hk : Kc (.int ((if p then bits else m : Nat) : Int)) H) :
    if decide p = true then tVar 6 σ H Kc else tOp (rIxL K0) (tVar 8) (tC (.int 2)) σ H Kc := by
  by_cases hp : p
  · rw [decide_eq_true hp]
    rw [if_pos hp] at hk
    exact iteT ⟨_, h6, hk⟩
  · rw [decide_eq_false hp]
    rw [if_neg hp] at hk
    exact iteF ⟨_, h8, a, xs, 2, _, rfl, rfl, .of ha, hx, hk⟩
theorem sorted_is {l m : List Rw} (nd : (l.map (·.1)).Nodup) (hm : RSort m) (h : ∀ r, r ∈ l ↔ r ∈ m) : l.mergeSort (PySem.W.dataLe false encR) = m :=
  rsort_perm (sort_rows nd) hm fun r => ((List.mergeSort_perm l _).mem_iff).trans (h r)
theorem modeR_eq (q : List Str) (n : Nat) (r : Rw) : modeR q n r = (r.1, { r.2 with mode := if r.1 = q then n else r.2.mode }) := by
  unfold modeR
  by_cases h : r.1 = q
  · rw [if_pos h, if_pos h]
  · rw [if_neg h, if_neg h]
/-- box["rows"] = sorted(..) -/
theorem sort_put {K : PySem.W.Frag} {T : List (Addr × Str)} {c : Ad} {H : Hp} {pn t b R Df : Addr} {n : Nat} {k : Nd} {F : List Addr} {l0 lf : List Rw} {σ : L2.St} {N : L2.St → Hp → Prop} (S : LSt c T H pn t b n k F R l0) (hD : RowsL H Df lf) (nd : (lf.map (·.1)).Nodup) (hlen : lf.length ≤ 1000)
    (w : k.2.Wf) (hm : ∀ r, r ∈ lf ↔ r ∈ rowsOf k) (h2 : σ[2]? = some (some (.ref b))) (q : ∀ H' R', LSt c T H' pn t b n k F R' (rowsOf k) → Ch t pn b F H H' → N σ H') :
    rSortD K [.ref Df] H fun v H1 => tVar 2 σ H1 fun x H2 => tC (.str "rows") σ H2 fun y H3 => ∃ a H4, x = .ref a ∧ DPut H3 a y v H4 ∧ N σ H4 := by
  obtain ⟨vs, eD, pr⟩ := id hD
  refine ⟨Rw, Df, vs, lf, encR, RowAt H, rfl, .of eD, pr, fun v r hv => dp_row hv, allalike_rows lf, sortable_rows lf, hlen, fun r _ => depth_row r, fun vs' Sx prS hS => ?_⟩
  rw [sorted_is nd (rowsOf_sort w) hm] at prS
  have gS := up_new (o := .lst vs') hS
  have S1 := S.grow gS
  obtain ⟨dp, eb⟩ := S1.box
  have hR : RowsL (upd H Sx (.lst vs')) Sx (rowsOf k) := ⟨vs', upd_same, L2.Paired.mapP prS fun v r z => z.keep (.grow gS)⟩
  exact ⟨_, h2, b, _, rfl, .inl ⟨_, .inr "rows", eb, rfl, Nat.lt_of_lt_of_le (show 3 < 4 by decide) (small_line (by decide)), rfl⟩, q _ Sx (S1.put (dp := dp) hR rfl) ((Ch.of_grow gS).trans (.refl _ _) .of_box)⟩
def tMkF (c : Ad) : TE := fun σ H Q => ∃ n : Nat, n ≤ 511 ∧ σ[6]? = some (some (.int (n : Int))) ∧ ∀ e' F' H', Grow H H' → NodeAt c H' e' ⟨false, n, "ann", "ops"⟩ .nil F' → F'.Nodup → (∀ b ∈ F', H b = none) → Q (.ref e') H'
theorem dat_ao {n : Nat} (h : n ≤ 511) : DatOk (⟨false, n, "ann", "ops"⟩ : Dat) := ⟨h, nm_all "ann" (by simp [annL]), nm_all "ops" (by simp [annL])⟩
theorem ca_od {T : List (Addr × Str)} (B : Bt mg) (Z : Cs K mg c) (L : Lv P w K mg base c) (nsq : PySem.W.noSeq K c.T = true) (pk : Ca P w K mg base CX0 2 "_law_pick" spPick) (dm : Ca P w K mg base CX0 2 "_law_drawn_mode" spMode) (le : Ca P w K mg base CX0 1 "_law_less" spLess)
    (si : Du P w K mg base CX0 6 c.T "__setitem__" (spSetI c)) (pu : Me P w K mg base CX0 30 c.T "put" (spTPut c)) (to : Me P w K mg base CX0 6 c.T "take_out" (spTOut c)) (D : Dn K mg "_law_one_deed" s_law_one_deed) : Ca P w K mg base CX0 31 "_law_one_deed" (spOD c T) := by
  refine ca_ok (k := 30) D sc_od (fun _ _ _ _ _ _ us hl => match us, hl with | [_, _, _, _], _ => rfl) (fun vs H Q E h => ?_) (fun f cdv A outer s H vs Q E hr h => ?_)
  · obtain ⟨pn, t, b, way, n, Up, k, F, R, rfl, _⟩ := h
    rfl
  · obtain ⟨pn, t, b, way, n, Up, k, F, R, rfl, hw, U, hext, S, ok, hn, q⟩ := h
    refine ⟨_, pss_cons (ps_set (i := 4) sc_od.nd rfl (.inl rfl) (pe_dget (hu_of hr) (pv 2) pe_str (fun _ _ => rfl)))
      (pss_cons (ps_asg (pe_tup (pa_cons (pe_ix ix_list (pe_ca pk hr (by decide) pass0 rfl (pa_cons (pv 0) (pa_cons (pv 4) pa_nil))) pe_int (fun _ _ => rfl)) (pa_cons (pe_ca dm hr (by decide) pass0 rfl (pa_cons (pv 0) pa_nil)) pa_nil)))
          (pg_tup rfl (pgs_cons (pg_name (i := 5) sc_od.nd rfl (.inr rfl)) (pgs_cons (pg_name (i := 6) sc_od.nd rfl (.inr rfl)) pgs_nil))))
      (pss_one (ps_if (pt_cmpR op_lt (pv 3) pe_int (nomark _))
        (pss_cons (ps_asg (pv 6) (pg_sub (pv 1) (pe_join pe_str (pv 5)) (set_O si nsq hr (by decide) pass0)))
        (pss_one (ps_dput (hu_of hr) (pv 2) pe_str (pe_callB (cr_sortD hr.units) rfl B.sorted boot_sorted (pa_cons
          (pe_lc (own := [("_law_one", 8)]) (g := gName 8) (tt := tYes) rfl sc_od.nd (pi_list (pv 4)) (blkOk_by (own := [("_law_one", 8)]) (N := NOD) (sc := defScope s_law_one_deed) (by decide +kernel))
            (fun _ _ _ _ _ => pg_name (i := 8) sc_od.nd rfl (Or.inl rfl)) (fun _ _ _ _ _ => pts_nil)
            (fun _ _ _ _ _ => pe_op (r := rCat) op_cat (pe_op (r := rCat) op_cat (pe_slice (r := rSlL K) sl_list (pv 8) po_none (po_some pe_int))
              (pe_lst (pa_cons (pe_ifExp (pt_cmpR (r := rEqD K) (op_eqD hr.units) (pe_ix (r := rIxL K) ix_list (pv 8) pe_int (fun _ _ => rfl)) (pv 5) (nomark _)) (pv 6) (pe_ix (r := rIxL K) ix_list (pv 8) pe_int (fun _ _ => rfl))) pa_nil))) (pe_slice (r := rSlL K) sl_list (pv 8) (po_some pe_int) po_none))) pa_nil)) rfl)))
        (pss_one (ps_if (pt_cmpR op_eq (pv 3) pe_int (nomark _))
          (pss_cons (ps_set (i := 7) sc_od.nd rfl (.inl rfl) (pe_tup (pa_cons (pe_ca pk hr (by decide) pass0 rfl (pa_cons (pv 0) (pa_cons (pe_lst (pa_cons pe_str (pa_cons pe_str (pa_cons pe_str pa_nil)))) pa_nil))) pa_nil)))
          (pss_cons (ps_expr (pe_me pu hr (by decide) pass0 (pv 1) (pa_cons (pe_ix ix_tup (pv 7) pe_int (fun _ _ => rfl)) (pa_cons (pe_imp (u := tMkF c) (pe_ma L.mkF hr (by decide) pass0 rfl (pa_cons (pv 6) (pa_cons pe_str (pa_cons pe_str pa_nil)))) fun σ H Q ⟨n, hn, h6, hq⟩ => ⟨_, h6, mk_file (d := ⟨false, n, "ann", "ops"⟩) rfl (dat_ao hn) hq⟩) pa_nil))))
          (pss_one (ps_dput (hu_of hr) (pv 2) pe_str (pe_callB (cr_sortD hr.units) rfl B.sorted boot_sorted (pa_cons (pe_op op_cat (pe_ca le hr (by decide) pass0 rfl (pa_cons (pv 4) (pa_cons (pv 7) pa_nil))) (pe_lst (pa_cons (pe_lst (pa_cons (pv 7) (pa_cons pe_str (pa_cons (pv 6) (pa_cons pe_str (pa_cons pe_str pa_nil)))))) pa_nil))) pa_nil)) rfl))))
          (pss_one (ps_if (pt_cmpR (op_neD hr.units) (pv 5) (pe_tup pa_nil) (nomark _))
            (pss_cons (ps_expr (pe_me to hr (by decide) pass0 (pv 1) (pa_cons (pe_join pe_str (pv 5)) pa_nil)))
            (pss_one (ps_dput (hu_of hr) (pv 2) pe_str (pe_ca le hr (by decide) pass0 rfl (pa_cons (pv 4) (pa_cons (pv 5) pa_nil))) rfl))) pss_nil))))))), ?_⟩
    obtain ⟨dp, eb⟩ := S.box
    obtain ⟨xs, eR, pr⟩ := id S.rows
    obtain ⟨rok, rlen⟩ := rowsOk U ok
    have hll := paired_len pr
    have Rp : R ≠ pn := pen_lst S.pen eR (refs_np pr)
    have hx1 : 1 ≤ xs.length := by rw [hll, rowsOf_len]; omega
    refine ⟨_, rfl, b, .ref R, rfl, .inl ⟨_, .inr "rows", .inl eb, rfl, rfl⟩, ?_⟩
    refine ⟨_, rfl, _, rfl, pn, R, xs, n, rfl, eR, Rp, hx1, by omega, S.pen, by omega, fun v H1 hv k1 p1 => ?_⟩
    have S1 := S.draw k1 p1
    obtain ⟨i, hi⟩ := List.getElem?_of_mem hv
    obtain ⟨r, hr1, a, tq, rfl, ha, htq⟩ := Paired.atP pr hi
    have hrm := List.mem_of_getElem? hr1
    have sq1 : SeqKeep H H1 := .pen S.pen k1
    refine ⟨a, _, 0, .ref tq, rfl, rfl, .of ((sq1 a _).2 ha rowI_np), rfl, ?_⟩
    refine ⟨_, rfl, pn, n + 1, rfl, S1.pen, by omega, fun bits H2 hbits k2 p2 => ⟨Nat.le_of_ble_eq_true rfl, fun tt htt => ?_⟩⟩
    have S2 := (S1.draw k2 p2).grow (up_new (o := .tup [.ref tq, .int (bits : Int)]) htt)
    have g2 := up_new (o := .tup [.ref tq, .int (bits : Int)]) htt
    have htq2 := g2 _ _ ((SeqKeep.pen S1.pen k2 tq _).1 ((sq1 tq _).1 htq))
    have ch2 : Ch t pn b F H (upd H2 tt (.tup [.ref tq, .int (bits : Int)])) := ((Ch.of_pen k1).trans (.refl _ _) (.of_pen k2)).trans (.refl _ _) (.of_grow g2)
    have ett : upd H2 tt (.tup [.ref tq, .int (bits : Int)]) tt = some (.tup [.ref tq, .int (bits : Int)]) := upd_same
    generalize upd H2 tt (.tup [.ref tq, .int (bits : Int)]) = H3 at S2 htq2 ch2 ett
    refine ⟨tt, _, rfl, .of ett, rfl, ?_⟩
    refine ⟨_, _, rfl, _, _, rfl, rfl, ?_⟩
    obtain ⟨hn1, hn2, hn3⟩ := rok r hrm
    obtain ⟨k0, hf, hk0⟩ := TOk.find (Up := Up) ((mem_rowsOf (r := r.1) (d := r.2) ok.ok.2.2).mp hrm)
    obtain ⟨dx, vt, eT⟩ := S2.tree.ins
    obtain ⟨sz, dpt⟩ := ok.size U
    have fin : ∀ {H' : Hp} {k' : Nd} {F' : List Addr} {R' : Addr} {m : Nat}, LSt c T H' pn t b m k' F' R' (rowsOf k') → m ≤ n + 4 → TOk Up k' → Ch t pn b F H3 H' → NewIn F H3 F' → Q .non H' := fun {H' k' F' R' m} S' hm ok' ch' fr' =>
      q H' k' F' R' (S'.mono hm) ok' (ch2.trans (.refl _ _) ch') (S2.newT ch2 (.refl _ _) fr')
    refine ⟨_, rfl, _, _, rfl, rfl, decide ((way : Int) < 3), rfl, ?_⟩
    by_cases hw3 : (way : Int) < 3
    · rw [decide_eq_true hw3]
      refine iteT ?_
      refine ⟨_, rfl, _, rfl, ⟨_, rfl⟩, _, rfl, slash, tq, r.1, rfl, rfl, .inr (.of htq2), join_small hn1 hn2, t, dx, _, rfl, eT, t, k, k0, F, r.1, bits, rfl, hbits, S2.tree, ok.ok, hn1, by omega, hf, fun H4 F4 k4 T4 fr4 => ?_⟩
      have S4 := S2.turn k4 T4 (.of fr4)
      have ch4 : Ch t pn b F H3 H4 := .of_tree k4
      have htq4 := (S2.seq ch4 tq _).1 htq2
      obtain ⟨ok4, hrows4⟩ := rows_mode ok hbits hf
      obtain ⟨xs4, eR4, pr4⟩ := id S4.rows
      refine ⟨_, rfl, R, rfl, ⟨_, .of eR4⟩, fun Df hDf => lc_rowsM eR4 pr4 hDf (by omega) (modeR r.1 bits) ?_ ?_⟩
      · intro a' tq' r' H5 Kt Kf hr' g5 ha' ht' kt
        have rok' := rok r' hr'
        refine ⟨rfl, _, rfl, 2, rfl, a', _, rfl, .of ha', fun p1 hp1 => ?_⟩
        have u1 := up_new (o := .lst (cutV (rowI tq' r') none (some 2))) hp1
        refine ⟨_, rfl, a', _, 0, .ref tq', rfl, rfl, .of (u1 _ _ ha'), rfl, _, rfl, .tuple (r'.1.map .str), .tuple (r.1.map .str), .tup (.of (u1 _ _ ht')) (dp_strs _), .tup (.of (u1 _ _ (g5 _ _ htq4))) (dp_strs _), shaped_strs rok'.1, shaped_strs hn1, decide (r'.1 = r.1), congrArg V.bl (eqv_strs _ _), ?_⟩
        refine if_mode (m := r'.2.mode) rfl rfl (u1 _ _ ha') rfl ⟨Nat.le_of_ble_eq_true rfl, fun p2 hp2 => ?_⟩
        have u2 := up_new (o := .lst [.int ((if r'.1 = r.1 then bits else r'.2.mode : Nat) : Int)]) hp2
        have a1 := u2 _ _ (show upd H5 p1 (.lst (cutV (rowI tq' r') none (some 2))) p1 = some (.lst (cutV (rowI tq' r') none (some 2))) from upd_same)
        refine ⟨p1, p2, _, _, rfl, rfl, a1, upd_same, Nat.le_of_ble_eq_true rfl, fun p3 hp3 => ?_⟩
        have u3 := up_new (o := .lst (cutV (rowI tq' r') none (some 2) ++ [.int ((if r'.1 = r.1 then bits else r'.2.mode : Nat) : Int)])) hp3
        refine ⟨_, rfl, 3, rfl, a', _, rfl, .of (u3 _ _ (u2 _ _ (u1 _ _ ha'))), fun p4 hp4 => ?_⟩
        have u4 := up_new (o := .lst (cutV (rowI tq' r') (some 3) none)) hp4
        refine ⟨p3, p4, _, _, rfl, rfl, u4 _ _ upd_same, upd_same, Nat.le_of_ble_eq_true rfl, fun p5 hp5 => ?_⟩
        have u5 := up_new (o := .lst ((cutV (rowI tq' r') none (some 2) ++ [.int ((if r'.1 = r.1 then bits else r'.2.mode : Nat) : Int)]) ++ cutV (rowI tq' r') (some 3) none)) hp5
        refine kt (.ref p5) _ (fun b o z => u5 _ _ (u4 _ _ (u3 _ _ (u2 _ _ (u1 _ _ z))))) ⟨p5, tq', rfl, ?_, ?_⟩
        · rw [modeR_eq]
          exact upd_same
        · rw [modeR_path]
          exact u5 _ _ (u4 _ _ (u3 _ _ (u2 _ _ (u1 _ _ ht'))))
      · intro H5 g5 hF
        have hnd : (((rowsOf k).map (modeR r.1 bits)).map (·.1)).Nodup := by
          rw [← hrows4]; exact (rowsOf_sort ok4.ok.2.2).nodup
        refine sort_put (S4.grow g5) hF hnd (by rw [List.length_map]; omega) ok4.ok.2.2 (fun x => by rw [hrows4]) rfl fun H6 R6 S6 ch6 => ?_
        exact fin S6 (by omega) ok4 ((ch4.trans (.of fr4) (.of_grow g5)).trans (.of fr4) ch6) (.of fr4)
    rw [decide_eq_false hw3]
    refine iteF ?_
    refine ⟨_, rfl, rfl, decide (V.int (way : Int) = V.int 3), rfl, ?_⟩
    by_cases hwe : V.int (way : Int) = V.int 3
    · rw [decide_eq_true hwe]
      refine iteT ⟨_, rfl, Nat.le_of_ble_eq_true rfl, fun fl hfl => ?_⟩
      have u4 := up_new (o := .lst [.str "a", .str "zy", .str "m"]) hfl
      have S4 := S2.grow u4
      have efl : upd H3 fl (.lst [.str "a", .str "zy", .str "m"]) fl = some (.lst (extL.map V.str)) := upd_same
      generalize upd H3 fl (.lst [.str "a", .str "zy", .str "m"]) = H4 at u4 S4 efl
      have flp : fl ≠ pn := pen_lst S4.pen efl (strs_np _)
      refine ⟨pn, fl, _, _, rfl, efl, flp, by decide, by decide, S4.pen, by omega, fun vx H5 hvx k5 p5 => ⟨Nat.le_of_ble_eq_true rfl, fun fr hfr => ?_⟩⟩
      obtain ⟨x, hx, rfl⟩ := List.mem_map.mp hvx
      have u6 := up_new (o := .tup [.str x]) hfr
      have S6 := (S4.draw k5 p5).grow u6
      have efr : upd H5 fr (.tup [.str x]) fr = some (.tup [.str x]) := upd_same
      have ch6 : Ch t pn b F H3 (upd H5 fr (.tup [.str x])) := ((Ch.of_grow u4).trans (.refl _ _) (.of_pen k5)).trans (.refl _ _) (.of_grow u6)
      generalize upd H5 fr (.tup [.str x]) = H6 at u6 S6 efr ch6
      obtain ⟨dx6, vt6, eT6⟩ := S6.tree.ins
      refine ⟨_, rfl, t, dx6, _, rfl, eT6, rfl, _, rfl, fr, _, 0, .str x, rfl, rfl, .of efr, rfl, ?_⟩
      have hxm : NmOk x := nm_all x (by simp [hx])
      have dok := dat_ao hbits
      refine ⟨bits, hbits, rfl, fun e1 Fe H7 g7 n7 nd7 fr7 => ?_⟩
      have S7 := S6.grow g7
      have ok1 : Fo.NdOk ((⟨false, bits, "ann", "ops"⟩, .nil) : Nd) := ⟨dok, fun _ => rfl, trivial⟩
      refine ⟨t, e1, k, k, (⟨false, bits, "ann", "ops"⟩, .nil), F, Fe, [], x, congrArg (fun z => [V.ref t, V.str z, V.ref e1]) (pj_one x).symm, S7.tree, ok.ok, by omega, by omega, fun _ z => (by cases z), hxm, Nat.zero_le _, rfl, ok.dir, n7, ok1, rfl, fun H8 F8 k8 T8 fr8 => ?_⟩
      have S8 := S7.turn k8 T8 (.of fr8)
      have nw8 : NewIn F H3 F8 := S7.newT (ch6.trans (.refl _ _) (.of_grow g7)) (.refl _ _) (.of fr8)
      obtain ⟨ok8, m8⟩ := rows_put (q := []) (x := x) (k1 := (⟨false, bits, "ann", "ops"⟩, .nil)) ok rfl ok.dir hxm ok1 rfl (hext x hx)
      have sq8 := S7.seq (.of_tree k8)
      have efr8 := (sq8 fr _).1 (g7 _ _ efr)
      have ch8 : Ch t pn b F H3 H8 := (ch6.trans (.refl _ _) (.of_grow g7)).trans (.refl _ _) (.of_tree k8)
      refine ⟨_, rfl, _, rfl, R, fr, rowsOf k, [x], rfl, S8.rows, efr8, fun r' hr' => ⟨(rok r' hr').1, (rok r' hr').2.1⟩, fun y hy => (by rw [List.mem_singleton.mp hy]; exact hxm), by omega, fun H9 R9 g9 hR9 => ?_⟩
      have S9 := S8.grow g9
      refine ⟨_, rfl, _, rfl, Nat.le_of_ble_eq_true rfl, fun r1 hr1 => ⟨Nat.le_of_ble_eq_true rfl, fun r2 hr2 => ?_⟩⟩
      have u1 := up_new (o := .lst [.ref fr, .str "file", .int (bits : Int), .str "ann", .str "ops"]) hr1
      have u2 := up_new (o := .lst [.ref r1]) hr2
      obtain ⟨ys, eR9, pr9⟩ := id hR9
      have l9 := paired_len pr9
      have l9' : (lessR [x] (rowsOf k)).length ≤ (rowsOf k).length := List.length_filter_le _ _
      refine ⟨R9, r2, ys, [.ref r1], rfl, rfl, u2 _ _ (u1 _ _ eR9), upd_same, Nat.le_trans (show ys.length + 1 ≤ 100 by omega) (small_line (by decide)), fun r3 hr3 => ?_⟩
      have u3 := up_new (o := .lst (ys ++ [.ref r1])) hr3
      have g3 : Grow H9 (upd (upd (upd H9 r1 (.lst [.ref fr, .str "file", .int (bits : Int), .str "ann", .str "ops"])) r2 (.lst [.ref r1])) r3 (.lst (ys ++ [.ref r1]))) := fun a o z => u3 _ _ (u2 _ _ (u1 _ _ z))
      have row1 : RowAt (upd (upd (upd H9 r1 (.lst [.ref fr, .str "file", .int (bits : Int), .str "ann", .str "ops"])) r2 (.lst [.ref r1])) r3 (.lst (ys ++ [.ref r1]))) (.ref r1) ([x], ⟨false, bits, "ann", "ops"⟩) := ⟨r1, fr, rfl, u3 _ _ (u2 _ _ upd_same), g3 _ _ (g9 _ _ efr8)⟩
      have hF : RowsL (upd (upd (upd H9 r1 (.lst [.ref fr, .str "file", .int (bits : Int), .str "ann", .str "ops"])) r2 (.lst [.ref r1])) r3 (.lst (ys ++ [.ref r1]))) r3 (lessR [x] (rowsOf k) ++ [([x], ⟨false, bits, "ann", "ops"⟩)]) := ⟨_, upd_same, paired_snoc row1 (L2.Paired.mapP pr9 fun v r z => z.keep (.grow g3))⟩
      refine sort_put (S9.grow g3) hF ?_ (by rw [List.length_append]; show _ + 1 ≤ 1000; omega) ok8.ok.2.2 (fun r' => ?_) rfl fun Hz Rz Sz chz => ?_
      · rw [List.map_append, List.nodup_append]
        refine ⟨(rsort_less (rowsOf_sort ok.ok.2.2)).nodup, by simp, fun a ha b' hb' => ?_⟩
        rintro rfl
        obtain ⟨r', h1, h2⟩ := List.mem_map.mp ha
        have h3 : a = [x] := by simpa using hb'
        have h4 := (mem_less.mp h1).2
        rw [h2, h3] at h4
        exact h4 rfl
      · rw [m8, List.mem_append, List.mem_singleton]
        exact Iff.rfl
      · exact fin Sz (by omega) ok8 (((ch8.trans nw8 (.of_grow g9)).trans nw8 (.of_grow g3)).trans nw8 chz) nw8
    rw [decide_eq_false hwe]
    refine iteF ⟨_, rfl, Nat.zero_le _, fun em hem => ?_⟩
    have u4 := up_new (o := .tup []) hem
    have S4 := S2.grow u4
    have eem : upd H3 em (.tup []) em = some (.tup []) := upd_same
    generalize upd H3 em (.tup []) = H4 at u4 S4 eem
    have htq4 := u4 _ _ htq2
    refine ⟨.tuple (r.1.map .str), .tuple (([] : List Str).map .str), .tup (.of htq4) (dp_strs _), .tup (.of eem) (dp_strs []), shaped_strs hn1, shaped_strs (fun _ z => (by cases z)), !decide (r.1 = []), by rw [eqv_strs], ?_⟩
    by_cases hr0 : r.1 = []
    · rw [decide_eq_true hr0]
      exact iteF (fin S4 (by omega) ok (.of_grow u4) (.refl _ _))
    rw [decide_eq_false hr0]
    refine iteT ?_
    obtain ⟨qq, x, eqx⟩ := last_split hr0
    obtain ⟨k1, hf1, hg1⟩ := find_up (by rw [← eqx]; exact hf)
    obtain ⟨dx4, vt4, eT4⟩ := S4.tree.ins
    have hql := findP_len ok.ok hf1
    refine ⟨_, rfl, t, dx4, _, rfl, eT4, rfl, ⟨_, rfl⟩, _, rfl, slash, tq, r.1, rfl, rfl, .inr (.of htq4), join_small hn1 hn2, t, k, k1, k0, F, qq, x, ?_, S4.tree, ok.ok, fun n hn => hn1 n (by rw [eqx]; simp [hn]), hn1 x (by rw [eqx]; simp), by omega, hf1, hg1, fun v H5 F5 k5 T5 fr5 => ?_⟩
    · exact congrArg (fun z => [V.ref t, V.str (pj z)]) eqx
    have S5 := S4.turn k5 T5 (.of fr5)
    have nw5 : NewIn F H3 F5 := S4.newT (.of_grow u4) (.refl _ _) (.of fr5)
    obtain ⟨ok5, hrows5⟩ := rows_del (x := x) ok hf1
    have htq5 := (S4.seq (.of_tree k5) tq _).1 htq4
    refine ⟨_, rfl, _, rfl, R, tq, rowsOf k, r.1, rfl, S5.rows, htq5, fun r' hr' => ⟨(rok r' hr').1, (rok r' hr').2.1⟩, hn1, by omega, fun H6 R6 g6 hR6 => ?_⟩
    have S6 := S5.grow g6
    obtain ⟨dp6, eb6⟩ := S6.box
    rw [eqx, ← hrows5] at hR6
    refine ⟨_, rfl, b, _, rfl, .inl ⟨_, .inr "rows", eb6, rfl, Nat.lt_of_lt_of_le (show 3 < 4 by decide) (small_line (by decide)), rfl⟩, ?_⟩
    refine fin (S6.put (dp := dp6) hR6 rfl) (by omega) ok5 ((((Ch.of_grow u4).trans (.refl _ _) (.of_tree k5)).trans nw5 (.of_grow g6)).trans nw5 .of_box) nw5
end
end K18
namespace K18
open PySem PySem.Spec PyProof.Rows L2 NdefX StX LamX
/-- how many numbers an attempt of this depth draws at most -/
def dr (d : Nat) : Nat := 25 * 5 ^ d
section
variable {P : Program} {w : World} {K : PySem.W.Frag} {mg : Str → Option Value} {base : Heap} {c : Ad}
abbrev NDe : List Str := ["_law_pen_here", "_law_held", "_law_box", "_law_deep", "_law_k", "_law_way"]
theorem sc_de : FnScope NDe ["_law_pen_here", "_law_held", "_law_box", "_law_deep"] (defScope s_law_deeds) := ⟨rfl, rfl, rfl, by decide +kernel, rfl, by decide +kernel, by decide +kernel⟩
def spAt (c : Ad) (T : List (Addr × Str)) (d : Nat) : Sp := fun vs H Q _ => ∃ (pn t b : Addr) (n : Nat) (Up : List (List Str)) (k : Nd) (F : List Addr) (R : Addr), vs = [.ref pn, .ref t, .ref b, .int (d : Int)] ∧ UpOk Up ∧ (∀ x ∈ extL, [x] ∈ Up) ∧ LSt c T H pn t b n k F R (rowsOf k) ∧ TOk Up k ∧ n + dr d ≤ 80000 ∧
  ∀ (H' : Hp) (k' : Nd) (F' : List Addr) (R' : Addr), LSt c T H' pn t b (n + dr d) k' F' R' (rowsOf k') → TOk Up k' → Ch t pn b F H H' → NewIn F H F' → Q .non H'
/-- one deeper -/
def spAtP (c : Ad) (T : List (Addr × Str)) (d : Nat) : Sp := fun vs H Q E => ∃ d', d = d' + 1 ∧ spAt c T d' vs H Q E
def spDe (c : Ad) (T : List (Addr × Str)) (d : Nat) : Sp := fun vs H Q E => ∃ (pn t b : Addr) (n : Nat) (Up : List (List Str)) (k : Nd) (F : List Addr) (R : Addr), vs = [.ref pn, .ref t, .ref b, .int (d : Int)] ∧ UpOk Up ∧ (∀ x ∈ extL, [x] ∈ Up) ∧ LSt c T H pn t b n k F R (rowsOf k) ∧ TOk Up k ∧ n + dr d ≤ 80000 ∧
  (∀ (H' : Hp) (k' : Nd) (F' : List Addr) (R' : Addr), LSt c T H' pn t b (n + dr d) k' F' R' (rowsOf k') → TOk Up k' → Ch t pn b F H H' → NewIn F H F' → Q (.int ((rowsOf k').length : Nat)) H') ∧
  (∀ (cls : Value) (dd : Option Addr) (H' : Hp) (k' : Nd) (F' : List Addr) (R' : Addr), cls = .ref c.NE ∨ cls = .type "KeyError" → LSt c T H' pn t b (n + dr d) k' F' R' (rowsOf k') → Ch t pn b F H H' → NewIn F H F' → E cls dd H')
theorem tAnd_at {ta tb : TT} {σ : L2.St} {H : Hp} {b1 b2 : Bool} {Kf : Bool → Hp → Prop} (h1 : ∀ K', K' b1 H → ta σ H K') (h2 : ∀ K', K' b2 H → tb σ H K') (q : Kf (b1 && b2) H) : tAnd ta tb σ H Kf := by
  refine h1 _ ?_
  cases b1 with
  | true => exact h2 _ q
  | false => exact q
theorem eq_at {σ : L2.St} {H : Hp} {i : Nat} {x y : Int} (h : σ[i]? = some (some (.int x))) (K' : Bool → Hp → Prop) (q : K' (decide (x = y)) H) : tTest (tOp rEq (tVar i) (tC (.int y))) σ H K' := by
  refine ⟨_, h, rfl, decide (V.int x = V.int y), rfl, ?_⟩
  have e : decide (V.int x = V.int y) = decide (x = y) := decide_eq_decide.mpr ⟨fun z => V.int.inj z, fun z => congrArg V.int z⟩
  rw [e]
  exact q
theorem zz_find {Up : List (List Str)} {k : Nd} (U : UpOk Up) (ok : TOk Up k) : findP k ["zz", "zz", "zz"] = none := by
  cases h : findP k ["zz", "zz", "zz"] with
  | none => rfl
  | some k' =>
    have hd : datP k ["zz", "zz", "zz"] = some k'.1 := by unfold datP; rw [h]; rfl
    exact absurd rfl (U.nm _ (ok.sub _ _ hd) "zz" (by simp)).2
theorem zz_pj : pj ["zz", "zz", "zz"] = "zz/zz/zz" := by decide +kernel
theorem ca_de {T : List (Addr × Str)} {cd : Addr} {ka d : Nat} (hka : 31 ≤ ka) (B : Bt mg) (nsq : PySem.W.noSeq K c.T = true) (drw : Ca P w K mg base CX0 1 "_law_draw" spDraw) (siX : Du P w K mg base (L2.CX P w) 6 c.T "__setitem__" (spSetIX c)) (od : Ca P w K mg base CX0 31 "_law_one_deed" (spOD c T))
    (at_ : CaG P w K mg base CX0 ka "_law_attempt" (spAtP c T d)) (D : DnC K mg "_law_deeds" s_law_deeds cd) : CaG P w K mg base (L2.CX P w) (ka + 1) "_law_deeds" (spDe c T d) := by
  refine ca_okG (k := ka) D sc_de (fun _ _ _ _ _ _ us hl => match us, hl with | [_, _, _, _], _ => rfl) (fun vs H Q E h => ?_) (fun f A outer s H vs Q E hr hG h => ?_)
  · obtain ⟨pn, t, b, n, Up, k, F, R, rfl, _⟩ := h
    rfl
  · obtain ⟨pn, t, b, n, Up, k, F, R, rfl, U, hext, S, ok, hn, q, qe⟩ := h
    have tk : Takes (cxOf (L2.CX P w) P w K mg base NDe "_law_deeds" (defScope s_law_deeds) f (.ref cd) A outer s H E) (fun cls d _ H => E cls d H) := takes_of rfl rfl rfl rfl
    refine ⟨_, pss_cons (ps_for PassesOwn.leaving rfl (pi_range1 rfl B.range (pa_cons (pe_op op_add pe_int (pe_ca drw hr (by omega) pass0 rfl (pa_cons (pv 0) (pa_cons pe_int pa_nil)))) pa_nil)) (pg_name (i := 4) sc_de.nd rfl (.inl rfl))
        (pss_cons (ps_set (i := 5) sc_de.nd rfl (.inl rfl) (pe_ca drw hr (by omega) pass0 rfl (pa_cons (pv 0) (pa_cons pe_int pa_nil))))
        (pss_one (ps_if (PW.pt (pw_and (pt_cmpR op_eq (pv 5) pe_int (nomark _)) (pw_and1 (pt_cmpR op_gt (pv 3) pe_int (nomark _)))))
          (pss_one (ps_expr (pe_caG at_ (guards_deeper hG) hr (Nat.le_refl _) pass0 rfl (pa_cons (pv 0) (pa_cons (pv 1) (pa_cons (pv 2) (pa_cons (pe_op op_sub (pv 3) pe_int) pa_nil)))))))
          (pss_one (ps_if (pt_cmpR op_eq (pv 5) pe_int (nomark _))
            (pss_one (ps_raise rfl tk (pmk_exc excClass_KeyError ty_KeyError rfl B.keyE boot_KeyError (pa_cons pe_str pa_nil))))
            (pss_one (ps_if (pt_cmpR op_eq (pv 5) pe_int (nomark _))
              (pss_one (ps_asg pe_int (pg_sub (pv 1) pe_str (set_O (E := E) siX nsq hr (by omega) (passes_call tk fun _ _ _ _ z => z)))))
              (pss_one (ps_expr (pe_ca od hr hka pass0 rfl (pa_cons (pv 0) (pa_cons (pv 1) (pa_cons (pv 2) (pa_cons (pv 5) pa_nil)))))))))))))))
      (pss_one (ps_ret (pe_callB call_len_seq rfl B.len boot_len (pa_cons (pe_dget (hu_of hr) (pv 2) pe_str (fun _ _ => rfl)) pa_nil)))), ?_⟩
    have he : 0 < 5 ^ d := Nat.pow_pos (by decide)
    unfold dr at hn q qe
    generalize hE : 5 ^ d = e at he hn q qe
    refine ⟨_, rfl, pn, 4, n, rfl, by decide, by decide, S.pen, by omega, fun r H1 hr4 k1 p1 => ⟨_, _, rfl, rfl, ?_⟩⟩
    have S1 := S.draw k1 p1
    refine ⟨((1 + r : Nat) : Int), congrArg (fun z => [V.int z]) (by omega), by omega, by omega, ?_⟩
    rw [Int.toNat_natCast]
    refine for_it (walk_range (lo := 0) (n := 1 + r)) (fun i σ' H' => σ'.take 4 = [some (.ref pn), some (.ref t), some (.ref b), some (.int (d : Int))] ∧ σ'.length = 6 ∧ ∃ (k' : Nd) (F' : List Addr) (R' : Addr), LSt c T H' pn t b (n + 1 + 6 * e * i) k' F' R' (rowsOf k') ∧ TOk Up k' ∧ Ch t pn b F H H' ∧ NewIn F H F')
      ⟨rfl, rfl, k, F, R, S1, ok, .of_pen k1, .refl _ _⟩ (fun _ _ _ _ _ => trivial) ?_ ?_
    · rintro i x σ' Ha Hb hi ⟨t4, l6, k', F', R', Sa, oka, cha, nwa⟩ ⟨rfl, rfl⟩
      have hb : n + 1 + 6 * e * i + 6 * e ≤ n + 25 * e := by
        have : 6 * e * i ≤ 6 * e * 3 := Nat.mul_le_mul_left _ (by omega)
        omega
      have hb2 : n + 1 + 6 * e * (i + 1) = n + 1 + 6 * e * i + 6 * e := by rw [Nat.mul_add, Nat.mul_one]; omega
      obtain ⟨σb, hσb⟩ : ∃ z : L2.St, z = σ'.set 4 (some (V.int (0 + (i : Int)))) := ⟨_, rfl⟩
      have b4 : σb.take 4 = [some (.ref pn), some (.ref t), some (.ref b), some (.int (d : Int))] := by rw [hσb, take_set_ge (by decide)]; exact t4
      have b6 : σb.length = 6 := by rw [hσb, List.length_set]; exact l6
      have b0 : σb[0]? = some (some (.ref pn)) := by have := congrArg (·[0]?) b4; simpa using this
      subst hσb
      refine ⟨_, b0, pn, 8, _, rfl, by decide, by decide, Sa.pen, by omega, fun way H2 hway k2 p2 => ?_⟩
      have S2 := Sa.draw k2 p2
      have ch2 : Ch t pn b F H H2 := cha.trans nwa (.of_pen k2)
      obtain ⟨σc, hσc⟩ : ∃ z : L2.St, z = (σ'.set 4 (some (V.int (0 + (i : Int))))).set 5 (some (V.int (way : Int))) := ⟨_, rfl⟩
      have c4 : σc.take 4 = [some (.ref pn), some (.ref t), some (.ref b), some (.int (d : Int))] := by rw [hσc, take_set_ge (by decide)]; exact b4
      have c6 : σc.length = 6 := by rw [hσc, List.length_set]; exact b6
      have c5 : σc[5]? = some (some (V.int (way : Int))) := by rw [hσc]; exact List.getElem?_set_self (by omega)
      have c0 : σc[0]? = some (some (.ref pn)) := by have := congrArg (·[0]?) c4; simpa using this
      have c1 : σc[1]? = some (some (.ref t)) := by have := congrArg (·[1]?) c4; simpa using this
      have c2 : σc[2]? = some (some (.ref b)) := by have := congrArg (·[2]?) c4; simpa using this
      have c3 : σc[3]? = some (some (.int (d : Int))) := by have := congrArg (·[3]?) c4; simpa using this
      have fin : ∀ {H3 : Hp} {k3 : Nd} {F3 : List Addr} {R3 : Addr} {m : Nat}, LSt c T H3 pn t b m k3 F3 R3 (rowsOf k3) → m ≤ n + 1 + 6 * e * i + 6 * e → TOk Up k3 → Ch t pn b F' H2 H3 → NewIn F' H2 F3 → σc.take 4 = [some (.ref pn), some (.ref t), some (.ref b), some (.int (d : Int))] ∧ σc.length = 6 ∧ ∃ (k' : Nd) (F' : List Addr) (R' : Addr), LSt c T H3 pn t b (n + 1 + 6 * e * (i + 1)) k' F' R' (rowsOf k') ∧ TOk Up k' ∧ Ch t pn b F H H3 ∧ NewIn F H F' := fun {H3 k3 F3 R3 m} S3 hm ok3 ch3 nw3 =>
        ⟨c4, c6, k3, F3, R3, S3.mono (by omega), ok3, ch2.trans nwa ch3, S2.newT ch2 nwa nw3⟩
      subst hσc
      refine tAnd_at (b1 := decide ((way : Int) = 5)) (b2 := decide ((0 : Int) < (d : Int))) (eq_at c5) (fun K' z => ⟨_, c3, _, _, rfl, rfl, _, rfl, z⟩) ?_
      by_cases h5 : (way : Int) = 5 ∧ (0 : Int) < (d : Int)
      · rw [decide_eq_true h5.1, decide_eq_true h5.2]
        obtain ⟨d', rfl⟩ : ∃ d', d = d' + 1 := ⟨d - 1, by omega⟩
        have hE' : e = 5 * 5 ^ d' := by rw [← hE, Nat.pow_succ]; omega
        refine iteT ⟨_, c0, _, c1, _, c2, _, c3, _, _, rfl, rfl, d', rfl, pn, t, b, _, Up, k', F', R', ?_, U, hext, S2, oka, by unfold dr; omega, fun H3 k3 F3 R3 S3 ok3 ch3 nw3 => fin S3 (by unfold dr; omega) ok3 ch3 nw3⟩
        exact congrArg (fun z => [V.ref pn, V.ref t, V.ref b, V.int z]) (by omega)
      rw [show (decide ((way : Int) = 5) && decide ((0 : Int) < (d : Int))) = false from by rw [← Bool.decide_and]; exact decide_eq_false h5]
      refine iteF (eq_at c5 _ ?_)
      by_cases h6 : (way : Int) = 6
      · rw [decide_eq_true h6]
        exact iteT ⟨Nat.le_of_ble_eq_true rfl, fun dd => qe _ dd H2 k' F' R' (.inr rfl) (S2.mono (by omega)) ch2 nwa⟩
      rw [decide_eq_false h6]
      refine iteF (eq_at c5 _ ?_)
      by_cases h7 : (way : Int) = 7
      · rw [decide_eq_true h7]
        obtain ⟨dx, vt, eT⟩ := S2.tree.ins
        refine iteT ⟨_, c1, t, dx, _, rfl, eT, t, .int 0, k', F', ["zz", "zz", "zz"], ?_, S2.tree, oka.ok, ?_, by decide, zz_find U oka, fun dd H3 g3 => qe _ _ H3 k' F' R' (.inl rfl) ((S2.grow g3).mono (by omega)) (ch2.trans nwa (.of_grow g3)) nwa⟩
        · rw [zz_pj]
        · have : nmB "zz" = true := by decide +kernel
          intro y hy
          have : y = "zz" := by simpa using hy
          rw [this]
          exact nm_of ‹nmB "zz" = true›
      rw [decide_eq_false h7]
      exact iteF ⟨_, c0, _, c1, _, c2, _, c5, pn, t, b, way, _, Up, k', F', R', rfl, by omega, U, hext, S2, oka, by omega, fun H3 k3 F3 R3 S3 ok3 ch3 nw3 => fin S3 (by omega) ok3 ch3 nw3⟩
    · rintro σ' Ha ⟨t4, l6, k', F', R', Sa, oka, cha, nwa⟩
      have a2 : σ'[2]? = some (some (.ref b)) := by have := congrArg (·[2]?) t4; simpa using this
      obtain ⟨dp, eb⟩ := Sa.box
      obtain ⟨xs, eR, pr⟩ := id Sa.rows
      have hb : 6 * e * (1 + r) ≤ 6 * e * 4 := Nat.mul_le_mul_left _ (by omega)
      refine ⟨_, a2, b, .ref R', rfl, .inl ⟨_, .inr "rows", .inl eb, rfl, rfl⟩, R', xs, rfl, .inl (.of eR), ?_⟩
      rw [paired_len pr]
      exact q Ha k' F' R' (Sa.mono (by omega)) oka cha nwa
end
end K18
namespace K18
open PySem PySem.Spec PyProof.Rows L2 NdefX StX LamX
section
variable {P : Program} {w : World} {K : PySem.W.Frag} {mg : Str → Option Value} {base : Heap} {c : Ad}
abbrev NAt : List Str := ["_law_pen_here", "_law_tree", "_law_box", "_law_deep", "_law_before", "_law_found", "_law_caught", "error", "_law_is_right"]
theorem sc_at : FnScope NAt ["_law_pen_here", "_law_tree", "_law_box", "_law_deep"] (defScope s_law_attempt) := ⟨rfl, rfl, rfl, by decide +kernel, rfl, by decide +kernel, by decide +kernel⟩
theorem boot_repr : bootBuiltins "repr" = some (.builtin "repr") := by decide +kernel
/-- the lambda handed over in the first argument -/
def lamIn : Expr → Arguments × Expr × Scope
  | .Call _ (.Lambda p b sc _ :: _) _ _ => (p, b, sc)
  | _ => (defArgs s_law_attempt, .Constant .none 0 ⟨0, 0, 0, 0⟩, defScope s_law_attempt)
def valIn : Stmt → Expr
  | .Assign _ e _ => e
  | _ => .Constant .none 0 ⟨0, 0, 0, 0⟩
def tryIn : Stmt → Stmt
  | .Try (s :: _) _ _ _ _ => s
  | s => s
abbrev lamA : Arguments × Expr × Scope := lamIn (valIn (tryIn ((defBody s_law_attempt).getD 2 (.Pass ⟨0, 0, 0, 0⟩))))
theorem lam_free : ∀ y ∈ lamA.2.2.names, y.2 = .free → (defScope s_law_attempt).names.lookup y.1 = some .cell ∨ (defScope s_law_attempt).names.lookup y.1 = some .free := by decide +kernel
theorem lam_fr : ∀ y ∈ (["_law_pen_here", "_law_box", "_law_deep"] : List Str), (y, NameKind.free) ∈ lamA.2.2.names := by decide +kernel
theorem lam_sc : NScope ["_law_held", "_law_pen_here", "_law_box", "_law_deep"] ["_law_held"] ["_law_pen_here", "_law_box", "_law_deep"] lamA.2.2 := nscope_by (by decide +kernel)
/-- the errors that the law's clauses name -/
structure Er (K : PySem.W.Frag) (c : Ad) : Prop where
  nm : PySem.W.exmOne K (.ref c.NE) (.ref c.ME) = some true
  km : PySem.W.exmOne K (.type "KeyError") (.ref c.ME) = some false
/-- the lambda's promise: ws, what it captured -/
def spLm (c : Ad) (T : List (Addr × Str)) (d : Nat) (ws : List (Option V)) : Sp := fun vs H Q E => ∃ (pn t b : Addr), ws = [some (.ref pn), some (.ref b), some (.int (d : Int))] ∧ vs = [.ref t] ∧ spDe c T d [.ref pn, .ref t, .ref b, .int (d : Int)] H Q E
theorem pe_here {T : List (Addr × Str)} {cd Pt fa : Addr} {fda : FuncData} {kd d : Nat} {f : Addr} {A : Around} {outer : List Env} {s : Shared} {H : Hp} {E : XK} {W : WX} {pn : List (Addr × Obj)} {xe : Value → Shared → Prop} (hkd : 31 ≤ kd) (Z : Cs K mg c) (wi : Wi P w K mg base 29 c.TT (spTEn c) spTExN (spTExQ c)) (tr : Me P w K mg base CX0 4 c.T "trial" (spTrial c)) (Fa : Fun K "attempt" "Tree.attempt" s_Tree_attempt fa fda) (hma : Meth K c.T "attempt" fa)
    (TB : TabB base mg cd Pt) (hmT : (Pt, ("_law_attempt.<locals>.<lambda>" : Str)) ∈ T) (hu : ∀ p ∈ T, p.1 = Pt → p.2 = ("_law_attempt.<locals>.<lambda>" : Str)) (hG : A.guards = some []) (hr : Room (kd + 2) (A.deeper (envOfC "_law_attempt" (defScope s_law_attempt) s.heap.objs.size f (.ref cd))))
    (de : CaG P w K mg base (L2.CX P w) kd "_law_deeds" (spDe c T d)) (tkW : Takes ((cxOf CX0 P w K mg base NAt "_law_attempt" (defScope s_law_attempt) f (.ref cd) A outer s H E).tr pn xe) W) :
    PE ((cxOf CX0 P w K mg base NAt "_law_attempt" (defScope s_law_attempt) f (.ref cd) A outer s H E).tr pn xe) (valIn (tryIn ((defBody s_law_attempt).getD 2 (.Pass ⟨0, 0, 0, 0⟩)))) (tAttL c T "_law_attempt.<locals>.<lambda>" [0, 2, 3] (spLm c T d) (fun σ cls d H => W cls d σ H) (tVar 1)) :=
  pe_attl (k := kd) (E := fun σ cls d H => W cls d σ H) (js := [0, 2, 3]) (fr := ["_law_pen_here", "_law_box", "_law_deep"]) (Nl := ["_law_held", "_law_pen_here", "_law_box", "_law_deep"]) (sp := spLm c T d) Z wi tr Fa hma (by omega) (guards_deeper hG) hr (Nat.le_refl _)
    (fun pins σ H s e s' I cx => tkW e s' (XE.of_call I (fun _ _ _ z => z) cx)) (pv 1) TB rfl hmT hu rfl lam_free lam_fr rfl lam_sc (fun _ _ _ _ _ _ => rfl) (fun ws vs H Q E z => by obtain ⟨_, _, _, _, rfl, _⟩ := z; rfl)
    (fun cl f' c' ws A' outer' s' H' vs' Q' E' hr' hG' z => by
      obtain ⟨pn', t', b', rfl, rfl, z⟩ := z
      exact ⟨_, pe_caG de (guards_deeper hG') hr' (Nat.le_refl _) (passes_call (takes_of rfl rfl rfl rfl) fun _ _ _ _ y => y) rfl (pa_cons (pv 1) (pa_cons (pv 0) (pa_cons (pv 2) (pa_cons (pv 3) pa_nil)))), _, rfl, _, rfl, _, rfl, _, rfl, z⟩)
theorem LSt.ext {T : List (Addr × Str)} {H H' : Hp} {pn t b : Addr} {n : Nat} {k : Nd} {F : List Addr} {R : Addr} {l : List Rw} (S : LSt c T H pn t b n k F R l) (x : ExtN H H') (T' : Tabs T H') : LSt c T H' pn t b n k F R l := by
  have ch : Ch t pn b F H H' := fun a o h _ _ _ _ nt => x a o h nt
  refine S.step ch (.refl _ _) ?_ (S.tree.keep fun a ha o e => x a o e ?_) ?_ T'
  · obtain ⟨L, zs, a, g, h1, h2, h3, h4, h5⟩ := id S.pen
    exact ⟨L, zs, a, g, x _ _ h1 (fun _ z => by cases z), x _ _ h2 (fun _ z => by cases z), h3, h4, h5⟩
  · intro ps z
    rcases List.mem_cons.mp ha with y | y
    · obtain ⟨dx, v, e2⟩ := S.tree.ins
      rw [y, e2] at e
      rw [z] at e; cases e
    · rw [z] at e
      exact (S.tree.kinds a y).tbl e
  · obtain ⟨dp, e⟩ := S.box
    rw [e, x _ _ e (fun _ z => by cases z)]
/-- the last look -/
theorem at_end {T : List (Addr × Str)} {H : Hp} {pn t b : Addr} {n : Nat} {k : Nd} {F : List Addr} {R : Addr} {Up : List (List Str)} {σ : L2.St} {D : Ends} {z : Str} (U : UpOk Up) (S : LSt c T H pn t b n k F R (rowsOf k)) (ok : TOk Up k) (h1 : σ[1]? = some (some (.ref t))) (h2 : σ[2]? = some (some (.ref b))) (h6 : σ[6]? = some (some (.str z))) (hz : z ≠ "odd") (h8 : σ[8]? = some (some (.bl true)))
    (q : ∀ H', Grow H H' → D.nx σ H') : tIfS (L2.tOr (tTest (tOp rEq (tVar 6) (tC (.str "odd")))) (L2.tOr (tNot (tB (tVar 8))) (tTest (tOp rNe (tCB (rRepr K) (tCons (tMe c.T "rows" (spRows c) E0 (tVar 1) tNil) tNil)) (tCB (rRepr K) (tCons (tCa spTold E0 (tCons (tDGet (tVar 2) (tC (.str "rows"))) tNil)) tNil)))))) tNever tNext D σ H := by
  obtain ⟨rok, rlen⟩ := rowsOk U ok
  obtain ⟨sz, dpt⟩ := ok.size U
  obtain ⟨dx, vt, eT⟩ := S.tree.ins
  have hzd : decide (V.str z = V.str "odd") = false := decide_eq_false fun e => hz (V.str.inj e)
  refine ⟨_, h6, rfl, false, congrArg V.bl hzd, iteF ?_⟩
  refine ⟨_, h8, true, rfl, iteF ?_⟩
  refine ⟨_, h1, t, dx, _, rfl, eT, rfl, t, k, F, rfl, S.tree, ok.ok, by omega, by omega, fun H1 L1 as1 g1 e1 l1 a1 => ?_⟩
  have hp := rowsOf_pre k
  have hl1 : as1.length = (rowsOf k).length := by rw [l1, ← hp, List.length_map]
  dsimp only [tNil]
  refine repr_rows (l := rowsOf k) (as := as1) (fun r hr => rok r hr) (by omega) e1 hl1 (fun i a r hi hr => ?_) ?_
  · rw [← hp, List.getElem?_map] at hr
    obtain ⟨pk, hpk, rfl⟩ := Option.map_eq_some_iff.mp hr
    exact a1 i a pk hi hpk
  have S1 := S.grow g1
  obtain ⟨dp, eb⟩ := S1.box
  refine ⟨_, h2, b, .ref R, rfl, .inl ⟨_, .inr "rows", .inl eb, rfl, rfl⟩, R, rowsOf k, rfl, S1.rows, fun r hr => ⟨(rok r hr).1, (rok r hr).2.1⟩, by omega, fun H2 L2' as2 g2 e2 l2 a2 => ?_⟩
  dsimp only [tNil]
  refine repr_rows (l := rowsOf k) (as := as2) (fun r hr => rok r hr) (by omega) e2 l2 a2 ?_
  refine ⟨rfl, false, congrArg V.bl (by simp), iteF (q H2 fun a o y => g2 _ _ (g1 _ _ y))⟩
theorem ca_at {T : List (Addr × Str)} {cd Pt : Addr} {kd d : Nat} (hkd : 31 ≤ kd) (B : Bt mg) (Z : Cs K mg c) (Er_ : Er K c) (wi : Wi P w K mg base 29 c.TT (spTEn c) spTExN (spTExQ c)) (tr : Me P w K mg base CX0 4 c.T "trial" (spTrial c)) (Da : Mn K c.T "attempt" "Tree.attempt" s_Tree_attempt)
    (rws : Me P w K mg base CX0 22 c.T "rows" (spRows c)) (told : Ca P w K mg base CX0 1 "_law_told_rows" spTold) (TB : TabB base mg cd Pt) (hmT : (Pt, ("_law_attempt.<locals>.<lambda>" : Str)) ∈ T) (hu : ∀ p ∈ T, p.1 = Pt → p.2 = ("_law_attempt.<locals>.<lambda>" : Str))
    (de : CaG P w K mg base (L2.CX P w) kd "_law_deeds" (spDe c T d)) (D : DnC K mg "_law_attempt" s_law_attempt cd) : CaG P w K mg base CX0 (kd + 3) "_law_attempt" (spAt c T d) := by
  obtain ⟨fa, fda, Fa, hma⟩ := Da
  refine ca_okG (k := kd + 2) D sc_at (fun _ _ _ _ _ _ us hl => match us, hl with | [_, _, _, _], _ => rfl) (fun vs H Q E h => ?_) (fun f A outer s H vs Q E hr hG h => ?_)
  · obtain ⟨pn, t, b, n, Up, k, F, R, rfl, _⟩ := h
    rfl
  · obtain ⟨pn, t, b, n, Up, k, F, R, rfl, U, hext, S, ok, hn, q⟩ := h
    refine ⟨_, pss_cons (ps_par3 (i := 4) (j := 5) (l := 6) rfl sc_at.nd rfl rfl rfl (by decide) (by decide) (by decide) rfl rfl rfl (pa_cons (pe_dget (hu_of hr) (pv 2) pe_str (fun _ _ => rfl)) (pa_cons pe_non (pa_cons pe_str pa_nil))) rfl)
      (pss_cons (ps_dput (hu_of hr) (pv 2) pe_str (pe_op op_add (pe_dget (hu_of hr) (pv 2) pe_str (fun _ _ => rfl)) pe_int) rfl)
      (pss_cons (ps_tryA rfl rfl takes_none5
          (fun W pn xe tkW _ => pss_one (ps_set (i := 5) sc_at.nd rfl (.inl rfl) (pe_here hkd Z wi tr Fa hma TB hmT hu hG hr de tkW)))
          (.named sc_at.nd (i := 7) rfl rfl ⟨rfl, by decide, .inl Z.gME⟩ (fun a oe cls d pn hz _ => pss_one (ps_set (i := 6) sc_at.nd rfl (.inl rfl) (pe_ifExp (pt_val (pe_callB (call_isX (D := c.NE) hz) rfl B.isi boot_isinstance (pa_cons (pv 7) (pa_cons (pe_glob (v := .ref c.NE) rfl Z.gNE rfl) pa_nil)))) pe_str pe_str)))
            (.plain (names_blt rfl B.keyE boot_KeyError) (fun a oe cls d pn hz _ => pss_one (ps_set (i := 6) sc_at.nd rfl (.inl rfl) pe_str)) .nil)))
      (pss_cons (ps_if (pt_cmpR op_ne (pv 6) pe_str (nomark _)) (pss_one (ps_dput (hu_of hr) (pv 2) pe_str (pv 4) rfl)) pss_nil)
      (pss_cons (ps_set (i := 8) sc_at.nd rfl (.inl rfl) (pe_ifExp (pt_cmpR op_eq (pv 6) pe_str (nomark _)) (pe_cmpR op_eq (pv 5) (pe_callB call_len_seq rfl B.len boot_len (pa_cons (pe_dget (hu_of hr) (pv 2) pe_str (fun _ _ => rfl)) pa_nil)) (nomark _)) (pe_cmp (pc_isN (pv 5)))))
      (pss_one (ps_if (PW.pt (pw_or (pt_cmpR op_eq (pv 6) pe_str (nomark _)) (pw_or (pt_not (pt_val (pv 8))) (pw_or1 (pt_cmpR op_ne (pe_callB (cr_repr (guards_deeper hG) hr.units) rfl B.repr boot_repr (pa_cons (pe_me0 rws hr (by omega) pass0 (pv 1)) pa_nil))
          (pe_callB (cr_repr (guards_deeper hG) hr.units) rfl B.repr boot_repr (pa_cons (pe_ca told hr (by omega) pass0 rfl (pa_cons (pe_dget (hu_of hr) (pv 2) pe_str (fun _ _ => rfl)) pa_nil)) pa_nil)) (nomark _)))))) (pss_one ps_never) pss_nil)))))), ?_⟩
    obtain ⟨dp, eb⟩ := S.box
    obtain ⟨sz, dpt⟩ := ok.size U
    refine ⟨_, rfl, b, .ref R, rfl, .inl ⟨_, .inr "rows", .inl eb, rfl, rfl⟩, _, _, _, rfl, ?_⟩
    refine ⟨_, rfl, b, .int dp, rfl, .inl ⟨_, .inr "depth", .inl eb, rfl, rfl⟩, _, _, rfl, rfl, _, rfl, b, _, rfl, .inl ⟨_, .inr "depth", eb, rfl, Nat.lt_of_lt_of_le (show 3 < 4 by decide) (small_line (by decide)), rfl⟩, ?_⟩
    have S1 := S.put (kvs := putK [(.inr "rows", .ref R), (.inr "right", .bl true), (.inr "depth", .int dp)] (.inr "depth") (.int (dp + 1))) (dp := dp + 1) S.rows rfl
    have ch1 : Ch t pn b F H (upd H b (.dK (putK [(.inr "rows", .ref R), (.inr "right", .bl true), (.inr "depth", .int dp)] (.inr "depth") (.int (dp + 1))))) := .of_box
    generalize upd H b (.dK (putK [(.inr "rows", .ref R), (.inr "right", .bl true), (.inr "depth", .int dp)] (.inr "depth") (.int (dp + 1)))) = H1 at S1 ch1
    obtain ⟨dx, vt, eT⟩ := S1.tree.ins
    refine ⟨_, rfl, t, dx, _, rfl, eT, rfl, S1.tabs, fun H2 c' x2 T2 ec => ?_⟩
    have S2 := S1.ext x2 T2
    have ch2 : Ch t pn b F H H2 := ch1.trans (.refl _ _) fun a o h _ _ _ _ nt => x2 a o h nt
    refine ⟨k, F, S2.tree, ok.ok, by omega, by omega, ec, fun H3 Q' E' g3 hQ hE => ?_⟩
    have S3 := S2.grow g3
    have ch3 : Ch t pn b F H H3 := ch2.trans (.refl _ _) (.of_grow g3)
    have nk : ∀ {H4 : Hp}, Ch t pn b F H3 H4 → NewKept H2 H3 H4 := fun {H4} ch a o h hn nt => by
      refine ch a o h (fun z => ?_) (fun z => ?_) (fun z => ?_) (fun z => ?_) nt
      · obtain ⟨_, _, e⟩ := S2.tree.ins
        rw [z, e] at hn; cases hn
      · obtain ⟨_, e⟩ := S2.pen.lst
        rw [z, e] at hn; cases hn
      · obtain ⟨_, e⟩ := S2.box
        rw [z, e] at hn; cases hn
      · obtain ⟨_, e⟩ := S2.tree.trk a z
        rw [e] at hn; cases hn
    refine ⟨pn, t, b, rfl, rfl, pn, t, b, n, Up, k, F, R, rfl, U, hext, S3, ok, hn, fun H4 k4 F4 R4 S4 ok4 ch4 nw4 => ?_, fun cls dd H4 k4 F4 R4 hcls S4 ch4 nw4 => ?_⟩
    · refine hQ _ H4 (nk ch4) ?_
      obtain ⟨dp4, eb4⟩ := S4.box
      obtain ⟨xs4, eR4, pr4⟩ := id S4.rows
      refine ⟨_, rfl, rfl, false, congrArg V.bl (by simp), iteF ?_⟩
      refine ⟨_, rfl, rfl, true, congrArg V.bl (by simp), iteT ⟨_, rfl, _, rfl, b, .ref R4, rfl, .inl ⟨_, .inr "rows", .inl eb4, rfl, rfl⟩, R4, xs4, rfl, .inl (.of eR4), rfl, ?_⟩⟩
      have hd : decide (V.int (((rowsOf k4).length : Nat) : Int) = V.int ((xs4.length : Nat) : Int)) = true := decide_eq_true (by rw [paired_len pr4])
      exact at_end U S4 ok4 rfl rfl rfl (by decide +kernel) (congrArg (fun z => some (some (V.bl z))) hd) fun H7 g7 => q H7 k4 F4 R4 (S4.grow g7) ok4 ((ch3.trans (.refl _ _) ch4).trans (S3.newT ch3 (.refl _ _) nw4) (.of_grow g7)) (S3.newT ch3 (.refl _ _) nw4)
    · refine hE cls dd H4 (nk ch4) hcls ⟨k4, F4, S4.tree⟩ fun H5 F5 keep5 T5 fr5 => ?_
      have nw5 : NewIn F H F5 := S2.newT ch2 (.refl _ _) (.of fun a ha => .inr (fr5 a ha))
      have ch35 : Ch t pn b F H3 H5 := fun a o h h1 h2 h3 h4 h5 => keep5 a o (ch4 a o h h1 h2 h3 h4 h5) h1
      have ch5 : Ch t pn b F H H5 := ch3.trans (.refl _ _) ch35
      obtain ⟨dp4, eb4⟩ := S4.box
      have eb5 := keep5 _ _ eb4 (Ne.symm S4.tb)
      have S5 : LSt c T H5 pn t b (n + dr d) k F5 R4 (rowsOf k4) := by
        refine ⟨?_, T5, ⟨dp4, eb5⟩, S4.rows.keep fun a xs => ⟨fun e => keep5 _ _ e (S4.seqAt e (.inr (.inl ⟨_, rfl⟩))).1, fun e _ => keep5 _ _ e (S4.seqAt e (.inl ⟨_, rfl⟩)).1⟩, ?_, fun z => ?_⟩
        · obtain ⟨L, zs, a, g, h1, h2, h3, h4, h5⟩ := id S4.pen
          exact ⟨L, zs, a, g, keep5 _ _ h1 (Ne.symm S4.tp), keep5 _ _ h2 (S4.seqAt h2 (.inl ⟨_, rfl⟩)).1, h3, h4, h5⟩
        · refine Tabs.of S4.tabs fun a o e ho => keep5 _ _ e fun z => ?_
          obtain ⟨dx, v, e2⟩ := S4.tree.ins
          rw [z, e2] at e
          rcases ho with ⟨_, y⟩ | ⟨_, y⟩ <;> rw [y] at e <;> cases e
        · obtain ⟨_, e⟩ := S2.box
          rw [fr5 _ z] at e; cases e
      have hR5 : RowsL H5 R (rowsOf k) := S3.rows.keep (S3.seq ch35)
      have S6 := S5.put (kvs := putK [(.inr "rows", .ref R4), (.inr "right", .bl true), (.inr "depth", .int dp4)] (.inr "rows") (.ref R)) (dp := dp4) hR5 rfl
      rcases hcls with rfl | rfl
      · refine ⟨true, Er_.nm, fun _ a na => ⟨_, rfl, rfl, rfl, true, rfl, iteT ?_⟩, fun z => nomatch z⟩
        refine ⟨_, rfl, rfl, true, congrArg V.bl (by rw [decide_eq_false (fun e => absurd (V.str.inj e) (by decide +kernel) : ¬ (V.str "entry" = V.str ""))]; rfl), iteT ⟨_, rfl, _, rfl, b, _, rfl, .inl ⟨_, .inr "rows", eb5, rfl, Nat.lt_of_lt_of_le (show 3 < 4 by decide) (small_line (by decide)), rfl⟩, ?_⟩⟩
        refine ⟨_, rfl, rfl, false, congrArg V.bl (decide_eq_false (fun e => absurd (V.str.inj e) (by decide +kernel) : ¬ (V.str "entry" = V.str ""))), iteF ⟨_, rfl, ?_⟩⟩
        exact at_end U S6 ok rfl rfl rfl (by decide +kernel) (congrArg (fun z => some (some (V.bl z))) (decide_eq_true rfl)) fun H7 g7 => q H7 k F5 R (S6.grow g7) ok ((ch5.trans nw5 .of_box).trans nw5 (.of_grow g7)) nw5
      · refine ⟨false, Er_.km, (fun z => nomatch z), fun _ => ⟨true, exm_KE, fun _ a na => ?_, (fun z => nomatch z)⟩⟩
        refine ⟨_, rfl, rfl, true, congrArg V.bl (by rw [decide_eq_false (fun e => absurd (V.str.inj e) (by decide +kernel) : ¬ (V.str "key" = V.str ""))]; rfl), iteT ⟨_, rfl, _, rfl, b, _, rfl, .inl ⟨_, .inr "rows", eb5, rfl, Nat.lt_of_lt_of_le (show 3 < 4 by decide) (small_line (by decide)), rfl⟩, ?_⟩⟩
        refine ⟨_, rfl, rfl, false, congrArg V.bl (decide_eq_false (fun e => absurd (V.str.inj e) (by decide +kernel) : ¬ (V.str "key" = V.str ""))), iteF ⟨_, rfl, ?_⟩⟩
        exact at_end U S6 ok rfl rfl rfl (by decide +kernel) (congrArg (fun z => some (some (V.bl z))) (decide_eq_true rfl)) fun H7 g7 => q H7 k F5 R (S6.grow g7) ok ((ch5.trans nw5 .of_box).trans nw5 (.of_grow g7)) nw5
end
end K18
namespace K18
open PySem PySem.Spec PyProof.Rows L2 NdefX StX LamX
section
variable {P : Program} {w : World} {K : PySem.W.Frag} {mg : Str → Option Value} {base : Heap} {c : Ad}
/-! ### the attempts, all depths -/
theorem FnOkG.imp {CX : CXT} {k : Nat} {f : Addr} {fd : FuncData} {ps : List Str} {sp sp' : Sp} (F : FnOkG P w K mg base CX k f fd ps sp) (h : ∀ vs H Q E, sp' vs H Q E → sp vs H Q E) : FnOkG P w K mg base CX k f fd ps sp' :=
  ⟨fun vs H Q E q => F.len vs H Q E (h _ _ _ _ q), fun A outer s H args us vs Q E hr hg e0 hb hv hs => F.run A outer s H args us vs Q E hr hg e0 hb hv (h _ _ _ _ hs)⟩
theorem CaG.imp {CX : CXT} {k : Nat} {x : Str} {sp sp' : Sp} (c : CaG P w K mg base CX k x sp) (h : ∀ vs H Q E, sp' vs H Q E → sp vs H Q E) : CaG P w K mg base CX k x sp' := by
  obtain ⟨f, fd, ps, F, h1, h2, h3⟩ := c.ex
  exact ⟨f, fd, ps, F.imp h, h1, h2, h3⟩
theorem at_all {T : List (Addr × Str)} {cd Pt cd2 : Addr} (B : Bt mg) (Z : Cs K mg c) (Er_ : Er K c) (nsq : PySem.W.noSeq K c.T = true) (wi : Wi P w K mg base 29 c.TT (spTEn c) spTExN (spTExQ c)) (tr : Me P w K mg base CX0 4 c.T "trial" (spTrial c)) (Da : Mn K c.T "attempt" "Tree.attempt" s_Tree_attempt)
    (rws : Me P w K mg base CX0 22 c.T "rows" (spRows c)) (told : Ca P w K mg base CX0 1 "_law_told_rows" spTold) (TB : TabB base mg cd Pt) (hmT : (Pt, ("_law_attempt.<locals>.<lambda>" : Str)) ∈ T) (hu : ∀ p ∈ T, p.1 = Pt → p.2 = ("_law_attempt.<locals>.<lambda>" : Str))
    (drw : Ca P w K mg base CX0 1 "_law_draw" spDraw) (siX : Du P w K mg base (L2.CX P w) 6 c.T "__setitem__" (spSetIX c)) (od : Ca P w K mg base CX0 31 "_law_one_deed" (spOD c T))
    (D : DnC K mg "_law_attempt" s_law_attempt cd) (D2 : DnC K mg "_law_deeds" s_law_deeds cd2) : CaG P w K mg base CX0 43 "_law_attempt" (spAt c T 2) := by
  have step : ∀ (d ka : Nat), 31 ≤ ka → CaG P w K mg base CX0 ka "_law_attempt" (spAtP c T d) → CaG P w K mg base CX0 (ka + 4) "_law_attempt" (spAt c T d) := fun d ka hka h =>
    ca_at (kd := ka + 1) (by omega) B Z Er_ wi tr Da rws told TB hmT hu (ca_de hka B nsq drw siX od h D2) D
  have h0 := step 0 31 (by decide) (ca_neverG (ps := ["_law_pen_here", "_law_tree", "_law_box", "_law_deep"]) D (fun _ _ _ _ _ _ us hl => match us, hl with | [_, _, _, _], _ => rfl) fun vs H Q E ⟨d', e, _⟩ => by cases e)
  have h1 := step 1 35 (by decide) (h0.imp fun vs H Q E ⟨d', e, z⟩ => by cases e; exact z)
  exact step 2 39 (by decide) (h1.imp fun vs H Q E ⟨d', e, z⟩ => by cases e; exact z)
/-! ### the pen -/
def spPen (K : PySem.W.Frag) : Sp := fun vs H Q _ => ∃ (a : Addr) (ns : List Int), vs = [.ref a] ∧ SqL K H a (ns.map V.int) ∧ ∀ (H' : Hp) (pn : Addr), Grow H H' → PenAt H' pn 0 → Q (.ref pn) H'
theorem sc_pen : FnScope ["_law_script"] ["_law_script"] (defScope s_law_pen) := ⟨rfl, rfl, rfl, by decide +kernel, rfl, by decide +kernel, by decide +kernel⟩
theorem ca_pen (B : Bt mg) (D : Dn K mg "_law_pen" s_law_pen) : Ca P w K mg base CX0 1 "_law_pen" (spPen K) := by
  refine ca_ok (k := 0) D sc_pen (fun _ _ _ _ _ _ us hl => match us, hl with | [_], _ => rfl) (fun vs H Q E h => ?_) (fun f cdv A outer s H vs Q E hr h => ?_)
  · obtain ⟨a, ns, rfl, _⟩ := h
    rfl
  · obtain ⟨a, ns, rfl, hs, q⟩ := h
    refine ⟨_, pss_one (ps_ret (pe_lst (pa_cons (pe_callTy call_list_of rfl B.list boot_list (pa_cons (pe_slice sl_list (pv 0) po_none (po_some pe_int)) pa_nil)) (pa_cons pe_int (pa_cons pe_int pa_nil))))), ?_⟩
    refine ⟨_, rfl, 63, rfl, a, _, rfl, hs, fun p hp => ?_⟩
    have u1 := up_new (o := .lst (cutV (ns.map V.int) none (some 63))) hp
    refine ⟨p, _, rfl, .inl (.of upd_same), fun l hl => ⟨Nat.le_of_ble_eq_true rfl, fun pn hpn => ?_⟩⟩
    have u2 := up_new (o := .lst (cutV (ns.map V.int) none (some 63))) hl
    have u3 := up_new (o := .lst [.ref l, .int 0, .int 0]) hpn
    have e63 : cutV (ns.map V.int) none (some 63) = (ns.take 63).map V.int := by
      unfold cutV
      rw [HT.sIx_none, show (some (63 : Int)) = some ((63 : Nat) : Int) from rfl, HT.sIx_nat, Nat.sub_zero, List.drop_zero, List.length_map, ← List.map_take]
      congr 1
      by_cases h : 63 ≤ ns.length
      · rw [Nat.min_eq_left h]
      · rw [Nat.min_eq_right (by omega), List.take_length, List.take_of_length_le (by omega)]
    refine q _ pn (fun b o z => u3 _ _ (u2 _ _ (u1 _ _ z))) ⟨l, ns.take 63, 0, 0, upd_same, u3 _ _ (by rw [upd_same, e63]), by rw [List.length_take]; omega, Nat.le_refl _, by decide⟩
/-! ### the law -/
abbrev NLw : List Str := ["_law_script", "_law_pen_here", "_law_turn", "_law_rows", "_law_tree", "_law_twin", "_law_box", "_law_top", "_law_again", "_law_other"]
theorem sc_law : FnScope NLw ["_law_script"] (defScope s_law) := ⟨rfl, rfl, rfl, by decide +kernel, rfl, by decide +kernel, by decide +kernel⟩
def forIn' : Stmt → List Stmt
  | .For _ _ b _ _ => b
  | _ => []
def ifIn : Stmt → Expr
  | .If e _ _ _ => e
  | _ => .Constant .none 0 ⟨0, 0, 0, 0⟩
def orIn : Expr → Expr
  | .BoolOp _ (.Compare e _ _ _ :: _) _ => e
  | e => e
abbrev callL : Expr := orIn (ifIn ((forIn' ((defBody s_law).getD 1 (.Pass ⟨0, 0, 0, 0⟩))).getD 7 (.Pass ⟨0, 0, 0, 0⟩)))
abbrev lamL : Arguments × Expr × Scope := lamIn callL
theorem lamL_sc : NScope ["_law_held"] ["_law_held"] [] lamL.2.2 := nscope_by (by decide +kernel)
theorem lamL_free : ∀ y ∈ lamL.2.2.names, y.2 = .free → (defScope s_law).names.lookup y.1 = some .cell ∨ (defScope s_law).names.lookup y.1 = some .free := by decide +kernel
/-- the lambda's promise -/
def spLz (c : Ad) (_ : List (Option V)) : Sp := spTSize c
theorem pe_hereL {CX : CXT} {T : List (Addr × Str)} {cd Pt fa : Addr} {fda : FuncData} {f : Addr} {A : Around} {outer : List Env} {s : Shared} {H : Hp} {E : XK} (Z : Cs K mg c) (wi : Wi P w K mg base 29 c.TT (spTEn c) spTExN (spTExQ c)) (tr : Me P w K mg base CX0 4 c.T "trial" (spTrial c)) (Fa : Fun K "attempt" "Tree.attempt" s_Tree_attempt fa fda) (hma : Meth K c.T "attempt" fa)
    (siz : Me P w K mg base CX0 18 c.T "size" (spTSize c)) (TB : TabB base mg cd Pt) (hmT : (Pt, ("law.<locals>.<lambda>" : Str)) ∈ T) (hu : ∀ p ∈ T, p.1 = Pt → p.2 = ("law.<locals>.<lambda>" : Str)) (hG : A.guards = some []) {k : Nat} (hk : 30 ≤ k) (hr : Room (k + 2) (A.deeper (envOfC "law" (defScope s_law) s.heap.objs.size f (.ref cd)))) :
    PE (cxOf CX P w K mg base NLw "law" (defScope s_law) f (.ref cd) A outer s H E) callL (tAttL c T "law.<locals>.<lambda>" [] (spLz c) (fun _ _ _ _ => False) (tVar 4)) :=
  pe_attl (k := k) (E := fun _ _ _ _ => False) (js := []) (fr := []) (Nl := ["_law_held"]) (sp := spLz c) Z wi tr Fa hma (by omega) (guards_deeper hG) hr (Nat.le_refl _)
    (fun pins σ H s e s' I ⟨_, _, _, _, _, _, _, _, _, _, _, _, z⟩ => z.elim) (pv 4) TB rfl hmT hu rfl lamL_free (fun _ z => by cases z) rfl lamL_sc (fun _ _ _ _ _ _ => rfl) (fun ws vs H Q E z => by obtain ⟨_, _, _, rfl, _⟩ := z; rfl)
    (fun cl f' c' ws A' outer' s' H' vs' Q' E' hr' hG' z => by
      obtain ⟨t, k, F, rfl, hT, h1, h2, h3, q⟩ := z
      obtain ⟨dx, top, eT, _⟩ := id hT
      exact ⟨_, pe_me0 siz hr' (by omega) pass0 (pv 0), _, rfl, t, dx, _, rfl, eT, rfl, t, k, F, rfl, hT, h1, h2, h3, q⟩)
end
end K18
namespace K18
open PySem PySem.Spec PyProof.Rows L2 NdefX StX LamX
section
variable {P : Program} {w : World} {K : PySem.W.Frag} {mg : Str → Option Value} {base : Heap} {c : Ad}
theorem ten {σ : L2.St} {v : Option V} (h1 : σ[1]? = some v) (l : σ.length = 10) : ∃ x0 x2 x3 x4 x5 x6 x7 x8 x9, σ = [x0, v, x2, x3, x4, x5, x6, x7, x8, x9] := by
  match σ, l with
  | [x0, x1, x2, x3, x4, x5, x6, x7, x8, x9], _ =>
    have e : x1 = v := Option.some.inj h1
    subst e
    exact ⟨x0, x2, x3, x4, x5, x6, x7, x8, x9, rfl⟩
theorem two_more {σ : L2.St} {xs : List (Option V)} (h : σ.take 8 = xs) (l : σ.length = 10) : ∃ y8 y9, σ = xs ++ [y8, y9] := by
  have e := List.take_append_drop 8 σ
  have hl : (σ.drop 8).length = 2 := by rw [List.length_drop, l]
  match hd : σ.drop 8, hl with
  | [y8, y9], _ => exact ⟨y8, y9, by rw [← h, ← hd, e]⟩
theorem Kp.tabs {T : List (Addr × Str)} {H H' : Hp} {pn : Addr} {n : Nat} (k : Kp [pn] H H') (p : PenAt H pn n) (h : Tabs T H) : Tabs T H' := Tabs.of h fun a o e ho => k a o e (by
  obtain ⟨xs, e2⟩ := p.lst
  simp
  rintro rfl
  rw [e2] at e
  rcases ho with ⟨_, y⟩ | ⟨_, y⟩ <;> rw [y] at e <;> cases e)
theorem KiO.nt {H : Hp} {b : Addr} {o : HO} (h : KiO H b) (e : H b = some o) : ∀ ps, o ≠ .tbl ps := fun ps z => h.tbl (e.trans (congrArg some z))
def spLaw (K : PySem.W.Frag) (T : List (Addr × Str)) : Sp := fun vs H Q _ => ∃ (a : Addr) (ns : List Int), vs = [.ref a] ∧ SqL K H a (ns.map V.int) ∧ Tabs T H ∧ ∀ H', Q (.bl true) H'
theorem ca_law {T : List (Addr × Str)} {cd Pt : Addr} (B : Bt mg) (Z : Cs K mg c) (N : Eqc K c) (wi : Wi P w K mg base 29 c.TT (spTEn c) spTExN (spTExQ c)) (tr : Me P w K mg base CX0 4 c.T "trial" (spTrial c)) (Da : Mn K c.T "attempt" "Tree.attempt" s_Tree_attempt)
    (rws : Me P w K mg base CX0 22 c.T "rows" (spRows c)) (told : Ca P w K mg base CX0 1 "_law_told_rows" spTold) (siz : Me P w K mg base CX0 18 c.T "size" (spTSize c)) (en : Me P w K mg base CX0 5 c.T "entry" (spEntry c)) (eD : Du P w K mg base CX0 30 c.D "__eq__" (spEEq c 12)) (eT_ : Du P w K mg base CX0 31 c.T "__eq__" (spTEq c))
    (mk : Ma P w K mg base CX0 30 "Tree" c.T (spTInit c)) (mt : Ca P w K mg base CX0 32 "_law_made_tree" (spMT c)) (dro : Ca P w K mg base CX0 3 "_law_drawn_rows" spDR) (pen : Ca P w K mg base CX0 1 "_law_pen" (spPen K))
    (TB : TabB base mg cd Pt) (hmT : (Pt, ("law.<locals>.<lambda>" : Str)) ∈ T) (hu : ∀ p ∈ T, p.1 = Pt → p.2 = ("law.<locals>.<lambda>" : Str)) (at_ : CaG P w K mg base CX0 43 "_law_attempt" (spAt c T 2)) (D : DnC K mg "law" s_law cd) : CaG P w K mg base (L2.CX P w) 46 "law" (spLaw K T) := by
  obtain ⟨fa, fda, Fa, hma⟩ := Da
  refine ca_okG (k := 45) D sc_law (fun _ _ _ _ _ _ us hl => match us, hl with | [_], _ => rfl) (fun vs H Q E h => ?_) (fun f A outer s H vs Q E hr hG h => ?_)
  · obtain ⟨a, ns, rfl, _⟩ := h
    rfl
  · obtain ⟨a, ns, rfl, hs, hT, q⟩ := h
    refine ⟨_, pss_cons (ps_set (i := 1) sc_law.nd rfl (.inl rfl) (pe_ca pen hr (by omega) pass0 rfl (pa_cons (pv 0) pa_nil)))
      (pss_cons (ps_for PassesOwn.leaving rfl (pi_range1 rfl B.range (pa_cons pe_int pa_nil)) (pg_name (i := 2) sc_law.nd rfl (.inl rfl))
        (pss_cons (ps_set (i := 3) sc_law.nd rfl (.inl rfl) (pe_ca dro hr (by omega) pass0 rfl (pa_cons (pv 1) (pa_cons pe_int pa_nil))))
        (pss_cons (ps_par (i := 4) (j := 5) rfl sc_law.nd rfl rfl (by decide) rfl rfl (pa_cons (pe_ca mt hr (by omega) pass0 rfl (pa_cons (pv 3) pa_nil)) (pa_cons (pe_ca mt hr (by omega) pass0 rfl (pa_cons (pv 3) pa_nil)) pa_nil)) rfl)
        (pss_cons (ps_set (i := 6) sc_law.nd rfl (.inl rfl) (pe_disp (pps_cons pe_str (pv 3) (pps_cons pe_str pe_bl (pps_cons pe_str pe_int pps_nil))) rfl rfl (by simp) (by decide)))
        (pss_cons (ps_set (i := 7) sc_law.nd rfl (.inl rfl) (pe_me en hr (by omega) pass0 (pv 5) (pa_cons pe_str pa_nil)))
        (pss_cons (ps_for PassesOwn.leaving rfl (pi_range1 rfl B.range (pa_cons pe_int pa_nil)) (pg_name (i := 8) sc_law.nd rfl (.inl rfl)) (pss_one (ps_expr (pe_caG at_ (guards_deeper hG) hr (by omega) pass0 rfl (pa_cons (pv 1) (pa_cons (pv 4) (pa_cons (pv 6) (pa_cons pe_int pa_nil))))))))
        (pss_cons (ps_if (PW.pt (pw_or (pt_not (pt_val (pe_dget (hu_of hr) (pv 6) pe_str (fun _ _ => rfl)))) (pw_or (pt_cmpR op_ne (pe_callB (cr_repr (guards_deeper hG) hr.units) rfl B.repr boot_repr (pa_cons (pe_me0 rws hr (by omega) pass0 (pv 5)) pa_nil)) (pe_callB (cr_repr (guards_deeper hG) hr.units) rfl B.repr boot_repr (pa_cons (pe_ca told hr (by omega) pass0 rfl (pa_cons (pv 3) pa_nil)) pa_nil)) (nomark _))
            (pw_or1 (pt_cmpR (op_neO N.nD eD hr (by omega)) (pv 7) (pe_me en hr (by omega) pass0 (pv 5) (pa_cons pe_str pa_nil)) (nomark _)))))) (pss_one ps_never) pss_nil)
        (pss_cons (ps_set (i := 9) sc_law.nd rfl (.inl rfl) (pe_ma mk hr (by omega) pass0 rfl (pa_cons (pe_me en hr (by omega) pass0 (pv 4) (pa_cons pe_str pa_nil)) pa_nil)))
        (pss_one (ps_if (PW.pt (pw_or (pt_cmpR op_ne (pe_hereL Z wi tr Fa hma siz TB hmT hu hG (k := 43) (by decide) hr) (pe_callB call_len_seq rfl B.len boot_len (pa_cons (pe_dget (hu_of hr) (pv 6) pe_str (fun _ _ => rfl)) pa_nil)) (nomark _)) (pw_or1 (pt_cmpR (op_neO N.nT eT_ hr (by omega)) (pv 9) (pv 4) (nomark _))))) (pss_one ps_never) pss_nil))))))))))
      (pss_one (ps_ret pe_bl))), ?_⟩
    refine ⟨_, rfl, a, ns, rfl, hs, fun H0 pn g0 p0 => ?_⟩
    refine ⟨5, rfl, by decide, by decide, ?_⟩
    refine for_it (walk_range (lo := 0) (n := 5)) (fun i σ' H' => σ'[1]? = some (some (.ref pn)) ∧ σ'.length = 10 ∧ PenAt H' pn (2000 * i) ∧ Tabs T H') ⟨rfl, rfl, p0, hT.ext g0⟩ (fun _ _ _ _ _ => trivial) ?_ (fun _ _ _ => q _)
    rintro i x σ' Ha Hb hi ⟨s1, l10, pa, ta⟩ ⟨rfl, rfl⟩
    obtain ⟨x0, x2, x3, x4, x5, x6, x7, x8, x9, rfl⟩ := ten s1 l10
    refine ⟨_, rfl, pn, 2000 * i, rfl, pa, by omega, fun H1 R l Up k1 p1 hR U lo hext => ?_⟩
    have t1 := Kp.tabs k1 pa ta
    refine ⟨_, rfl, R, l, Up, rfl, hR, U, lo, fun H2 t k F g2 T2 ok2 hl2 fr2 ft2 => ?_⟩
    have hR2 := hR.keep (.grow g2)
    refine ⟨_, rfl, R, l, Up, rfl, hR2, U, lo, fun H3 u k3 G g3 T3 ok3 hl3 fr3 ft3 => ⟨_, _, rfl, fun b hb => ?_⟩⟩
    refine ⟨_, rfl, upd_same, [(.inr "rows", .ref R), (.inr "right", .bl true), (.inr "depth", .int 0)], rfl, Nat.le_of_ble_eq_true rfl, ?_⟩
    rw [upd_upd]
    have g4 := up_new (o := .dK (mergeK [] [(.inr "rows", .ref R), (.inr "right", .bl true), (.inr "depth", .int 0)])) hb
    have eb4 : upd H3 b (.dK (mergeK [] [(.inr "rows", .ref R), (.inr "right", .bl true), (.inr "depth", .int 0)])) b = some (.dK [(.inr "rows", .ref R), (.inr "right", .bl true), (.inr "depth", .int 0)]) := upd_same
    generalize upd H3 b (.dK (mergeK [] [(.inr "rows", .ref R), (.inr "right", .bl true), (.inr "depth", .int 0)])) = H4 at g4 eb4
    have g24 : Grow H2 H4 := fun a o z => g4 _ _ (g3 _ _ z)
    have g14 : Grow H1 H4 := fun a o z => g24 _ _ (g2 _ _ z)
    have hbF : b ∉ F := fun z => by obtain ⟨o, e⟩ := T2.trk b z; have := g3 _ _ e; rw [hb] at this; cases this
    have hbG : b ∉ G := fun z => by obtain ⟨o, e⟩ := T3.trk b z; rw [hb] at e; cases e
    have S4 : LSt c T H4 pn t b (2000 * i + 80) k F R (rowsOf k) := ⟨p1.grow g14, T2.grow g24, ⟨0, eb4⟩, by rw [hl2]; exact hR2.keep (.grow g24), t1.ext g14, hbF⟩
    have T4 : TreeAt c H4 u k3 G := T3.grow g4
    have hnu : u ≠ t := fun z => by obtain ⟨dx, v, e⟩ := T2.ins; rw [← z, ft3] at e; cases e
    have huF : u ∉ F := fun z => by obtain ⟨o, e⟩ := T2.trk u z; rw [ft3] at e; cases e
    have hub : u ≠ b := fun z => by obtain ⟨dx, v, e⟩ := T3.ins; rw [z, hb] at e; cases e
    have hGF : ∀ a ∈ G, a ∉ F := fun a ha z => by obtain ⟨o, e⟩ := T2.trk a z; rw [fr3 a ha] at e; cases e
    have htG : t ∉ G := fun z => by obtain ⟨dx, v, e⟩ := T2.ins; rw [fr3 t z] at e; cases e
    obtain ⟨dxu, topu, eU, hnU, ndU, ntU⟩ := id T4
    obtain ⟨sz3, dp3⟩ := ok3.size U
    refine ⟨_, rfl, u, dxu, _, rfl, eU, rfl, u, k3, k3, G, [], congrArg (fun z => [V.ref u, V.str z]) pj_nil.symm, T4, ok3.ok, fun _ z => (by cases z), Nat.zero_le _, rfl, fun H5 dx5 top5 e5 G5 g5 eT5 nt5 hs5 => ?_⟩
    obtain rfl : e5 = top5 := hs5.top rfl
    have S5 := S4.grow g5
    have T5 := T4.grow g5
    refine ⟨3, rfl, by decide, by decide, ?_⟩
    refine for_it (walk_range (lo := 0) (n := 3)) (fun j σ' H' => σ'.take 8 = [x0, some (.ref pn), some (.int (0 + (i : Int))), some (.ref R), some (.ref t), some (.ref u), some (.ref b), some (.ref e5)] ∧ σ'.length = 10 ∧ ∃ (k' : Nd) (F' : List Addr) (R' : Addr), LSt c T H' pn t b (2000 * i + 80 + 625 * j) k' F' R' (rowsOf k') ∧ TOk Up k' ∧ Ch t pn b F H5 H' ∧ NewIn F H5 F')
      ⟨rfl, rfl, k, F, R, S5, ok2, .refl _ _ _ _ _, .refl _ _⟩ (fun _ _ _ _ _ => trivial) ?_ ?_
    · rintro j y σ1 Hc Hd hj ⟨t8, l10', k', F', R', S', ok', ch', nw'⟩ ⟨rfl, rfl⟩
      obtain ⟨y8, y9, rfl⟩ := two_more t8 l10'
      refine ⟨_, rfl, _, rfl, _, rfl, pn, t, b, _, Up, k', F', R', rfl, U, hext, S', ok', by show 2000 * i + 80 + 625 * j + 625 ≤ 80000; omega, fun H6 k6 F6 R6 S6 ok6 ch6 nw6 => ?_⟩
      exact ⟨rfl, rfl, k6, F6, R6, S6.mono (by show _ + 625 ≤ _; omega), ok6, ch'.trans nw' ch6, S'.newT ch' nw' nw6⟩
    rintro σ1 H6 ⟨t8, l10', k6, F6, R6, S6, ok6, ch6, nw6⟩
    obtain ⟨y8, y9, rfl⟩ := two_more t8 l10'
    have kpU : ∀ z ∈ u :: G, ∀ o, H5 z = some o → H6 z = some o := fun z hz o e => by
      rcases List.mem_cons.mp hz with y | y
      · subst y
        obtain ⟨dxx, vv, e2⟩ := T5.ins
        refine ch6 z o e hnu (fun w => ?_) hub huF fun ps w => ?_
        · obtain ⟨_, e3⟩ := S5.pen.lst
          rw [w, e3] at e2; cases e2
        · rw [e2] at e; rw [w] at e; cases e
      · have ki := T5.kinds z y
        refine ch6 z o e (fun w => htG (w ▸ y)) (fun w => ?_) (fun w => hbG (w ▸ y)) (hGF z y) (ki.nt e)
        obtain ⟨_, e3⟩ := S5.pen.lst
        exact (w ▸ ki).lst e3
    have T6 : TreeAt c H6 u k3 G := T5.keep kpU
    have eT6 := kpU u (by simp) _ (g5 _ _ eT5)
    have hR6 : RowsL H6 R (rowsOf k3) := by
      rw [hl3]
      exact ((hR2.keep (.grow g24)).keep (.grow g5)).keep (S5.seq ch6)
    obtain ⟨rok3, rlen3⟩ := rowsOk U ok3
    obtain ⟨dp6, eb6⟩ := S6.box
    refine ⟨_, rfl, b, .bl true, rfl, .inl ⟨_, .inr "right", .inl eb6, rfl, rfl⟩, true, rfl, iteF ?_⟩
    refine ⟨_, rfl, u, _, _, rfl, eT6, rfl, u, k3, G, rfl, T6, ok3.ok, by omega, by omega, fun H7 L1 as1 g7 e7 l7 a7 => ?_⟩
    have hp := rowsOf_pre k3
    have hl1 : as1.length = (rowsOf k3).length := by rw [l7, ← hp, List.length_map]
    dsimp only [tNil]
    refine repr_rows (l := rowsOf k3) (as := as1) (fun r hr => rok3 r hr) (by omega) e7 hl1 (fun i a r hi hr => ?_) ?_
    · rw [← hp, List.getElem?_map] at hr
      obtain ⟨pk, hpk, rfl⟩ := Option.map_eq_some_iff.mp hr
      exact a7 i a pk hi hpk
    refine ⟨_, rfl, R, rowsOf k3, rfl, hR6.keep (.grow g7), fun r hr => ⟨(rok3 r hr).1, (rok3 r hr).2.1⟩, by omega, fun H8 L2' as2 g8 e8 l8 a8 => ?_⟩
    dsimp only [tNil]
    refine repr_rows (l := rowsOf k3) (as := as2) (fun r hr => rok3 r hr) (by omega) e8 l8 a8 ?_
    refine ⟨rfl, false, congrArg V.bl (by simp), iteF ?_⟩
    have g68 : Grow H6 H8 := fun a o z => g8 _ _ (g7 _ _ z)
    have T8 := T6.grow g68
    have eT8 := g68 _ _ eT6
    refine ⟨_, rfl, _, rfl, u, _, _, rfl, eT8, rfl, u, k3, k3, G, [], congrArg (fun z => [V.ref u, V.str z]) pj_nil.symm, T8, ok3.ok, fun _ z => (by cases z), Nat.zero_le _, rfl, fun H9 dx9 top9 e9 G9 g9 eT9 nt9 hs9 => ?_⟩
    obtain rfl : e9 = top9 := hs9.top rfl
    have etop : e9 = e5 := by
      rw [eT8] at eT9
      injection eT9 with z
      injection z with _ _ z
      injection z with z _
      injection z with _ z
      injection z with z
      exact z.symm
    subst etop
    obtain ⟨ta9, h9, _⟩ : ∃ dxa fsa, H9 e9 = some (.ins c.D dxa fsa) ∧ True := by
      rcases hs9.node.cases with ⟨hd0, _⟩ | ⟨_, dx1, m1, b1, kvs1, bs1, F1, hD1, _⟩
      · rw [ok3.dir] at hd0; cases hd0
      · exact ⟨_, _, hD1.obj, trivial⟩
    refine ⟨e9, e9, _, _, _, _, rfl, rfl, ‹H9 e9 = some _ ∧ True›.1, ‹H9 e9 = some _ ∧ True›.1, _, _, rfl, ⟨e9, e9, k3, G9, G9, rfl, rfl, hs9.node, hs9.node, hs9.nd, hs9.nd, ok3.ok, by omega, .inl rfl⟩, fun H10 g10 => ⟨true, rfl, false, rfl, iteF ?_⟩⟩
    have S10 := S6.grow (H' := H10) fun a o z => g10 _ _ (g9 _ _ (g68 _ _ z))
    obtain ⟨sz6, dpt6⟩ := ok6.size U
    obtain ⟨dxt, topt, eTt, hnt, ndt, ntt⟩ := id S10.tree
    refine ⟨_, rfl, t, dxt, _, rfl, eTt, rfl, t, k6, k6, F6, [], congrArg (fun z => [V.ref t, V.str z]) pj_nil.symm, S10.tree, ok6.ok, fun _ z => (by cases z), Nat.zero_le _, rfl, fun H11 dx11 top11 e11 G11 g11 eT11 nt11 hs11 => ?_⟩
    have S11 := S10.grow g11
    intro xo dxo hxo hdxo hne
    have xoG : xo ∉ G11 := fun z => by obtain ⟨o, y⟩ := hs11.node.trk xo z; rw [hxo] at y; cases y
    have doG : dxo ∉ G11 := fun z => by obtain ⟨o, y⟩ := hs11.node.trk dxo z; rw [hdxo] at y; cases y
    refine ⟨xo, dxo, e11, k6, G11, rfl, upd_same, hs11.node.keep fun z hz o y => ?_, xoG, ok6.ok, by omega, by omega, fun topo Fo' H12 k12 eo n12 nd12 fr12 => ⟨rfl, ?_⟩⟩
    · rw [upd_ne (fun y => xoG (by rw [← y]; exact hz)), upd_ne (fun y => doG (by rw [← y]; exact hz))]; exact y
    have g12 : Grow H11 H12 := kp_own hxo hdxo k12
    have S12 := S11.grow g12
    have xoF : xo ∉ Fo' := fun z => by have := fr12 xo z; rw [upd_same] at this; cases this
    have frF : ∀ z ∈ Fo', H11 z = none := fun z hz => none_of (fr12 z hz) (fun y => xoF (by rw [← y]; exact hz))
    have To : TreeAt c H12 xo k6 Fo' := ⟨dxo, topo, eo, n12, nd12, xoF⟩
    have hdj : ∀ z ∈ Fo', z ∉ F6 := fun z hz y => by obtain ⟨o, e⟩ := S11.tree.trk z y; rw [frF z hz] at e; cases e
    obtain ⟨dx12, v12, eT12⟩ := S12.tree.ins
    refine ⟨_, rfl, t, dx12, _, rfl, eT12, rfl, S12.tabs, fun H13 c' x13 T13 ec => ⟨k6, F6, (S12.ext x13 T13).tree, ok6.ok, by omega, by omega, ec, fun H14 Q' E' g14' hQ hE => ?_⟩⟩
    have S13 := S12.ext x13 T13
    have S14 := S13.grow g14'
    refine ⟨t, k6, F6, rfl, S14.tree, ok6.ok, by omega, by omega, fun H15 g15 => hQ _ H15 (fun z o h _ _ => g15 z o h) ?_⟩
    have S15 := S14.grow g15
    obtain ⟨dp15, eb15⟩ := S15.box
    obtain ⟨xs15, eR15, pr15⟩ := id S15.rows
    have hle : decide (V.int (((1 + k6.2.size : Nat)) : Int) = V.int ((xs15.length : Nat) : Int)) = true := decide_eq_true (by rw [paired_len pr15, rowsOf_len])
    refine ⟨_, rfl, b, .ref R6, rfl, .inl ⟨_, .inr "rows", .inl eb15, rfl, rfl⟩, R6, xs15, rfl, .inl (.of eR15), rfl, false, congrArg V.bl (by rw [hle]; rfl), iteF ?_⟩
    have To15 : TreeAt c H15 xo k6 Fo' := To.keep fun z hz o e => g15 _ _ (g14' _ _ (x13 _ _ e (by
      rcases List.mem_cons.mp hz with y | y
      · subst y
        intro ps w
        rw [eo] at e
        rw [w] at e; cases e
      · exact (To.kinds z y).nt e)))
    obtain ⟨dxo15, vo15, eo15⟩ := To15.ins
    obtain ⟨dxt15, vt15, et15⟩ := S15.tree.ins
    refine ⟨_, rfl, _, rfl, xo, t, _, _, _, _, rfl, rfl, eo15, et15, xo, t, k6, Fo', F6, rfl, To15, S15.tree, ok6.ok, ok6.dir, by omega, hdj, fun H16 g16 => ⟨true, rfl, false, rfl, iteF ?_⟩⟩
    exact ⟨rfl, rfl, (S15.pen.grow g16).mono (by omega), S15.tabs.ext g16⟩
end
end K18
namespace K18
open PySem PySem.Spec PyProof.Rows L2 NdefX StX LamX
/-! ### the facts of the head, as Bools -/
def fB_ (a b : Option (Option Value)) : Bool := He.eqO a b
theorem fB_ok {a b : Option (Option Value)} (h : fB_ a b = true) : a = b := He.eqO_ok h
def clsB (K : PySem.W.Frag) (C : Addr) : Bool := PySem.W.plainGet K C Str.empty && (PySem.W.hasDictIn K C && (PySem.W.plainOver K C && fB_ (PySem.W.findIn K (.ref C) "__setattr__") (some (some (.builtin "object.__setattr__")))))
theorem clsB_ok {K : PySem.W.Frag} {C : Addr} (h : clsB K C = true) : Cls K C := by
  obtain ⟨h1, h⟩ := He.ba h
  obtain ⟨h2, h⟩ := He.ba h
  obtain ⟨h3, h4⟩ := He.ba h
  exact ⟨h1, h2, h3, fB_ok h4⟩
def ownB (K : PySem.W.Frag) (C : Addr) : Bool := clsB K C && (fB_ (PySem.W.findIn K (.ref C) "__class__") (some (some (.builtin "object.__class__"))) && (fB_ (PySem.W.specialIn K (.builtin "object.__class__") "__get__") (some (some (.builtin "getset_descriptor.__get__"))) &&
  (decide (PySem.W.takesIn K (.builtin "object.__class__") = some true) && decide (PySem.W.mroIn K C (.type "object") = some true))))
theorem ownB_ok {K : PySem.W.Frag} {C : Addr} (h : ownB K C = true) : OwnC K C := by
  obtain ⟨h1, h⟩ := He.ba h
  obtain ⟨h2, h⟩ := He.ba h
  obtain ⟨h3, h⟩ := He.ba h
  obtain ⟨h4, h5⟩ := He.ba h
  exact ⟨clsB_ok h1, fB_ok h2, fB_ok h3, of_decide_eq_true h4, of_decide_eq_true h5⟩
def naB (K : PySem.W.Frag) (C : Addr) (f : Str) : Bool := fB_ (PySem.W.findIn K (.ref C) f) (some none)
theorem naB_ok {K : PySem.W.Frag} {C : Addr} {f : Str} (h : naB K C f = true) : NoAttr K C f := fB_ok h
def kitB (K : PySem.W.Frag) (a c : Value) (b : Bool) : Bool := decide (PySem.W.kitOne K a c = some b)
theorem kitB_ok {K : PySem.W.Frag} {a c : Value} {b : Bool} (h : kitB K a c b = true) : PySem.W.kitOne K a c = some b := of_decide_eq_true h
/-- the getter of a property -/
def pA (K : PySem.W.Frag) (C : Addr) (m : Str) : Addr := match PySem.W.recIn K (He.ma K C m) "property" with
  | some (.ref g :: _) => g
  | _ => 0
def propB (K : PySem.W.Frag) (C : Addr) (m : Str) : Bool := fB_ (PySem.W.findIn K (.ref C) m) (some (some (.ref (He.ma K C m)))) && (fB_ (PySem.W.specialIn K (.ref (He.ma K C m)) "__get__") (some (some (.builtin "property.__get__"))) && (decide (PySem.W.takesIn K (.ref (He.ma K C m)) = some true) &&
  (match PySem.W.recIn K (He.ma K C m) "property" with
    | some (.ref _ :: _) => true
    | _ => false)))
theorem propB_ok {K : PySem.W.Frag} {C : Addr} {m : Str} (h : propB K C m = true) : PropOf K C m (He.ma K C m) (pA K C m) := by
  obtain ⟨h1, h⟩ := He.ba h
  obtain ⟨h2, h⟩ := He.ba h
  obtain ⟨h3, h4⟩ := He.ba h
  refine ⟨fB_ok h1, fB_ok h2, of_decide_eq_true h3, ?_⟩
  unfold pA
  split at h4
  · rename_i g rest e
    rw [e]
    exact ⟨rest, rfl⟩
  · cases h4
def methB (K : PySem.W.Frag) (C : Addr) (m : Str) : Bool := fB_ (PySem.W.findIn K (.ref C) m) (some (some (.ref (He.ma K C m)))) && (PySem.W.isFn K (.ref (He.ma K C m)) && PySem.W.keepIn K (.ref (He.ma K C m)))
theorem methB_ok {K : PySem.W.Frag} {C : Addr} {m : Str} (h : methB K C m = true) : Meth K C m (He.ma K C m) := by
  obtain ⟨h1, h⟩ := He.ba h
  obtain ⟨h2, h3⟩ := He.ba h
  exact ⟨fB_ok h1, h2, h3⟩
def dunB (K : PySem.W.Frag) (C : Addr) (m : Str) : Bool := fB_ (PySem.W.findIn K (.ref C) m) (some (some (.ref (He.ma K C m)))) && (PySem.W.isFn K (.ref (He.ma K C m)) && PySem.W.fnIn K (He.ma K C m))
def mkB (K : PySem.W.Frag) (C : Addr) : Bool := PySem.W.makesIn K C && (fB_ (PySem.W.findIn K (.ref C) "__init__") (some (some (.ref (He.ma K C "__init__")))) && (PySem.W.isFn K (.ref (He.ma K C "__init__")) && PySem.W.keepIn K (.ref C)))
theorem mkB_ok {K : PySem.W.Frag} {C : Addr} (h : mkB K C = true) : Mk K C (He.ma K C "__init__") := by
  obtain ⟨h1, h⟩ := He.ba h
  obtain ⟨h2, h⟩ := He.ba h
  obtain ⟨h3, h4⟩ := He.ba h
  exact ⟨h1, fB_ok h2, h3, h4⟩
def supB (K : PySem.W.Frag) (C D : Addr) (m : Str) (v : Value) : Bool := decide (PySem.W.mroIn K C (.ref D) = some true) && fB_ (PySem.W.ks_superIn K C D m) (some (some v))
def supMB (K : PySem.W.Frag) (C D : Addr) (m : Str) (f : Addr) : Bool := supB K C D m (.ref f) && (decide (PySem.W.typeIn K (.ref f) = some (.type "function")) && (PySem.W.fnIn K f && fB_ (PySem.W.nsIn K cStatics "thirdparty.any") (some none)))
theorem supM_of {K : PySem.W.Frag} {C D : Addr} {m : Str} {f : Addr} (h : supMB K C D m f = true) : SupM K C D m f := by
  obtain ⟨h0, h⟩ := He.ba h
  obtain ⟨h1, h2⟩ := He.ba h0
  obtain ⟨h3, h⟩ := He.ba h
  obtain ⟨h4, h5⟩ := He.ba h
  exact ⟨of_decide_eq_true h1, fB_ok h2, of_decide_eq_true h3, h4, fB_ok h5⟩
def supBB (K : PySem.W.Frag) (C D : Addr) (id T : String) : Bool := supB K C D "__init__" (.builtin id) && (decide (PySem.W.mroIn K C (.type T) = some true) && fB_ (PySem.W.nsIn K cStatics "thirdparty.any") (some none))
theorem supB_of {K : PySem.W.Frag} {C D : Addr} {id T : String} (h : supBB K C D id T = true) : SupB K C D id T := by
  obtain ⟨h1, h⟩ := He.ba h
  obtain ⟨h2, h3⟩ := He.ba h
  obtain ⟨h4, h5⟩ := He.ba h1
  exact ⟨of_decide_eq_true h4, fB_ok h5, of_decide_eq_true h2, fB_ok h3⟩
def excB (K : PySem.W.Frag) (C : Addr) : Bool := match K.lookup C with
  | some ⟨.type t, _, .cls cd, sl⟩ => (match cd.mro, sl.toList with
    | .ref C' :: bm, [_, _, _, _, some (.builtin n), _] => decide (t = "type") && (decide (C' = C) && (decide (n = "ValueError.__new__") && (!cd.hasDel && (cd.hasDict && PySem.HandSPX.refsVE bm))))
    | _, _ => false)
  | _ => false
theorem excB_ok {K : PySem.W.Frag} {C : Addr} (h : excB K C = true) : ∃ nm q N bs bm sn sub ab col dd k0 k1 k2 k3 k5, K.lookup C = some (excClassObj nm q C N bs bm true sn sub ab col dd k0 k1 k2 k3 k5 "ValueError.__new__") ∧ PySem.HandSPX.refsVE bm = true := by
  unfold excB at h
  split at h
  · rename_i t dd cd sl ho
    split at h
    · rename_i C' bm k0 k1 k2 k3 n k5 hm hs
      obtain ⟨q1, h⟩ := He.ba h
      obtain ⟨q2, h⟩ := He.ba h
      obtain ⟨q3, h⟩ := He.ba h
      obtain ⟨q4, h⟩ := He.ba h
      obtain ⟨q5, q6⟩ := He.ba h
      have e1 : t = "type" := of_decide_eq_true q1
      have e2 : C' = C := of_decide_eq_true q2
      have e3 : n = "ValueError.__new__" := of_decide_eq_true q3
      have e4 : cd.hasDel = false := by simpa using q4
      subst e1 e2 e3
      obtain ⟨nm, bs, mro, ns, qn, hd, sn, sub, ab, col, del⟩ := cd
      dsimp only at hm e4 q5
      subst hm e4 q5
      obtain ⟨l⟩ := sl
      have e5 : l = [k0, k1, k2, k3, some (.builtin "ValueError.__new__"), k5] := hs
      subst e5
      exact ⟨nm, qn, ns, bs, bm, sn, sub, ab, col, dd, k0, k1, k2, k3, k5, ho, q6⟩
    · cases h
  · cases h
def oexB (K : PySem.W.Frag) (C : Addr) : Bool := excB K C && (fB_ (PySem.W.findIn K (.ref C) "__setattr__") (some (some (.builtin "object.__setattr__"))) && (decide (PySem.W.subIn K (.ref C) (.type "BaseException") = some true) && (decide (PySem.W.typeIn K (.ref C) = some (.type "type")) && PySem.W.keepIn K (.ref C))))
theorem oexB_ok {K : PySem.W.Frag} {C : Addr} (h : oexB K C = true) : OexC K C := by
  obtain ⟨h1, h⟩ := He.ba h
  obtain ⟨h2, h⟩ := He.ba h
  obtain ⟨h3, h⟩ := He.ba h
  obtain ⟨h4, h5⟩ := He.ba h
  exact ⟨excB_ok h1, fB_ok h2, of_decide_eq_true h3, of_decide_eq_true h4, h5⟩
def neB (K : PySem.W.Frag) (C : Addr) : Bool := fB_ (PySem.W.findIn K (.ref C) "__ne__") (some (some (.builtin "object.__ne__"))) && decide (PySem.W.mroIn K C (.type "object") = some true)
theorem neB_ok {K : PySem.W.Frag} {C : Addr} (h : neB K C = true) : NeC K C := by
  obtain ⟨h1, h2⟩ := He.ba h
  exact ⟨fB_ok h1, of_decide_eq_true h2⟩
/-! ### defs -/
abbrev FnS : Type := Option (Str × Str × Arguments × FuncBody × Scope × Addr × List Str × Addr)
def fnS (K : PySem.W.Frag) (a : Addr) : FnS := match K.lookup a with
  | some ⟨_, _, .func fd, _⟩ => some (fd.name, fd.qualname, fd.params, fd.body, fd.scope, fd.globals, fd.closure.map (·.1), fd.builtins)
  | _ => none
def noneB : Value → Bool
  | .none => true
  | _ => false
structure Df where
  at_ : PySem.W.Frag → Addr
  name : Str
  qual : Str
  st : Stmt
  cl : List Str := []
def Df.val (d : Df) : FnS := some (d.name, d.qual, defArgs d.st, .stmts (defBody d.st), defScope d.st, mainGlobals, d.cl, builtinsNs)
def Df.ok (K : PySem.W.Frag) (d : Df) : Bool := PySem.W.keepIn K (.ref (d.at_ K)) && (match K.lookup (d.at_ K) with
  | some ⟨_, _, .func fd, _⟩ => PySem.W.codeIn K fd.code d.qual && noneB fd.defaults
  | _ => false)
/-- the def as it stands in K -/
structure DfAt (K : PySem.W.Frag) (d : Df) (cl : List (Str × Addr)) (fd : FuncData) : Prop where
  kp : PySem.W.keepIn K (.ref (d.at_ K)) = true
  ex : ∃ (oc : Value) (od : Option Addr) (kV doc pm : Value) (an : Option Addr) (cdv ct : Value) (osl : Array (Option Value)),
    fd = PySem.W.fnX d.name d.qual (defArgs d.st) (defBody d.st) (defScope d.st) cl .none kV doc pm an cdv ct ∧ K.lookup (d.at_ K) = some ⟨oc, od, .func fd, osl⟩ ∧ PySem.W.codeIn K cdv d.qual = true
theorem Df.at {K : PySem.W.Frag} {d : Df} (e : fnS K (d.at_ K) = d.val) (c : d.ok K = true) : ∃ cl fd, DfAt K d cl fd ∧ cl.map (·.1) = d.cl := by
  obtain ⟨kp, c2⟩ := He.ba c
  unfold fnS at e
  cases q : K.lookup (d.at_ K) with
  | none =>
    rw [q] at c2
    cases c2
  | some o =>
    obtain ⟨oc, od, dt, osl⟩ := o
    rw [q] at c2 e
    cases dt with
    | func fd =>
      obtain ⟨n1, n2, n3, n4, n5, n6, n7, n8, n9, n10, n11, n12, n13, n14, n15⟩ := fd
      have e2 : (some (n1, n2, n3, n4, n5, n6, n7.map (·.1), n15) : FnS) = some (d.name, d.qual, defArgs d.st, .stmts (defBody d.st), defScope d.st, mainGlobals, d.cl, builtinsNs) := e
      simp only [Option.some.injEq, Prod.mk.injEq] at e2
      obtain ⟨h1, h2, h3, h4, h5, h6, h7, h8⟩ := e2
      subst h1 h2 h3 h4 h5 h6 h8
      obtain ⟨k1, k2⟩ := He.ba (show (PySem.W.codeIn K n13 d.qual && noneB n8) = true from c2)
      have e8 : n8 = .none := by
        cases n8 with
        | none => rfl
        | _ => cases k2
      subst e8
      exact ⟨n7, _, ⟨kp, oc, od, n9, n10, n11, n12, n13, n14, osl, rfl, q, k1⟩, h7⟩
    | _ => cases c2
theorem Df.plain {K : PySem.W.Frag} {d : Df} (e : fnS K (d.at_ K) = d.val) (c : d.ok K = true) (hc : d.cl = [] := by rfl) : ∃ fd, Fun K d.name d.qual d.st (d.at_ K) fd := by
  obtain ⟨cl, fd, ⟨kp, oc, od, kV, doc, pm, an, cdv, ct, osl, e1, e2, e3⟩, h⟩ := Df.at e c
  rw [hc] at h
  have e4 : cl = [] := List.map_eq_nil_iff.mp h
  subst e4
  exact ⟨fd, ⟨oc, od, kV, doc, pm, an, cdv, ct, osl, e1, e2, e3⟩, kp⟩
/-- the code object tells the file -/
def fileB (K : PySem.W.Frag) (file : Str) : Value → Bool
  | .ref c => (match K.lookup c with
    | some ⟨_, _, .fields vs, _⟩ => (match (vs[2]? : Option Value) with
      | some (.str x _) => file == x
      | _ => false)
    | _ => false)
  | _ => false
theorem fileB_ok {K : PySem.W.Frag} {file : Str} {v : Value} (h : fileB K file v = true) : ∃ c, v = .ref c ∧ ∃ (ccl : Value) (cdd : Option Addr) (vs : Array Value) (ccs : Array (Option Value)) (x : Str) (tf : Tok), K.lookup c = some ⟨ccl, cdd, .fields vs, ccs⟩ ∧ vs[2]? = some (.str x tf) ∧ (file == x) = true := by
  unfold fileB at h
  split at h
  · rename_i c
    split at h
    · rename_i ccl cdd vs ccs hc
      split at h
      · rename_i x tf hv
        exact ⟨c, rfl, ccl, cdd, vs, ccs, x, tf, hc, hv, h⟩
      · cases h
    · cases h
  · cases h
/-- the cell holds the class -/
def cellB (K : PySem.W.Frag) (D : Addr) : List (Str × Addr) → Bool
  | [(_, cc)] => (match K.lookup cc with
    | some ⟨_, _, .cell (some (.ref D')), _⟩ => decide (D' = D)
    | _ => false)
  | _ => false
theorem cellB_ok {K : PySem.W.Frag} {D : Addr} {y : Str} {cc : Addr} (h : cellB K D [(y, cc)] = true) : ∃ (cl : Value) (cld : Option Addr) (csl : Array (Option Value)), K.lookup cc = some ⟨cl, cld, .cell (some (.ref D)), csl⟩ := by
  have h : (match K.lookup cc with
    | some ⟨_, _, .cell (some (.ref D')), _⟩ => decide (D' = D)
    | _ => false) = true := h
  split at h
  · rename_i cl cld D' csl hcc
    have eD : D' = D := of_decide_eq_true h
    subst eD
    exact ⟨cl, cld, csl, hcc⟩
  · cases h
def sfB (K : PySem.W.Frag) (file : Str) (a D : Addr) : Bool := match K.lookup a with
  | some ⟨_, _, .func fd, _⟩ => fileB K file fd.code && (cellB K D fd.closure && (PySem.W.clsIn K D).isSome)
  | _ => false
theorem Df.sup {K : PySem.W.Frag} {d : Df} {file : Str} {D : Addr} (e : fnS K (d.at_ K) = d.val) (c : d.ok K = true) (s : sfB K file (d.at_ K) D = true) (hc : d.cl = [("__class__" : Str)] := by rfl) : ∃ fd, SFun K file d.name d.qual d.st (d.at_ K) fd D := by
  obtain ⟨cl, fd, ⟨kp, oc, od, kV, doc, pm, an, cdv, ct, osl, e1, e2, e3⟩, h⟩ := Df.at e c
  rw [hc] at h
  match cl, h, e1 with
  | [(y, cc)], h, e1 =>
    have ey : y = "__class__" := (List.cons.inj h).1
    subst ey
    unfold sfB at s
    rw [e2, e1] at s
    obtain ⟨s1, s2⟩ := He.ba s
    obtain ⟨s2, s3⟩ := He.ba s2
    obtain ⟨c', rfl, hf⟩ := fileB_ok (v := cdv) s1
    exact ⟨fd, ⟨oc, od, kV, doc, pm, an, c', ct, osl, cc, e1, e2, e3, hf, cellB_ok s2⟩, kp, Option.isSome_iff_exists.mp s3⟩
theorem Df.code {K : PySem.W.Frag} {d : Df} {mg : Str → Option Value} {x : Str} (e : fnS K (d.at_ K) = d.val) (c : d.ok K = true) (ha : d.at_ K = He.ga K x) (hn : d.name = x) (hq : d.qual = x) (hm : mg x = some (.ref (He.ga K x))) (hc : d.cl = [] := by rfl) : DnC K mg x d.st (He.cT K (x, none)).1 := by
  obtain ⟨cl, fd, ⟨kp, oc, od, kV, doc, pm, an, cdv, ct, osl, e1, e2, e3⟩, h⟩ := Df.at e c
  rw [hc] at h
  have e4 : cl = [] := List.map_eq_nil_iff.mp h
  subst e4
  obtain ⟨cd, rfl⟩ := He.codeIn_ref e3
  rw [ha] at e2 kp
  have e5 : He.codeOf K (x, none) = cd := He.codeOf_eq (p := (x, none)) e2 (by rw [e1])
  have e6 : (He.cT K (x, none)).1 = cd := e5
  rw [e6]
  subst e1
  rw [hn, hq] at e2
  rw [hq] at e3
  exact ⟨He.ga K x, oc, od, kV, doc, pm, an, ct, osl, e2, e3, kp, hm⟩
end K18
namespace K18
open PySem PySem.Spec PyProof.Rows L2 NdefX StX LamX
abbrev lawP : Program := PySem.Challenge.pw_modesdown_k18_whole_trees_tried
def mkfB (K : PySem.W.Frag) (C f : Addr) : Bool := PySem.W.makesIn K C && (fB_ (PySem.W.findIn K (.ref C) "__init__") (some (some (.ref f))) && (PySem.W.isFn K (.ref f) && PySem.W.keepIn K (.ref C)))
theorem mkfB_ok {K : PySem.W.Frag} {C f : Addr} (h : mkfB K C f = true) : Mk K C f := by
  obtain ⟨h1, h⟩ := He.ba h
  obtain ⟨h2, h⟩ := He.ba h
  obtain ⟨h3, h4⟩ := He.ba h
  exact ⟨h1, fB_ok h2, h3, h4⟩
def cA (K : PySem.W.Frag) : Ad := ⟨He.ga K "File", He.ga K "Folder", He.ga K "Mode", He.ga K "Tree", He.ga K "TreeTrial", He.ga K "Entry", He.ga K "Holder", He.ga K "NoEntry", He.ga K "ModesError"⟩
def fx_gF (K : PySem.W.Frag) : Bool := He.Fa.ok K (.glo "File")
def fx_gD (K : PySem.W.Frag) : Bool := He.Fa.ok K (.glo "Folder")
def fx_gM (K : PySem.W.Frag) : Bool := He.Fa.ok K (.glo "Mode")
def fx_gT (K : PySem.W.Frag) : Bool := He.Fa.ok K (.glo "Tree")
def fx_gTT (K : PySem.W.Frag) : Bool := He.Fa.ok K (.glo "TreeTrial")
def fx_gE (K : PySem.W.Frag) : Bool := He.Fa.ok K (.glo "Entry")
def fx_gHo (K : PySem.W.Frag) : Bool := He.Fa.ok K (.glo "Holder")
def fx_gNE (K : PySem.W.Frag) : Bool := He.Fa.ok K (.glo "NoEntry")
def fx_gME (K : PySem.W.Frag) : Bool := He.Fa.ok K (.glo "ModesError")
def fx_oF (K : PySem.W.Frag) : Bool := ownB K (He.ga K "File")
def fx_oD (K : PySem.W.Frag) : Bool := ownB K (He.ga K "Folder")
def fx_oM (K : PySem.W.Frag) : Bool := ownB K (He.ga K "Mode")
def fx_oT (K : PySem.W.Frag) : Bool := ownB K (He.ga K "Tree")
def fx_oTT (K : PySem.W.Frag) : Bool := ownB K (He.ga K "TreeTrial")
def fx_isMM (K : PySem.W.Frag) : Bool := kitB K (.ref (He.ga K "Mode")) (.ref (He.ga K "Mode")) true
def fx_isFH (K : PySem.W.Frag) : Bool := kitB K (.ref (He.ga K "File")) (.ref (He.ga K "Holder")) false
def fx_isDH (K : PySem.W.Frag) : Bool := kitB K (.ref (He.ga K "Folder")) (.ref (He.ga K "Holder")) true
def fx_isFE (K : PySem.W.Frag) : Bool := kitB K (.ref (He.ga K "File")) (.ref (He.ga K "Entry")) true
def fx_isDE (K : PySem.W.Frag) : Bool := kitB K (.ref (He.ga K "Folder")) (.ref (He.ga K "Entry")) true
def fx_isTT (K : PySem.W.Frag) : Bool := kitB K (.ref (He.ga K "Tree")) (.ref (He.ga K "Tree")) true
def fx_isIM (K : PySem.W.Frag) : Bool := kitB K (.type "int") (.ref (He.ga K "Mode")) false
def fx_naM (K : PySem.W.Frag) : Bool := naB K (He.ga K "Mode") "bits"
def fx_naF1 (K : PySem.W.Frag) : Bool := naB K (He.ga K "File") "mode_now"
def fx_naF2 (K : PySem.W.Frag) : Bool := naB K (He.ga K "File") "own_owner"
def fx_naF3 (K : PySem.W.Frag) : Bool := naB K (He.ga K "File") "own_group"
def fx_naD0 (K : PySem.W.Frag) : Bool := naB K (He.ga K "Folder") "below"
def fx_naD1 (K : PySem.W.Frag) : Bool := naB K (He.ga K "Folder") "mode_now"
def fx_naD2 (K : PySem.W.Frag) : Bool := naB K (He.ga K "Folder") "own_owner"
def fx_naD3 (K : PySem.W.Frag) : Bool := naB K (He.ga K "Folder") "own_group"
def fx_naT (K : PySem.W.Frag) : Bool := naB K (He.ga K "Tree") "top"
def fx_naTT1 (K : PySem.W.Frag) : Bool := naB K (He.ga K "TreeTrial") "subject"
def fx_naTT2 (K : PySem.W.Frag) : Bool := naB K (He.ga K "TreeTrial") "past"
def fx_naNE (K : PySem.W.Frag) : Bool := naB K (He.ga K "NoEntry") "path"
def fx_neM (K : PySem.W.Frag) : Bool := neB K (He.ga K "Mode")
def fx_neF (K : PySem.W.Frag) : Bool := neB K (He.ga K "File")
def fx_neD (K : PySem.W.Frag) : Bool := neB K (He.ga K "Folder")
def fx_neT (K : PySem.W.Frag) : Bool := neB K (He.ga K "Tree")
def fx_nm (K : PySem.W.Frag) : Bool := decide (PySem.W.exmOne K (.ref (He.ga K "NoEntry")) (.ref (He.ga K "ModesError")) = some true)
def fx_km (K : PySem.W.Frag) : Bool := decide (PySem.W.exmOne K (.type "KeyError") (.ref (He.ga K "ModesError")) = some false)
def fx_nsq (K : PySem.W.Frag) : Bool := PySem.W.noSeq K (He.ga K "Tree")
def fx_mkF (K : PySem.W.Frag) : Bool := mkfB K (He.ga K "File") (He.ma K (He.ga K "Entry") "__init__")
def fx_mkD (K : PySem.W.Frag) : Bool := mkfB K (He.ga K "Folder") (He.ma K (He.ga K "Folder") "__init__")
def fx_mkM (K : PySem.W.Frag) : Bool := mkfB K (He.ga K "Mode") (He.ma K (He.ga K "Mode") "__init__")
def fx_mkT (K : PySem.W.Frag) : Bool := mkfB K (He.ga K "Tree") (He.ma K (He.ga K "Tree") "__init__")
def fx_mkTT (K : PySem.W.Frag) : Bool := mkfB K (He.ga K "TreeTrial") (He.ma K (He.ga K "TreeTrial") "__init__")
def fx_supDD (K : PySem.W.Frag) : Bool := supMB K (He.ga K "Folder") (He.ga K "Folder") "__init__" (He.ma K (He.ga K "Entry") "__init__")
def fx_keepE (K : PySem.W.Frag) : Bool := PySem.W.keepIn K (.ref (He.ma K (He.ga K "Entry") "__init__"))
def fx_supDE (K : PySem.W.Frag) : Bool := supMB K (He.ga K "Folder") (He.ga K "Entry") "__init__" (He.ma K (He.ga K "Holder") "__init__")
def fx_supFE (K : PySem.W.Frag) : Bool := supBB K (He.ga K "File") (He.ga K "Entry") "object.__init__" "object"
def fx_sfE (K : PySem.W.Frag) : Bool := sfB K lawP.main.file (He.ma K (He.ga K "Entry") "__init__") (He.ga K "Entry")
def fx_sfD (K : PySem.W.Frag) : Bool := sfB K lawP.main.file (He.ma K (He.ga K "Folder") "__init__") (He.ga K "Folder")
def fx_sfN (K : PySem.W.Frag) : Bool := sfB K lawP.main.file (He.ma K (He.ga K "NoEntry") "__init__") (He.ga K "NoEntry")
def fx_oex (K : PySem.W.Frag) : Bool := oexB K (He.ga K "NoEntry")
def fx_iNE (K : PySem.W.Frag) : Bool := fB_ (PySem.W.findIn K (.ref (He.ga K "NoEntry")) "__init__") (some (some (.ref (He.ma K (He.ga K "NoEntry") "__init__"))))
def fx_tNE (K : PySem.W.Frag) : Bool := decide (PySem.W.typeIn K (.ref (He.ma K (He.ga K "NoEntry") "__init__")) = some (.type "function"))
def fx_supNE (K : PySem.W.Frag) : Bool := supBB K (He.ga K "NoEntry") (He.ga K "NoEntry") "ValueError.__init__" "ValueError"
def fx_m_D_names (K : PySem.W.Frag) : Bool := methB K (He.ga K "Folder") "names"
def fx_m_D_put (K : PySem.W.Frag) : Bool := methB K (He.ga K "Folder") "put"
def fx_m_D_set_mode (K : PySem.W.Frag) : Bool := methB K (He.ga K "Folder") "set_mode"
def fx_m_F_set_mode (K : PySem.W.Frag) : Bool := methB K (He.ga K "File") "set_mode"
def fx_m_T_entry (K : PySem.W.Frag) : Bool := methB K (He.ga K "Tree") "entry"
def fx_m_T_entries (K : PySem.W.Frag) : Bool := methB K (He.ga K "Tree") "entries"
def fx_m_T_rows (K : PySem.W.Frag) : Bool := methB K (He.ga K "Tree") "rows"
def fx_m_T_put (K : PySem.W.Frag) : Bool := methB K (He.ga K "Tree") "put"
def fx_m_T_take_out (K : PySem.W.Frag) : Bool := methB K (He.ga K "Tree") "take_out"
def fx_m_T_size (K : PySem.W.Frag) : Bool := methB K (He.ga K "Tree") "size"
def fx_m_T_trial (K : PySem.W.Frag) : Bool := methB K (He.ga K "Tree") "trial"
def fx_m_T_attempt (K : PySem.W.Frag) : Bool := methB K (He.ga K "Tree") "attempt"
def fx_d_M_eq (K : PySem.W.Frag) : Bool := dunB K (He.ga K "Mode") "__eq__"
def fx_d_D_contains (K : PySem.W.Frag) : Bool := dunB K (He.ga K "Folder") "__contains__"
def fx_d_D_getitem (K : PySem.W.Frag) : Bool := dunB K (He.ga K "Folder") "__getitem__"
def fx_d_F_eq (K : PySem.W.Frag) : Bool := dunB K (He.ga K "File") "__eq__"
def fx_d_D_eq (K : PySem.W.Frag) : Bool := dunB K (He.ga K "Folder") "__eq__"
def fx_d_TT_enter (K : PySem.W.Frag) : Bool := dunB K (He.ga K "TreeTrial") "__enter__"
def fx_d_TT_exit (K : PySem.W.Frag) : Bool := dunB K (He.ga K "TreeTrial") "__exit__"
def fx_d_T_setitem (K : PySem.W.Frag) : Bool := dunB K (He.ga K "Tree") "__setitem__"
def fx_d_T_eq (K : PySem.W.Frag) : Bool := dunB K (He.ga K "Tree") "__eq__"
def fx_p_M_number (K : PySem.W.Frag) : Bool := propB K (He.ga K "Mode") "number"
def fx_p_F_mode (K : PySem.W.Frag) : Bool := propB K (He.ga K "File") "mode"
def fx_p_F_owner (K : PySem.W.Frag) : Bool := propB K (He.ga K "File") "owner"
def fx_p_F_group (K : PySem.W.Frag) : Bool := propB K (He.ga K "File") "group"
def fx_p_F_form (K : PySem.W.Frag) : Bool := propB K (He.ga K "File") "form"
def fx_p_D_mode (K : PySem.W.Frag) : Bool := propB K (He.ga K "Folder") "mode"
def fx_p_D_owner (K : PySem.W.Frag) : Bool := propB K (He.ga K "Folder") "owner"
def fx_p_D_group (K : PySem.W.Frag) : Bool := propB K (He.ga K "Folder") "group"
def fx_p_D_form (K : PySem.W.Frag) : Bool := propB K (He.ga K "Folder") "form"
def fx_q_is_name (K : PySem.W.Frag) : Bool := He.Fa.ok K (.glo "is_name")
def fx_q_is_integer (K : PySem.W.Frag) : Bool := He.Fa.ok K (.glo "is_integer")
def fx_q_is_path (K : PySem.W.Frag) : Bool := He.Fa.ok K (.glo "is_path")
def fx_q_names_of (K : PySem.W.Frag) : Bool := He.Fa.ok K (.glo "names_of")
def fx_q_number_of (K : PySem.W.Frag) : Bool := He.Fa.ok K (.glo "number_of")
def fx_q_size_of (K : PySem.W.Frag) : Bool := He.Fa.ok K (.glo "size_of")
def fx_q_copied (K : PySem.W.Frag) : Bool := He.Fa.ok K (.glo "copied")
def fx_q_found_below (K : PySem.W.Frag) : Bool := He.Fa.ok K (.glo "found_below")
def fx_q_joined (K : PySem.W.Frag) : Bool := He.Fa.ok K (.glo "joined")
def fx_q__law_pen (K : PySem.W.Frag) : Bool := He.Fa.ok K (.glo "_law_pen")
def fx_q__law_draw (K : PySem.W.Frag) : Bool := He.Fa.ok K (.glo "_law_draw")
def fx_q__law_pick (K : PySem.W.Frag) : Bool := He.Fa.ok K (.glo "_law_pick")
def fx_q__law_drawn_mode (K : PySem.W.Frag) : Bool := He.Fa.ok K (.glo "_law_drawn_mode")
def fx_q__law_drawn_rows (K : PySem.W.Frag) : Bool := He.Fa.ok K (.glo "_law_drawn_rows")
def fx_q__law_made_entry (K : PySem.W.Frag) : Bool := He.Fa.ok K (.glo "_law_made_entry")
def fx_q__law_made_tree (K : PySem.W.Frag) : Bool := He.Fa.ok K (.glo "_law_made_tree")
def fx_q__law_told_rows (K : PySem.W.Frag) : Bool := He.Fa.ok K (.glo "_law_told_rows")
def fx_q__law_less (K : PySem.W.Frag) : Bool := He.Fa.ok K (.glo "_law_less")
def fx_q__law_one_deed (K : PySem.W.Frag) : Bool := He.Fa.ok K (.glo "_law_one_deed")
def fx_q__law_deeds (K : PySem.W.Frag) : Bool := He.Fa.ok K (.glo "_law_deeds")
def fx_q__law_attempt (K : PySem.W.Frag) : Bool := He.Fa.ok K (.glo "_law_attempt")
def fx_q_law (K : PySem.W.Frag) : Bool := He.Fa.ok K (.glo "law")
def fx_f_isinstance (K : PySem.W.Frag) : Bool := He.Fa.ok K (.free "isinstance")
def fx_f_str (K : PySem.W.Frag) : Bool := He.Fa.ok K (.free "str")
def fx_f_int (K : PySem.W.Frag) : Bool := He.Fa.ok K (.free "int")
def fx_f_bool (K : PySem.W.Frag) : Bool := He.Fa.ok K (.free "bool")
def fx_f_len (K : PySem.W.Frag) : Bool := He.Fa.ok K (.free "len")
def fx_f_all (K : PySem.W.Frag) : Bool := He.Fa.ok K (.free "all")
def fx_f_tuple (K : PySem.W.Frag) : Bool := He.Fa.ok K (.free "tuple")
def fx_f_list (K : PySem.W.Frag) : Bool := He.Fa.ok K (.free "list")
def fx_f_sorted (K : PySem.W.Frag) : Bool := He.Fa.ok K (.free "sorted")
def fx_f_sum (K : PySem.W.Frag) : Bool := He.Fa.ok K (.free "sum")
def fx_f_reversed (K : PySem.W.Frag) : Bool := He.Fa.ok K (.free "reversed")
def fx_f_range (K : PySem.W.Frag) : Bool := He.Fa.ok K (.free "range")
def fx_f_abs (K : PySem.W.Frag) : Bool := He.Fa.ok K (.free "abs")
def fx_f_repr (K : PySem.W.Frag) : Bool := He.Fa.ok K (.free "repr")
def fx_f_KeyError (K : PySem.W.Frag) : Bool := He.Fa.ok K (.free "KeyError")
def fx_f_super (K : PySem.W.Frag) : Bool := He.Fa.ok K (.free "super")
def fx_letters (K : PySem.W.Frag) : Bool := He.Fa.ok K (.str "LETTERS" letters)
def fx_longest (K : PySem.W.Frag) : Bool := He.Fa.ok K (.int "LONGEST_NAME" 8)
def fx_greatest (K : PySem.W.Frag) : Bool := He.Fa.ok K (.int "GREATEST" 511)
def fx_most (K : PySem.W.Frag) : Bool := He.Fa.ok K (.int "MOST_ENTRIES" 60)
def fx_tne (K : PySem.W.Frag) : Bool := !decide ((He.cT K ("_law_attempt", none)).2 = (He.cT K ("law", none)).2)
def fxs0 : List (PySem.W.Frag → Bool) := [fx_gF, fx_gD, fx_gM, fx_gT, fx_gTT, fx_gE, fx_gHo, fx_gNE, fx_gME, fx_oF, fx_oD, fx_oM, fx_oT, fx_oTT, fx_isMM, fx_isFH, fx_isDH, fx_isFE, fx_isDE, fx_isTT]
def fxs1 : List (PySem.W.Frag → Bool) := [fx_isIM, fx_naM, fx_naF1, fx_naF2, fx_naF3, fx_naD0, fx_naD1, fx_naD2, fx_naD3, fx_naT, fx_naTT1, fx_naTT2, fx_naNE, fx_neM, fx_neF, fx_neD, fx_neT, fx_nm, fx_km, fx_nsq]
def fxs2 : List (PySem.W.Frag → Bool) := [fx_mkF, fx_mkD, fx_mkM, fx_mkT, fx_mkTT, fx_supDD, fx_keepE, fx_supDE, fx_supFE, fx_sfE, fx_sfD, fx_sfN, fx_oex, fx_iNE, fx_tNE, fx_supNE, fx_m_D_names, fx_m_D_put, fx_m_D_set_mode, fx_m_F_set_mode]
def fxs3 : List (PySem.W.Frag → Bool) := [fx_m_T_entry, fx_m_T_entries, fx_m_T_rows, fx_m_T_put, fx_m_T_take_out, fx_m_T_size, fx_m_T_trial, fx_m_T_attempt, fx_d_M_eq, fx_d_D_contains, fx_d_D_getitem, fx_d_F_eq, fx_d_D_eq, fx_d_TT_enter, fx_d_TT_exit, fx_d_T_setitem, fx_d_T_eq, fx_p_M_number, fx_p_F_mode, fx_p_F_owner]
def fxs4 : List (PySem.W.Frag → Bool) := [fx_p_F_group, fx_p_F_form, fx_p_D_mode, fx_p_D_owner, fx_p_D_group, fx_p_D_form, fx_q_is_name, fx_q_is_integer, fx_q_is_path, fx_q_names_of, fx_q_number_of, fx_q_size_of, fx_q_copied, fx_q_found_below, fx_q_joined, fx_q__law_pen, fx_q__law_draw, fx_q__law_pick, fx_q__law_drawn_mode, fx_q__law_drawn_rows]
def fxs5 : List (PySem.W.Frag → Bool) := [fx_q__law_made_entry, fx_q__law_made_tree, fx_q__law_told_rows, fx_q__law_less, fx_q__law_one_deed, fx_q__law_deeds, fx_q__law_attempt, fx_q_law, fx_f_isinstance, fx_f_str, fx_f_int, fx_f_bool, fx_f_len, fx_f_all, fx_f_tuple, fx_f_list, fx_f_sorted, fx_f_sum, fx_f_reversed, fx_f_range]
def fxs6 : List (PySem.W.Frag → Bool) := [fx_f_abs, fx_f_repr, fx_f_KeyError, fx_f_super, fx_letters, fx_longest, fx_greatest, fx_most, fx_tne]
def fxs : List (List (PySem.W.Frag → Bool)) := [fxs0, fxs1, fxs2, fxs3, fxs4, fxs5, fxs6]
def df_m_D_names : Df := ⟨fun K => (He.ma K (He.ga K "Folder") "names"), "names", "Holder.names", s_Holder_names, []⟩
def df_m_D_put : Df := ⟨fun K => (He.ma K (He.ga K "Folder") "put"), "put", "Holder.put", s_Holder_put, []⟩
def df_m_D_set_mode : Df := ⟨fun K => (He.ma K (He.ga K "Folder") "set_mode"), "set_mode", "Entry.set_mode", s_Entry_set_mode, []⟩
def df_m_F_set_mode : Df := ⟨fun K => (He.ma K (He.ga K "File") "set_mode"), "set_mode", "Entry.set_mode", s_Entry_set_mode, []⟩
def df_m_T_entry : Df := ⟨fun K => (He.ma K (He.ga K "Tree") "entry"), "entry", "Tree.entry", s_Tree_entry, []⟩
def df_m_T_entries : Df := ⟨fun K => (He.ma K (He.ga K "Tree") "entries"), "entries", "Tree.entries", s_Tree_entries, []⟩
def df_m_T_rows : Df := ⟨fun K => (He.ma K (He.ga K "Tree") "rows"), "rows", "Tree.rows", s_Tree_rows, []⟩
def df_m_T_put : Df := ⟨fun K => (He.ma K (He.ga K "Tree") "put"), "put", "Tree.put", s_Tree_put, []⟩
def df_m_T_take_out : Df := ⟨fun K => (He.ma K (He.ga K "Tree") "take_out"), "take_out", "Tree.take_out", s_Tree_take_out, []⟩
def df_m_T_size : Df := ⟨fun K => (He.ma K (He.ga K "Tree") "size"), "size", "Tree.size", s_Tree_size, []⟩
def df_m_T_trial : Df := ⟨fun K => (He.ma K (He.ga K "Tree") "trial"), "trial", "Tree.trial", s_Tree_trial, []⟩
def df_m_T_attempt : Df := ⟨fun K => (He.ma K (He.ga K "Tree") "attempt"), "attempt", "Tree.attempt", s_Tree_attempt, []⟩
def df_d_M_eq : Df := ⟨fun K => (He.ma K (He.ga K "Mode") "__eq__"), "__eq__", "Mode.__eq__", s_Mode_eq, []⟩
def df_d_D_contains : Df := ⟨fun K => (He.ma K (He.ga K "Folder") "__contains__"), "__contains__", "Holder.__contains__", s_Holder_contains, []⟩
def df_d_D_getitem : Df := ⟨fun K => (He.ma K (He.ga K "Folder") "__getitem__"), "__getitem__", "Holder.__getitem__", s_Holder_getitem, []⟩
def df_d_F_eq : Df := ⟨fun K => (He.ma K (He.ga K "File") "__eq__"), "__eq__", "Entry.__eq__", s_Entry_eq, []⟩
def df_d_D_eq : Df := ⟨fun K => (He.ma K (He.ga K "Folder") "__eq__"), "__eq__", "Entry.__eq__", s_Entry_eq, []⟩
def df_d_TT_enter : Df := ⟨fun K => (He.ma K (He.ga K "TreeTrial") "__enter__"), "__enter__", "TreeTrial.__enter__", s_TreeTrial_enter, []⟩
def df_d_TT_exit : Df := ⟨fun K => (He.ma K (He.ga K "TreeTrial") "__exit__"), "__exit__", "TreeTrial.__exit__", s_TreeTrial_exit, []⟩
def df_d_T_setitem : Df := ⟨fun K => (He.ma K (He.ga K "Tree") "__setitem__"), "__setitem__", "Tree.__setitem__", s_Tree_setitem, []⟩
def df_d_T_eq : Df := ⟨fun K => (He.ma K (He.ga K "Tree") "__eq__"), "__eq__", "Tree.__eq__", s_Tree_eq, []⟩
def df_p_M_number : Df := ⟨fun K => (pA K (He.ga K "Mode") "number"), "number", "Mode.number", s_Mode_number, []⟩
def df_p_F_mode : Df := ⟨fun K => (pA K (He.ga K "File") "mode"), "mode", "Entry.mode", s_Entry_mode, []⟩
def df_p_F_owner : Df := ⟨fun K => (pA K (He.ga K "File") "owner"), "owner", "Entry.owner", s_Entry_owner, []⟩
def df_p_F_group : Df := ⟨fun K => (pA K (He.ga K "File") "group"), "group", "Entry.group", s_Entry_group, []⟩
def df_p_F_form : Df := ⟨fun K => (pA K (He.ga K "File") "form"), "form", "Entry.form", s_Entry_form, []⟩
def df_p_D_mode : Df := ⟨fun K => (pA K (He.ga K "Folder") "mode"), "mode", "Entry.mode", s_Entry_mode, []⟩
def df_p_D_owner : Df := ⟨fun K => (pA K (He.ga K "Folder") "owner"), "owner", "Entry.owner", s_Entry_owner, []⟩
def df_p_D_group : Df := ⟨fun K => (pA K (He.ga K "Folder") "group"), "group", "Entry.group", s_Entry_group, []⟩
def df_p_D_form : Df := ⟨fun K => (pA K (He.ga K "Folder") "form"), "form", "Entry.form", s_Entry_form, []⟩
def df_i_M : Df := ⟨fun K => (He.ma K (He.ga K "Mode") "__init__"), "__init__", "Mode.__init__", s_Mode_init, []⟩
def df_i_T : Df := ⟨fun K => (He.ma K (He.ga K "Tree") "__init__"), "__init__", "Tree.__init__", s_Tree_init, []⟩
def df_i_TT : Df := ⟨fun K => (He.ma K (He.ga K "TreeTrial") "__init__"), "__init__", "TreeTrial.__init__", s_TreeTrial_init, []⟩
def df_i_Ho : Df := ⟨fun K => (He.ma K (He.ga K "Holder") "__init__"), "__init__", "Holder.__init__", s_Holder_init, []⟩
def df_i_E : Df := ⟨fun K => (He.ma K (He.ga K "Entry") "__init__"), "__init__", "Entry.__init__", s_Entry_init, ["__class__"]⟩
def df_i_D : Df := ⟨fun K => (He.ma K (He.ga K "Folder") "__init__"), "__init__", "Folder.__init__", s_Folder_init, ["__class__"]⟩
def df_i_NE : Df := ⟨fun K => (He.ma K (He.ga K "NoEntry") "__init__"), "__init__", "NoEntry.__init__", s_NoEntry_init, ["__class__"]⟩
def df_q_is_name : Df := ⟨fun K => (He.ga K "is_name"), "is_name", "is_name", s_is_name, []⟩
def df_q_is_integer : Df := ⟨fun K => (He.ga K "is_integer"), "is_integer", "is_integer", s_is_integer, []⟩
def df_q_is_path : Df := ⟨fun K => (He.ga K "is_path"), "is_path", "is_path", s_is_path, []⟩
def df_q_names_of : Df := ⟨fun K => (He.ga K "names_of"), "names_of", "names_of", s_names_of, []⟩
def df_q_number_of : Df := ⟨fun K => (He.ga K "number_of"), "number_of", "number_of", s_number_of, []⟩
def df_q_size_of : Df := ⟨fun K => (He.ga K "size_of"), "size_of", "size_of", s_size_of, []⟩
def df_q_copied : Df := ⟨fun K => (He.ga K "copied"), "copied", "copied", s_copied, []⟩
def df_q_found_below : Df := ⟨fun K => (He.ga K "found_below"), "found_below", "found_below", s_found_below, []⟩
def df_q_joined : Df := ⟨fun K => (He.ga K "joined"), "joined", "joined", s_joined, []⟩
def df_q__law_pen : Df := ⟨fun K => (He.ga K "_law_pen"), "_law_pen", "_law_pen", s_law_pen, []⟩
def df_q__law_draw : Df := ⟨fun K => (He.ga K "_law_draw"), "_law_draw", "_law_draw", s_law_draw, []⟩
def df_q__law_pick : Df := ⟨fun K => (He.ga K "_law_pick"), "_law_pick", "_law_pick", s_law_pick, []⟩
def df_q__law_drawn_mode : Df := ⟨fun K => (He.ga K "_law_drawn_mode"), "_law_drawn_mode", "_law_drawn_mode", s_law_drawn_mode, []⟩
def df_q__law_drawn_rows : Df := ⟨fun K => (He.ga K "_law_drawn_rows"), "_law_drawn_rows", "_law_drawn_rows", s_law_drawn_rows, []⟩
def df_q__law_made_entry : Df := ⟨fun K => (He.ga K "_law_made_entry"), "_law_made_entry", "_law_made_entry", s_law_made_entry, []⟩
def df_q__law_made_tree : Df := ⟨fun K => (He.ga K "_law_made_tree"), "_law_made_tree", "_law_made_tree", s_law_made_tree, []⟩
def df_q__law_told_rows : Df := ⟨fun K => (He.ga K "_law_told_rows"), "_law_told_rows", "_law_told_rows", s_law_told_rows, []⟩
def df_q__law_less : Df := ⟨fun K => (He.ga K "_law_less"), "_law_less", "_law_less", s_law_less, []⟩
def df_q__law_one_deed : Df := ⟨fun K => (He.ga K "_law_one_deed"), "_law_one_deed", "_law_one_deed", s_law_one_deed, []⟩
def df_q__law_deeds : Df := ⟨fun K => (He.ga K "_law_deeds"), "_law_deeds", "_law_deeds", s_law_deeds, []⟩
def df_q__law_attempt : Df := ⟨fun K => (He.ga K "_law_attempt"), "_law_attempt", "_law_attempt", s_law_attempt, []⟩
def df_q_law : Df := ⟨fun K => (He.ga K "law"), "law", "law", s_law, []⟩
def dfs0 : List Df := [df_m_D_names, df_m_D_put, df_m_D_set_mode, df_m_F_set_mode, df_m_T_entry, df_m_T_entries, df_m_T_rows, df_m_T_put, df_m_T_take_out, df_m_T_size, df_m_T_trial, df_m_T_attempt, df_d_M_eq, df_d_D_contains, df_d_D_getitem, df_d_F_eq, df_d_D_eq, df_d_TT_enter, df_d_TT_exit, df_d_T_setitem]
def dfs1 : List Df := [df_d_T_eq, df_p_M_number, df_p_F_mode, df_p_F_owner, df_p_F_group, df_p_F_form, df_p_D_mode, df_p_D_owner, df_p_D_group, df_p_D_form, df_i_M, df_i_T, df_i_TT, df_i_Ho, df_i_E, df_i_D, df_i_NE, df_q_is_name, df_q_is_integer, df_q_is_path]
def dfs2 : List Df := [df_q_names_of, df_q_number_of, df_q_size_of, df_q_copied, df_q_found_below, df_q_joined, df_q__law_pen, df_q__law_draw, df_q__law_pick, df_q__law_drawn_mode, df_q__law_drawn_rows, df_q__law_made_entry, df_q__law_made_tree, df_q__law_told_rows, df_q__law_less, df_q__law_one_deed, df_q__law_deeds, df_q__law_attempt, df_q_law]
def dfs : List (List Df) := [dfs0, dfs1, dfs2]
/-- what is told of K -/
structure Told (K : PySem.W.Frag) : Prop where
  fx : (fxs.all fun l => l.all fun f => f K) = true
  ok : (dfs.all fun l => l.all fun d => d.ok K) = true
  vl : (dfs.map fun l => l.map fun d => fnS K (d.at_ K)) = dfs.map fun l => l.map Df.val
section
variable {K : PySem.W.Frag}
theorem Told.f (t : Told K) (i j : Nat) {l : List (PySem.W.Frag → Bool)} {f : PySem.W.Frag → Bool} (h1 : fxs[i]? = some l) (h2 : l[j]? = some f) : f K = true :=
  List.all_eq_true.mp (List.all_eq_true.mp t.fx l (List.mem_of_getElem? h1)) f (List.mem_of_getElem? h2)
theorem Told.o (t : Told K) (i j : Nat) {l : List Df} {d : Df} (h1 : dfs[i]? = some l) (h2 : l[j]? = some d) : d.ok K = true :=
  List.all_eq_true.mp (List.all_eq_true.mp t.ok l (List.mem_of_getElem? h1)) d (List.mem_of_getElem? h2)
theorem Told.v (t : Told K) (i j : Nat) {l : List Df} {d : Df} (h1 : dfs[i]? = some l) (h2 : l[j]? = some d) : fnS K (d.at_ K) = d.val := by
  have e := congrArg (fun z : List (List FnS) => z[i]?) t.vl
  try dsimp only at e
  rw [List.getElem?_map, List.getElem?_map, h1] at e
  have e2 := congrArg (fun z : List FnS => z[j]?) (Option.some.inj e)
  try dsimp only at e2
  rw [List.getElem?_map, List.getElem?_map, h2] at e2
  exact Option.some.inj e2
variable {h : Heap} {mg : Str → Option Value}
theorem t_bt (X : K.In h) (G : h.Ns mainGlobals mg) (t : Told K) : Bt mg :=
  ⟨He.free_ok X G (t.f 5 8 (f := fx_f_isinstance) rfl rfl), He.free_ok X G (t.f 5 9 (f := fx_f_str) rfl rfl), He.free_ok X G (t.f 5 10 (f := fx_f_int) rfl rfl), He.free_ok X G (t.f 5 11 (f := fx_f_bool) rfl rfl), He.free_ok X G (t.f 5 12 (f := fx_f_len) rfl rfl), He.free_ok X G (t.f 5 13 (f := fx_f_all) rfl rfl), He.free_ok X G (t.f 5 14 (f := fx_f_tuple) rfl rfl), He.free_ok X G (t.f 5 15 (f := fx_f_list) rfl rfl), He.free_ok X G (t.f 5 16 (f := fx_f_sorted) rfl rfl), He.free_ok X G (t.f 5 17 (f := fx_f_sum) rfl rfl), He.free_ok X G (t.f 5 18 (f := fx_f_reversed) rfl rfl), He.free_ok X G (t.f 5 19 (f := fx_f_range) rfl rfl), He.free_ok X G (t.f 6 0 (f := fx_f_abs) rfl rfl), He.free_ok X G (t.f 6 1 (f := fx_f_repr) rfl rfl), He.free_ok X G (t.f 6 2 (f := fx_f_KeyError) rfl rfl), He.free_ok X G (t.f 6 3 (f := fx_f_super) rfl rfl), He.str_ok X G (t.f 6 4 (f := fx_letters) rfl rfl), He.int_ok X G (t.f 6 5 (f := fx_longest) rfl rfl), He.int_ok X G (t.f 6 6 (f := fx_greatest) rfl rfl), He.int_ok X G (t.f 6 7 (f := fx_most) rfl rfl)⟩
theorem t_cs (X : K.In h) (G : h.Ns mainGlobals mg) (t : Told K) : Cs K mg (cA K) :=
  ⟨(He.glo_ok X G (t.f 0 0 (f := fx_gF) rfl rfl)), (He.glo_ok X G (t.f 0 1 (f := fx_gD) rfl rfl)), (He.glo_ok X G (t.f 0 2 (f := fx_gM) rfl rfl)), (He.glo_ok X G (t.f 0 3 (f := fx_gT) rfl rfl)), (He.glo_ok X G (t.f 0 4 (f := fx_gTT) rfl rfl)), (He.glo_ok X G (t.f 0 5 (f := fx_gE) rfl rfl)), (He.glo_ok X G (t.f 0 6 (f := fx_gHo) rfl rfl)), (He.glo_ok X G (t.f 0 7 (f := fx_gNE) rfl rfl)), (He.glo_ok X G (t.f 0 8 (f := fx_gME) rfl rfl)), ownB_ok (t.f 0 9 (f := fx_oF) rfl rfl), ownB_ok (t.f 0 10 (f := fx_oD) rfl rfl), ownB_ok (t.f 0 11 (f := fx_oM) rfl rfl), ownB_ok (t.f 0 12 (f := fx_oT) rfl rfl), ownB_ok (t.f 0 13 (f := fx_oTT) rfl rfl), kitB_ok (t.f 0 14 (f := fx_isMM) rfl rfl), kitB_ok (t.f 1 0 (f := fx_isIM) rfl rfl), kitB_ok (t.f 0 15 (f := fx_isFH) rfl rfl), kitB_ok (t.f 0 16 (f := fx_isDH) rfl rfl), kitB_ok (t.f 0 17 (f := fx_isFE) rfl rfl), kitB_ok (t.f 0 18 (f := fx_isDE) rfl rfl), kitB_ok (t.f 0 19 (f := fx_isTT) rfl rfl), naB_ok (t.f 1 1 (f := fx_naM) rfl rfl), naB_ok (t.f 1 2 (f := fx_naF1) rfl rfl), naB_ok (t.f 1 3 (f := fx_naF2) rfl rfl), naB_ok (t.f 1 4 (f := fx_naF3) rfl rfl), naB_ok (t.f 1 5 (f := fx_naD0) rfl rfl), naB_ok (t.f 1 6 (f := fx_naD1) rfl rfl), naB_ok (t.f 1 7 (f := fx_naD2) rfl rfl), naB_ok (t.f 1 8 (f := fx_naD3) rfl rfl), naB_ok (t.f 1 9 (f := fx_naT) rfl rfl), naB_ok (t.f 1 10 (f := fx_naTT1) rfl rfl), naB_ok (t.f 1 11 (f := fx_naTT2) rfl rfl)⟩
theorem t_eqc (t : Told K) : Eqc K (cA K) := ⟨neB_ok (t.f 1 13 (f := fx_neM) rfl rfl), neB_ok (t.f 1 14 (f := fx_neF) rfl rfl), neB_ok (t.f 1 15 (f := fx_neD) rfl rfl), neB_ok (t.f 1 16 (f := fx_neT) rfl rfl)⟩
theorem t_er (t : Told K) : Er K (cA K) := ⟨of_decide_eq_true (t.f 1 17 (f := fx_nm) rfl rfl), of_decide_eq_true (t.f 1 18 (f := fx_km) rfl rfl)⟩
theorem t_tne (t : Told K) : (He.cT K ("_law_attempt", none)).2 ≠ (He.cT K ("law", none)).2 := of_decide_eq_false (by simpa [fx_tne] using (t.f 6 8 (f := fx_tne) rfl rfl))
theorem t_nsq (t : Told K) : PySem.W.noSeq K (cA K).T = true := (t.f 1 19 (f := fx_nsq) rfl rfl)
theorem t_cc (X : K.In h) (G : h.Ns mainGlobals mg) (t : Told K) : Cc lawP K mg (cA K) := by
  obtain ⟨fdE, FE⟩ := Df.sup (t.v 1 14 (d := df_i_E) rfl rfl) (t.o 1 14 (d := df_i_E) rfl rfl) (t.f 2 9 (f := fx_sfE) rfl rfl)
  obtain ⟨fdD, FD⟩ := Df.sup (t.v 1 15 (d := df_i_D) rfl rfl) (t.o 1 15 (d := df_i_D) rfl rfl) (t.f 2 10 (f := fx_sfD) rfl rfl)
  obtain ⟨fdH, FH⟩ := Df.plain (t.v 1 13 (d := df_i_Ho) rfl rfl) (t.o 1 13 (d := df_i_Ho) rfl rfl)
  exact ⟨⟨_, fdE, FE, mkfB_ok (t.f 2 0 (f := fx_mkF) rfl rfl), supM_of (t.f 2 5 (f := fx_supDD) rfl rfl), (t.f 2 6 (f := fx_keepE) rfl rfl)⟩, ⟨_, fdD, FD, mkfB_ok (t.f 2 1 (f := fx_mkD) rfl rfl)⟩, ⟨_, fdH, FH, supM_of (t.f 2 7 (f := fx_supDE) rfl rfl)⟩, supB_of (t.f 2 8 (f := fx_supFE) rfl rfl), by decide +kernel⟩
theorem t_nx (X : K.In h) (G : h.Ns mainGlobals mg) (t : Told K) : Nx lawP K mg (cA K) := by
  obtain ⟨fd, FN⟩ := Df.sup (t.v 1 16 (d := df_i_NE) rfl rfl) (t.o 1 16 (d := df_i_NE) rfl rfl) (t.f 2 11 (f := fx_sfN) rfl rfl)
  exact ⟨oexB_ok (t.f 2 12 (f := fx_oex) rfl rfl), ⟨_, fd, FN, fB_ok (t.f 2 13 (f := fx_iNE) rfl rfl), of_decide_eq_true (t.f 2 14 (f := fx_tNE) rfl rfl)⟩, supB_of (t.f 2 15 (f := fx_supNE) rfl rfl), naB_ok (t.f 1 12 (f := fx_naNE) rfl rfl)⟩
theorem t_m_D_names (t : Told K) : Mn K (cA K).D "names" "Holder.names" s_Holder_names := by
  obtain ⟨fd, Fd⟩ := Df.plain (t.v 0 0 (d := df_m_D_names) rfl rfl) (t.o 0 0 (d := df_m_D_names) rfl rfl)
  exact ⟨_, fd, Fd, methB_ok (t.f 2 16 (f := fx_m_D_names) rfl rfl)⟩
theorem t_m_D_put (t : Told K) : Mn K (cA K).D "put" "Holder.put" s_Holder_put := by
  obtain ⟨fd, Fd⟩ := Df.plain (t.v 0 1 (d := df_m_D_put) rfl rfl) (t.o 0 1 (d := df_m_D_put) rfl rfl)
  exact ⟨_, fd, Fd, methB_ok (t.f 2 17 (f := fx_m_D_put) rfl rfl)⟩
theorem t_m_D_set_mode (t : Told K) : Mn K (cA K).D "set_mode" "Entry.set_mode" s_Entry_set_mode := by
  obtain ⟨fd, Fd⟩ := Df.plain (t.v 0 2 (d := df_m_D_set_mode) rfl rfl) (t.o 0 2 (d := df_m_D_set_mode) rfl rfl)
  exact ⟨_, fd, Fd, methB_ok (t.f 2 18 (f := fx_m_D_set_mode) rfl rfl)⟩
theorem t_m_F_set_mode (t : Told K) : Mn K (cA K).F "set_mode" "Entry.set_mode" s_Entry_set_mode := by
  obtain ⟨fd, Fd⟩ := Df.plain (t.v 0 3 (d := df_m_F_set_mode) rfl rfl) (t.o 0 3 (d := df_m_F_set_mode) rfl rfl)
  exact ⟨_, fd, Fd, methB_ok (t.f 2 19 (f := fx_m_F_set_mode) rfl rfl)⟩
theorem t_m_T_entry (t : Told K) : Mn K (cA K).T "entry" "Tree.entry" s_Tree_entry := by
  obtain ⟨fd, Fd⟩ := Df.plain (t.v 0 4 (d := df_m_T_entry) rfl rfl) (t.o 0 4 (d := df_m_T_entry) rfl rfl)
  exact ⟨_, fd, Fd, methB_ok (t.f 3 0 (f := fx_m_T_entry) rfl rfl)⟩
theorem t_m_T_entries (t : Told K) : Mn K (cA K).T "entries" "Tree.entries" s_Tree_entries := by
  obtain ⟨fd, Fd⟩ := Df.plain (t.v 0 5 (d := df_m_T_entries) rfl rfl) (t.o 0 5 (d := df_m_T_entries) rfl rfl)
  exact ⟨_, fd, Fd, methB_ok (t.f 3 1 (f := fx_m_T_entries) rfl rfl)⟩
theorem t_m_T_rows (t : Told K) : Mn K (cA K).T "rows" "Tree.rows" s_Tree_rows := by
  obtain ⟨fd, Fd⟩ := Df.plain (t.v 0 6 (d := df_m_T_rows) rfl rfl) (t.o 0 6 (d := df_m_T_rows) rfl rfl)
  exact ⟨_, fd, Fd, methB_ok (t.f 3 2 (f := fx_m_T_rows) rfl rfl)⟩
theorem t_m_T_put (t : Told K) : Mn K (cA K).T "put" "Tree.put" s_Tree_put := by
  obtain ⟨fd, Fd⟩ := Df.plain (t.v 0 7 (d := df_m_T_put) rfl rfl) (t.o 0 7 (d := df_m_T_put) rfl rfl)
  exact ⟨_, fd, Fd, methB_ok (t.f 3 3 (f := fx_m_T_put) rfl rfl)⟩
theorem t_m_T_take_out (t : Told K) : Mn K (cA K).T "take_out" "Tree.take_out" s_Tree_take_out := by
  obtain ⟨fd, Fd⟩ := Df.plain (t.v 0 8 (d := df_m_T_take_out) rfl rfl) (t.o 0 8 (d := df_m_T_take_out) rfl rfl)
  exact ⟨_, fd, Fd, methB_ok (t.f 3 4 (f := fx_m_T_take_out) rfl rfl)⟩
theorem t_m_T_size (t : Told K) : Mn K (cA K).T "size" "Tree.size" s_Tree_size := by
  obtain ⟨fd, Fd⟩ := Df.plain (t.v 0 9 (d := df_m_T_size) rfl rfl) (t.o 0 9 (d := df_m_T_size) rfl rfl)
  exact ⟨_, fd, Fd, methB_ok (t.f 3 5 (f := fx_m_T_size) rfl rfl)⟩
theorem t_m_T_trial (t : Told K) : Mn K (cA K).T "trial" "Tree.trial" s_Tree_trial := by
  obtain ⟨fd, Fd⟩ := Df.plain (t.v 0 10 (d := df_m_T_trial) rfl rfl) (t.o 0 10 (d := df_m_T_trial) rfl rfl)
  exact ⟨_, fd, Fd, methB_ok (t.f 3 6 (f := fx_m_T_trial) rfl rfl)⟩
theorem t_m_T_attempt (t : Told K) : Mn K (cA K).T "attempt" "Tree.attempt" s_Tree_attempt := by
  obtain ⟨fd, Fd⟩ := Df.plain (t.v 0 11 (d := df_m_T_attempt) rfl rfl) (t.o 0 11 (d := df_m_T_attempt) rfl rfl)
  exact ⟨_, fd, Fd, methB_ok (t.f 3 7 (f := fx_m_T_attempt) rfl rfl)⟩
theorem t_d_M_eq (t : Told K) : Dm K (cA K).M "__eq__" "Mode.__eq__" s_Mode_eq := by
  obtain ⟨fd, Fd⟩ := Df.plain (t.v 0 12 (d := df_d_M_eq) rfl rfl) (t.o 0 12 (d := df_d_M_eq) rfl rfl)
  obtain ⟨h1, h2⟩ := He.ba (t.f 3 8 (f := fx_d_M_eq) rfl rfl)
  obtain ⟨h2, h3⟩ := He.ba h2
  exact ⟨_, fd, Fd, fB_ok h1, h2, h3⟩
theorem t_d_D_contains (t : Told K) : Dm K (cA K).D "__contains__" "Holder.__contains__" s_Holder_contains := by
  obtain ⟨fd, Fd⟩ := Df.plain (t.v 0 13 (d := df_d_D_contains) rfl rfl) (t.o 0 13 (d := df_d_D_contains) rfl rfl)
  obtain ⟨h1, h2⟩ := He.ba (t.f 3 9 (f := fx_d_D_contains) rfl rfl)
  obtain ⟨h2, h3⟩ := He.ba h2
  exact ⟨_, fd, Fd, fB_ok h1, h2, h3⟩
theorem t_d_D_getitem (t : Told K) : Dm K (cA K).D "__getitem__" "Holder.__getitem__" s_Holder_getitem := by
  obtain ⟨fd, Fd⟩ := Df.plain (t.v 0 14 (d := df_d_D_getitem) rfl rfl) (t.o 0 14 (d := df_d_D_getitem) rfl rfl)
  obtain ⟨h1, h2⟩ := He.ba (t.f 3 10 (f := fx_d_D_getitem) rfl rfl)
  obtain ⟨h2, h3⟩ := He.ba h2
  exact ⟨_, fd, Fd, fB_ok h1, h2, h3⟩
theorem t_d_F_eq (t : Told K) : Dm K (cA K).F "__eq__" "Entry.__eq__" s_Entry_eq := by
  obtain ⟨fd, Fd⟩ := Df.plain (t.v 0 15 (d := df_d_F_eq) rfl rfl) (t.o 0 15 (d := df_d_F_eq) rfl rfl)
  obtain ⟨h1, h2⟩ := He.ba (t.f 3 11 (f := fx_d_F_eq) rfl rfl)
  obtain ⟨h2, h3⟩ := He.ba h2
  exact ⟨_, fd, Fd, fB_ok h1, h2, h3⟩
theorem t_d_D_eq (t : Told K) : Dm K (cA K).D "__eq__" "Entry.__eq__" s_Entry_eq := by
  obtain ⟨fd, Fd⟩ := Df.plain (t.v 0 16 (d := df_d_D_eq) rfl rfl) (t.o 0 16 (d := df_d_D_eq) rfl rfl)
  obtain ⟨h1, h2⟩ := He.ba (t.f 3 12 (f := fx_d_D_eq) rfl rfl)
  obtain ⟨h2, h3⟩ := He.ba h2
  exact ⟨_, fd, Fd, fB_ok h1, h2, h3⟩
theorem t_d_TT_enter (t : Told K) : Dm K (cA K).TT "__enter__" "TreeTrial.__enter__" s_TreeTrial_enter := by
  obtain ⟨fd, Fd⟩ := Df.plain (t.v 0 17 (d := df_d_TT_enter) rfl rfl) (t.o 0 17 (d := df_d_TT_enter) rfl rfl)
  obtain ⟨h1, h2⟩ := He.ba (t.f 3 13 (f := fx_d_TT_enter) rfl rfl)
  obtain ⟨h2, h3⟩ := He.ba h2
  exact ⟨_, fd, Fd, fB_ok h1, h2, h3⟩
theorem t_d_TT_exit (t : Told K) : Dm K (cA K).TT "__exit__" "TreeTrial.__exit__" s_TreeTrial_exit := by
  obtain ⟨fd, Fd⟩ := Df.plain (t.v 0 18 (d := df_d_TT_exit) rfl rfl) (t.o 0 18 (d := df_d_TT_exit) rfl rfl)
  obtain ⟨h1, h2⟩ := He.ba (t.f 3 14 (f := fx_d_TT_exit) rfl rfl)
  obtain ⟨h2, h3⟩ := He.ba h2
  exact ⟨_, fd, Fd, fB_ok h1, h2, h3⟩
theorem t_d_T_setitem (t : Told K) : Dm K (cA K).T "__setitem__" "Tree.__setitem__" s_Tree_setitem := by
  obtain ⟨fd, Fd⟩ := Df.plain (t.v 0 19 (d := df_d_T_setitem) rfl rfl) (t.o 0 19 (d := df_d_T_setitem) rfl rfl)
  obtain ⟨h1, h2⟩ := He.ba (t.f 3 15 (f := fx_d_T_setitem) rfl rfl)
  obtain ⟨h2, h3⟩ := He.ba h2
  exact ⟨_, fd, Fd, fB_ok h1, h2, h3⟩
theorem t_d_T_eq (t : Told K) : Dm K (cA K).T "__eq__" "Tree.__eq__" s_Tree_eq := by
  obtain ⟨fd, Fd⟩ := Df.plain (t.v 1 0 (d := df_d_T_eq) rfl rfl) (t.o 1 0 (d := df_d_T_eq) rfl rfl)
  obtain ⟨h1, h2⟩ := He.ba (t.f 3 16 (f := fx_d_T_eq) rfl rfl)
  obtain ⟨h2, h3⟩ := He.ba h2
  exact ⟨_, fd, Fd, fB_ok h1, h2, h3⟩
theorem t_p_M_number (t : Told K) : Pn K (cA K).M "number" "Mode.number" s_Mode_number := by
  obtain ⟨fd, Fd⟩ := Df.plain (t.v 1 1 (d := df_p_M_number) rfl rfl) (t.o 1 1 (d := df_p_M_number) rfl rfl)
  exact ⟨_, _, fd, propB_ok (t.f 3 17 (f := fx_p_M_number) rfl rfl), Fd⟩
theorem t_p_F_mode (t : Told K) : Pn K (cA K).F "mode" "Entry.mode" s_Entry_mode := by
  obtain ⟨fd, Fd⟩ := Df.plain (t.v 1 2 (d := df_p_F_mode) rfl rfl) (t.o 1 2 (d := df_p_F_mode) rfl rfl)
  exact ⟨_, _, fd, propB_ok (t.f 3 18 (f := fx_p_F_mode) rfl rfl), Fd⟩
theorem t_p_F_owner (t : Told K) : Pn K (cA K).F "owner" "Entry.owner" s_Entry_owner := by
  obtain ⟨fd, Fd⟩ := Df.plain (t.v 1 3 (d := df_p_F_owner) rfl rfl) (t.o 1 3 (d := df_p_F_owner) rfl rfl)
  exact ⟨_, _, fd, propB_ok (t.f 3 19 (f := fx_p_F_owner) rfl rfl), Fd⟩
theorem t_p_F_group (t : Told K) : Pn K (cA K).F "group" "Entry.group" s_Entry_group := by
  obtain ⟨fd, Fd⟩ := Df.plain (t.v 1 4 (d := df_p_F_group) rfl rfl) (t.o 1 4 (d := df_p_F_group) rfl rfl)
  exact ⟨_, _, fd, propB_ok (t.f 4 0 (f := fx_p_F_group) rfl rfl), Fd⟩
theorem t_p_F_form (t : Told K) : Pn K (cA K).F "form" "Entry.form" s_Entry_form := by
  obtain ⟨fd, Fd⟩ := Df.plain (t.v 1 5 (d := df_p_F_form) rfl rfl) (t.o 1 5 (d := df_p_F_form) rfl rfl)
  exact ⟨_, _, fd, propB_ok (t.f 4 1 (f := fx_p_F_form) rfl rfl), Fd⟩
theorem t_p_D_mode (t : Told K) : Pn K (cA K).D "mode" "Entry.mode" s_Entry_mode := by
  obtain ⟨fd, Fd⟩ := Df.plain (t.v 1 6 (d := df_p_D_mode) rfl rfl) (t.o 1 6 (d := df_p_D_mode) rfl rfl)
  exact ⟨_, _, fd, propB_ok (t.f 4 2 (f := fx_p_D_mode) rfl rfl), Fd⟩
theorem t_p_D_owner (t : Told K) : Pn K (cA K).D "owner" "Entry.owner" s_Entry_owner := by
  obtain ⟨fd, Fd⟩ := Df.plain (t.v 1 7 (d := df_p_D_owner) rfl rfl) (t.o 1 7 (d := df_p_D_owner) rfl rfl)
  exact ⟨_, _, fd, propB_ok (t.f 4 3 (f := fx_p_D_owner) rfl rfl), Fd⟩
theorem t_p_D_group (t : Told K) : Pn K (cA K).D "group" "Entry.group" s_Entry_group := by
  obtain ⟨fd, Fd⟩ := Df.plain (t.v 1 8 (d := df_p_D_group) rfl rfl) (t.o 1 8 (d := df_p_D_group) rfl rfl)
  exact ⟨_, _, fd, propB_ok (t.f 4 4 (f := fx_p_D_group) rfl rfl), Fd⟩
theorem t_p_D_form (t : Told K) : Pn K (cA K).D "form" "Entry.form" s_Entry_form := by
  obtain ⟨fd, Fd⟩ := Df.plain (t.v 1 9 (d := df_p_D_form) rfl rfl) (t.o 1 9 (d := df_p_D_form) rfl rfl)
  exact ⟨_, _, fd, propB_ok (t.f 4 5 (f := fx_p_D_form) rfl rfl), Fd⟩
theorem t_i_M (t : Told K) : In0 K (cA K).M "Mode.__init__" s_Mode_init := by
  obtain ⟨fd, Fd⟩ := Df.plain (t.v 1 10 (d := df_i_M) rfl rfl) (t.o 1 10 (d := df_i_M) rfl rfl)
  exact ⟨_, fd, mkfB_ok (t.f 2 2 (f := fx_mkM) rfl rfl), Fd⟩
theorem t_i_T (t : Told K) : In0 K (cA K).T "Tree.__init__" s_Tree_init := by
  obtain ⟨fd, Fd⟩ := Df.plain (t.v 1 11 (d := df_i_T) rfl rfl) (t.o 1 11 (d := df_i_T) rfl rfl)
  exact ⟨_, fd, mkfB_ok (t.f 2 3 (f := fx_mkT) rfl rfl), Fd⟩
theorem t_i_TT (t : Told K) : In0 K (cA K).TT "TreeTrial.__init__" s_TreeTrial_init := by
  obtain ⟨fd, Fd⟩ := Df.plain (t.v 1 12 (d := df_i_TT) rfl rfl) (t.o 1 12 (d := df_i_TT) rfl rfl)
  exact ⟨_, fd, mkfB_ok (t.f 2 4 (f := fx_mkTT) rfl rfl), Fd⟩
theorem t_q_is_name (X : K.In h) (G : h.Ns mainGlobals mg) (t : Told K) : Dn K mg "is_name" s_is_name := by
  obtain ⟨fd, Fd⟩ := Df.plain (t.v 1 17 (d := df_q_is_name) rfl rfl) (t.o 1 17 (d := df_q_is_name) rfl rfl)
  exact ⟨_, fd, Fd, (He.glo_ok X G (t.f 4 6 (f := fx_q_is_name) rfl rfl))⟩
theorem t_q_is_integer (X : K.In h) (G : h.Ns mainGlobals mg) (t : Told K) : Dn K mg "is_integer" s_is_integer := by
  obtain ⟨fd, Fd⟩ := Df.plain (t.v 1 18 (d := df_q_is_integer) rfl rfl) (t.o 1 18 (d := df_q_is_integer) rfl rfl)
  exact ⟨_, fd, Fd, (He.glo_ok X G (t.f 4 7 (f := fx_q_is_integer) rfl rfl))⟩
theorem t_q_is_path (X : K.In h) (G : h.Ns mainGlobals mg) (t : Told K) : Dn K mg "is_path" s_is_path := by
  obtain ⟨fd, Fd⟩ := Df.plain (t.v 1 19 (d := df_q_is_path) rfl rfl) (t.o 1 19 (d := df_q_is_path) rfl rfl)
  exact ⟨_, fd, Fd, (He.glo_ok X G (t.f 4 8 (f := fx_q_is_path) rfl rfl))⟩
theorem t_q_names_of (X : K.In h) (G : h.Ns mainGlobals mg) (t : Told K) : Dn K mg "names_of" s_names_of := by
  obtain ⟨fd, Fd⟩ := Df.plain (t.v 2 0 (d := df_q_names_of) rfl rfl) (t.o 2 0 (d := df_q_names_of) rfl rfl)
  exact ⟨_, fd, Fd, (He.glo_ok X G (t.f 4 9 (f := fx_q_names_of) rfl rfl))⟩
theorem t_q_number_of (X : K.In h) (G : h.Ns mainGlobals mg) (t : Told K) : Dn K mg "number_of" s_number_of := by
  obtain ⟨fd, Fd⟩ := Df.plain (t.v 2 1 (d := df_q_number_of) rfl rfl) (t.o 2 1 (d := df_q_number_of) rfl rfl)
  exact ⟨_, fd, Fd, (He.glo_ok X G (t.f 4 10 (f := fx_q_number_of) rfl rfl))⟩
theorem t_q_size_of (X : K.In h) (G : h.Ns mainGlobals mg) (t : Told K) : Dn K mg "size_of" s_size_of := by
  obtain ⟨fd, Fd⟩ := Df.plain (t.v 2 2 (d := df_q_size_of) rfl rfl) (t.o 2 2 (d := df_q_size_of) rfl rfl)
  exact ⟨_, fd, Fd, (He.glo_ok X G (t.f 4 11 (f := fx_q_size_of) rfl rfl))⟩
theorem t_q_copied (X : K.In h) (G : h.Ns mainGlobals mg) (t : Told K) : Dn K mg "copied" s_copied := by
  obtain ⟨fd, Fd⟩ := Df.plain (t.v 2 3 (d := df_q_copied) rfl rfl) (t.o 2 3 (d := df_q_copied) rfl rfl)
  exact ⟨_, fd, Fd, (He.glo_ok X G (t.f 4 12 (f := fx_q_copied) rfl rfl))⟩
theorem t_q_found_below (X : K.In h) (G : h.Ns mainGlobals mg) (t : Told K) : Dn K mg "found_below" s_found_below := by
  obtain ⟨fd, Fd⟩ := Df.plain (t.v 2 4 (d := df_q_found_below) rfl rfl) (t.o 2 4 (d := df_q_found_below) rfl rfl)
  exact ⟨_, fd, Fd, (He.glo_ok X G (t.f 4 13 (f := fx_q_found_below) rfl rfl))⟩
theorem t_q_joined (X : K.In h) (G : h.Ns mainGlobals mg) (t : Told K) : Dn K mg "joined" s_joined := by
  obtain ⟨fd, Fd⟩ := Df.plain (t.v 2 5 (d := df_q_joined) rfl rfl) (t.o 2 5 (d := df_q_joined) rfl rfl)
  exact ⟨_, fd, Fd, (He.glo_ok X G (t.f 4 14 (f := fx_q_joined) rfl rfl))⟩
theorem t_q__law_pen (X : K.In h) (G : h.Ns mainGlobals mg) (t : Told K) : Dn K mg "_law_pen" s_law_pen := by
  obtain ⟨fd, Fd⟩ := Df.plain (t.v 2 6 (d := df_q__law_pen) rfl rfl) (t.o 2 6 (d := df_q__law_pen) rfl rfl)
  exact ⟨_, fd, Fd, (He.glo_ok X G (t.f 4 15 (f := fx_q__law_pen) rfl rfl))⟩
theorem t_q__law_draw (X : K.In h) (G : h.Ns mainGlobals mg) (t : Told K) : Dn K mg "_law_draw" s_law_draw := by
  obtain ⟨fd, Fd⟩ := Df.plain (t.v 2 7 (d := df_q__law_draw) rfl rfl) (t.o 2 7 (d := df_q__law_draw) rfl rfl)
  exact ⟨_, fd, Fd, (He.glo_ok X G (t.f 4 16 (f := fx_q__law_draw) rfl rfl))⟩
theorem t_q__law_pick (X : K.In h) (G : h.Ns mainGlobals mg) (t : Told K) : Dn K mg "_law_pick" s_law_pick := by
  obtain ⟨fd, Fd⟩ := Df.plain (t.v 2 8 (d := df_q__law_pick) rfl rfl) (t.o 2 8 (d := df_q__law_pick) rfl rfl)
  exact ⟨_, fd, Fd, (He.glo_ok X G (t.f 4 17 (f := fx_q__law_pick) rfl rfl))⟩
theorem t_q__law_drawn_mode (X : K.In h) (G : h.Ns mainGlobals mg) (t : Told K) : Dn K mg "_law_drawn_mode" s_law_drawn_mode := by
  obtain ⟨fd, Fd⟩ := Df.plain (t.v 2 9 (d := df_q__law_drawn_mode) rfl rfl) (t.o 2 9 (d := df_q__law_drawn_mode) rfl rfl)
  exact ⟨_, fd, Fd, (He.glo_ok X G (t.f 4 18 (f := fx_q__law_drawn_mode) rfl rfl))⟩
theorem t_q__law_drawn_rows (X : K.In h) (G : h.Ns mainGlobals mg) (t : Told K) : Dn K mg "_law_drawn_rows" s_law_drawn_rows := by
  obtain ⟨fd, Fd⟩ := Df.plain (t.v 2 10 (d := df_q__law_drawn_rows) rfl rfl) (t.o 2 10 (d := df_q__law_drawn_rows) rfl rfl)
  exact ⟨_, fd, Fd, (He.glo_ok X G (t.f 4 19 (f := fx_q__law_drawn_rows) rfl rfl))⟩
theorem t_q__law_made_entry (X : K.In h) (G : h.Ns mainGlobals mg) (t : Told K) : Dn K mg "_law_made_entry" s_law_made_entry := by
  obtain ⟨fd, Fd⟩ := Df.plain (t.v 2 11 (d := df_q__law_made_entry) rfl rfl) (t.o 2 11 (d := df_q__law_made_entry) rfl rfl)
  exact ⟨_, fd, Fd, (He.glo_ok X G (t.f 5 0 (f := fx_q__law_made_entry) rfl rfl))⟩
theorem t_q__law_made_tree (X : K.In h) (G : h.Ns mainGlobals mg) (t : Told K) : Dn K mg "_law_made_tree" s_law_made_tree := by
  obtain ⟨fd, Fd⟩ := Df.plain (t.v 2 12 (d := df_q__law_made_tree) rfl rfl) (t.o 2 12 (d := df_q__law_made_tree) rfl rfl)
  exact ⟨_, fd, Fd, (He.glo_ok X G (t.f 5 1 (f := fx_q__law_made_tree) rfl rfl))⟩
theorem t_q__law_told_rows (X : K.In h) (G : h.Ns mainGlobals mg) (t : Told K) : Dn K mg "_law_told_rows" s_law_told_rows := by
  obtain ⟨fd, Fd⟩ := Df.plain (t.v 2 13 (d := df_q__law_told_rows) rfl rfl) (t.o 2 13 (d := df_q__law_told_rows) rfl rfl)
  exact ⟨_, fd, Fd, (He.glo_ok X G (t.f 5 2 (f := fx_q__law_told_rows) rfl rfl))⟩
theorem t_q__law_less (X : K.In h) (G : h.Ns mainGlobals mg) (t : Told K) : Dn K mg "_law_less" s_law_less := by
  obtain ⟨fd, Fd⟩ := Df.plain (t.v 2 14 (d := df_q__law_less) rfl rfl) (t.o 2 14 (d := df_q__law_less) rfl rfl)
  exact ⟨_, fd, Fd, (He.glo_ok X G (t.f 5 3 (f := fx_q__law_less) rfl rfl))⟩
theorem t_q__law_one_deed (X : K.In h) (G : h.Ns mainGlobals mg) (t : Told K) : Dn K mg "_law_one_deed" s_law_one_deed := by
  obtain ⟨fd, Fd⟩ := Df.plain (t.v 2 15 (d := df_q__law_one_deed) rfl rfl) (t.o 2 15 (d := df_q__law_one_deed) rfl rfl)
  exact ⟨_, fd, Fd, (He.glo_ok X G (t.f 5 4 (f := fx_q__law_one_deed) rfl rfl))⟩
theorem t_q__law_deeds (X : K.In h) (G : h.Ns mainGlobals mg) (t : Told K) : DnC K mg "_law_deeds" s_law_deeds (He.cT K ("_law_deeds", none)).1 := Df.code (t.v 2 16 (d := df_q__law_deeds) rfl rfl) (t.o 2 16 (d := df_q__law_deeds) rfl rfl) rfl rfl rfl (He.glo_ok X G (t.f 5 5 (f := fx_q__law_deeds) rfl rfl))
theorem t_q__law_attempt (X : K.In h) (G : h.Ns mainGlobals mg) (t : Told K) : DnC K mg "_law_attempt" s_law_attempt (He.cT K ("_law_attempt", none)).1 := Df.code (t.v 2 17 (d := df_q__law_attempt) rfl rfl) (t.o 2 17 (d := df_q__law_attempt) rfl rfl) rfl rfl rfl (He.glo_ok X G (t.f 5 6 (f := fx_q__law_attempt) rfl rfl))
theorem t_q_law (X : K.In h) (G : h.Ns mainGlobals mg) (t : Told K) : DnC K mg "law" s_law (He.cT K ("law", none)).1 := Df.code (t.v 2 18 (d := df_q_law) rfl rfl) (t.o 2 18 (d := df_q_law) rfl rfl) rfl rfl rfl (He.glo_ok X G (t.f 5 7 (f := fx_q_law) rfl rfl))
end
end K18
namespace K18
open PySem PySem.Spec PyProof.Rows L2 NdefX StX LamX
section
variable {w : World} {K : PySem.W.Frag} {h : Heap} {mg : Str → Option Value} {base : Heap}
theorem lv_all (X : K.In h) (G : h.Ns mainGlobals mg) (t : Told K) : Lv lawP w K mg base (cA K) := by
  have B := t_bt X G t
  have Z := t_cs X G t
  have CC := t_cc X G t
  have isn := ca_is_name (P := lawP) (w := w) (base := base) B (t_q_is_name X G t)
  have isi := ca_is_integer (P := lawP) (w := w) (base := base) B (t_q_is_integer X G t)
  have mnu := pg_mnum (P := lawP) (w := w) (mg := mg) (base := base) Z (t_p_M_number t)
  have num := ca_number_of (P := lawP) (w := w) (base := base) B Z mnu isi (t_q_number_of X G t)
  have mkM := ma_mode (P := lawP) (w := w) (base := base) B Z isi (t_i_M t)
  have nms := me_names (P := lawP) (w := w) (base := base) B Z (t_m_D_names t)
  have has := du_has (P := lawP) (w := w) (base := base) B Z (t_d_D_contains t)
  have get := du_get (P := lawP) (w := w) (base := base) B Z has (t_d_D_getitem t)
  have siz := ca_size (P := lawP) (w := w) (base := base) B Z nms get (t_q_size_of X G t) 12
  have pF : Pp lawP w K mg base (cA K) (cA K).F := ⟨pg_mode Z.oF Z.naF1 (t_p_F_mode t), pg_owner Z.oF Z.naF2 (t_p_F_owner t), pg_group Z.oF Z.naF3 (t_p_F_group t), pg_form B Z Z.oF (t_p_F_form t)⟩
  have pD : Pp lawP w K mg base (cA K) (cA K).D := ⟨pg_mode Z.oD Z.naD1 (t_p_D_mode t), pg_owner Z.oD Z.naD2 (t_p_D_owner t), pg_group Z.oD Z.naD3 (t_p_D_group t), pg_form B Z Z.oD (t_p_D_form t)⟩
  have mkF := ma_file (P := lawP) (w := w) (base := base) B Z CC num isn mkM
  have mkD := mr_folder (P := lawP) (w := w) (base := base) B Z CC num isn mkM
  have cop := ca_copied (P := lawP) (w := w) (base := base) B Z nms get pF pD mkF mkD (t_q_copied X G t) 12
  exact { isn := isn, isi := isi, isp := ca_is_path B isn (t_q_is_path X G t), nof := ca_names_of B (t_q_names_of X G t), num := num, mkM := mkM, mnu := mnu, meq := du_meq B Z (t_d_M_eq t), nms := nms, has := has, get := get, siz := siz, cop := cop,
          fnd := ca_found B Z has get (t_q_found_below X G t), joi := ca_joined (t_q_joined X G t), hpu := me_hput B Z isn cop siz (t_m_D_put t), pF := pF, pD := pD, mkF := mkF, mkD := mkD }
theorem law_all {T : List (Addr × Str)} (X : K.In h) (G : h.Ns mainGlobals mg) (t : Told K) (TA : TabB base mg (He.cT K ("_law_attempt", none)).1 (He.cT K ("_law_attempt", none)).2) (TL : TabB base mg (He.cT K ("law", none)).1 (He.cT K ("law", none)).2)
    (hA : ((He.cT K ("_law_attempt", none)).2, ("_law_attempt.<locals>.<lambda>" : Str)) ∈ T) (uA : ∀ p ∈ T, p.1 = (He.cT K ("_law_attempt", none)).2 → p.2 = ("_law_attempt.<locals>.<lambda>" : Str))
    (hL : ((He.cT K ("law", none)).2, ("law.<locals>.<lambda>" : Str)) ∈ T) (uL : ∀ p ∈ T, p.1 = (He.cT K ("law", none)).2 → p.2 = ("law.<locals>.<lambda>" : Str)) : CaG lawP w K mg base (L2.CX lawP w) 46 "law" (spLaw K T) := by
  have B := t_bt X G t
  have Z := t_cs X G t
  have CC := t_cc X G t
  have N := t_nx X G t
  have L : Lv lawP w K mg base (cA K) := lv_all X G t
  have nsq := t_nsq t
  have mkT := ma_tree (w := w) (base := base) B Z L (t_i_T t)
  have siz := me_tsize (w := w) (base := base) Z L (t_m_T_size t)
  have en := me_entry (w := w) (base := base) Z L (t_m_T_entry t)
  have pu := me_tput (w := w) (base := base) B Z L (t_m_T_put t)
  have to := me_tout (w := w) (base := base) B Z L en (t_m_T_take_out t)
  have smF := me_setm (w := w) (base := base) Z L Z.oF ⟨Z.oF.cls, Z.naF1, Z.naF2, Z.naF3⟩ (t_m_F_set_mode t)
  have smD := me_setm (w := w) (base := base) Z L Z.oD ⟨Z.oD.cls, Z.naD1, Z.naD2, Z.naD3⟩ (t_m_D_set_mode t)
  have si := du_seti (w := w) (base := base) Z L en smF smD (t_d_T_setitem t)
  have rws := me_rows (w := w) (base := base) B Z L (t_m_T_entries t) (t_m_T_rows t)
  have eqs := du_eeq (w := w) (base := base) B Z (t_eqc t) L (t_d_F_eq t) (t_d_D_eq t) 12
  have teq := du_teq (w := w) (base := base) B Z eqs.2 (t_d_T_eq t)
  have tt := ma_tt (P := lawP) (w := w) (base := base) Z (t_i_TT t)
  have tr := me_trial (P := lawP) (w := w) (base := base) Z tt (t_m_T_trial t)
  have enX := me_entryX (w := w) (base := base) B Z CC N L (t_m_T_entry t)
  have siX := du_setiX (P := lawP) (w := w) (base := base) Z enX (t_d_T_setitem t)
  have wi := wi_trial (w := w) (base := base) Z L (t_d_TT_enter t) (t_d_TT_exit t)
  have drw := ca_draw (P := lawP) (w := w) (K := K) (base := base) B (t_q__law_draw X G t)
  have pk := ca_pick (P := lawP) (w := w) (K := K) (base := base) B drw (t_q__law_pick X G t)
  have dm := ca_dmode (P := lawP) (w := w) (K := K) (base := base) B drw (t_q__law_drawn_mode X G t)
  have le := ca_less (P := lawP) (w := w) (K := K) (base := base) B (t_q__law_less X G t)
  have told := ca_told (P := lawP) (w := w) (K := K) (base := base) B (t_q__law_told_rows X G t)
  have me := ca_made (w := w) (base := base) L (t_q__law_made_entry X G t)
  have mt := ca_mt (P := lawP) (w := w) (base := base) B Z me mkT pu (t_q__law_made_tree X G t)
  have dro := ca_dr (P := lawP) (w := w) (K := K) (base := base) B drw pk dm (t_q__law_drawn_rows X G t)
  have pen := ca_pen (P := lawP) (w := w) (K := K) (base := base) B (t_q__law_pen X G t)
  have od := ca_od (w := w) (base := base) (T := T) B Z L nsq pk dm le si pu to (t_q__law_one_deed X G t)
  have at_ := at_all (w := w) (base := base) (T := T) B Z (t_er t) nsq wi tr (t_m_T_attempt t) rws told TA hA uA drw siX od (t_q__law_attempt X G t) (t_q__law_deeds X G t)
  exact ca_law B Z (t_eqc t) wi tr (t_m_T_attempt t) rws told siz en eqs.2 teq mkT mt dro pen TL hL uL at_ (t_q_law X G t)
end
end K18
namespace K18
open PySem PySem.Spec PyProof.Rows L2 NdefX StX LamX
/-! ### the end, for a law that asks for a stack without guards -/
theorem end_call {P : Program} {w : World} {K : PySem.W.Frag} {mg mb : Str → Option Value} {k : Nat} {fa a : Addr} {cs : List (Addr × Addr)} {x : Str} {sp : Sp} {s₁ : Shared} {vs : List Value} {ns : List Int}
    (KX : K.In s₁.heap) (hns : s₁.heap.Ns mainGlobals mg) (hb : s₁.heap.Ns builtinsNs mb) (hbb : ∀ x : Str, x ≠ "__name__" → mb x = bootBuiltins x) (hlim : s₁.heap.NoLimit) (hg : s₁.gens = #[])
    (hT : ∀ p ∈ cs, s₁.heap.get? p.2 = some { cls := .none, data := .fields #[] }) (nT : ∀ p ∈ cs, K.lookup p.2 = none) (hC : ∀ p ∈ cs, PySem.W.CodeHd s₁.heap p.1 p.2)
    (hbm : ∃ (bm : Addr) (ob : Obj), mg "__builtins__" = some (.ref bm) ∧ bm ≠ builtinsNs ∧ s₁.heap.get? bm = some ob ∧ ob.cls = .type "module" ∧ ob.dict = some builtinsNs ∧ ob.data = .plain)
    (ha : s₁.heap.get? a = some { cls := .type "list", data := .seq vs.toArray }) (hi : IntsAre vs ns) (hl : ns.length ≤ sizeLine) (hr : Room k callerA) (hmg : mg x = some (.ref fa))
    (F : ∀ base : Heap, K.In base → base.Ns mainGlobals mg → (∀ p ∈ cs, TabB base mg p.1 p.2) → CaG P w K mg base (L2.CX P w) k x sp)
    (hsp : ∀ H : Hp, (∀ p ∈ cs, H p.2 = some (.tbl #[])) → SqL K H a (ns.map V.int) → sp [.ref a] H (fun v _ => v = .bl true) fun _ _ _ => False) :
    codeAny (model P w) callerA (.call (.ref fa) ⟨[.ref a], []⟩) (fun r s' => r = .ok (.ret (.bool true)) ∧ OldK s₁.heap s'.heap ∧ s'.os = s₁.os ∧ AllBare s'.gens) s₁ := by
  have rv := vals_ints hi
  have hlen := hi.length
  -- an address is a table's, or not
  let TS := cs.map (·.2)
  have tabAt : ∀ {b : Addr}, b ∈ TS → s₁.heap.get? b = some { cls := .none, data := .fields #[] } := fun {b} hb => by
    obtain ⟨p, hp, e⟩ := List.mem_map.mp hb
    exact e ▸ hT p hp
  have aTS : a ∉ TS := fun z => by
    have e := tabAt z
    rw [ha] at e
    exact nomatch (congrArg Obj.data (Option.some.inj e) : Data.seq vs.toArray _ = Data.fields #[])
  let la : HO := .frz { cls := .type "list", data := .seq vs.toArray } (.lst (ns.map V.int))
  -- what is tracked: the tables; the script, if the written part does not hold it
  obtain ⟨H, hTab, hAll, hS⟩ : ∃ H : Hp, (∀ b ∈ TS, H b = some (.tbl #[])) ∧ (∀ b o, H b = some o → (b ∈ TS ∧ o = .tbl #[]) ∨ (b = a ∧ K.lookup a = none ∧ o = la)) ∧ SqL K H a (ns.map V.int) := by
    cases hk : K.lookup a with
    | some o =>
      have e := KX a o hk
      rw [ha] at e
      cases e
      refine ⟨fun b => if b ∈ TS then some (.tbl #[]) else none, fun b hb => if_pos hb, fun b o e => ?_, .inr ⟨_, vs.toArray, _, hk, rfl, rfl, rfl, by rw [List.size_toArray, hlen]; exact hl, by simpa using rv⟩⟩
      · by_cases hb : b ∈ TS
        · exact .inl ⟨hb, (Option.some.inj ((if_pos hb).symm.trans e)).symm⟩
        · exact nomatch (if_neg hb).symm.trans e
    | none =>
      refine ⟨fun b => if b ∈ TS then some (.tbl #[]) else if b = a then some la else none, fun b hb => if_pos hb, fun b o e => ?_, .inl (.inr ⟨_, (if_neg aTS).trans (if_pos rfl)⟩)⟩
      by_cases hb : b ∈ TS
      · exact .inl ⟨hb, (Option.some.inj ((if_pos hb).symm.trans e)).symm⟩
      · have e := (if_neg hb).symm.trans e
        by_cases hba : b = a
        · exact .inr ⟨hba, rfl, (Option.some.inj ((if_pos hba).symm.trans e)).symm⟩
        · exact nomatch (if_neg hba).symm.trans e
  have hok : HOk P w H s₁.heap := fun b o e => by
    rcases hAll b o e with ⟨hb, rfl⟩ | ⟨rfl, _, rfl⟩
    · exact tabAt hb
    · exact ⟨ha, by rw [List.length_map]; exact hl, vs, _, rv, ha⟩
  -- what is neither a list nor a table is not tracked
  have free : ∀ {b : Addr} {o : Obj}, s₁.heap.get? b = some o → (∀ vs n, o.data ≠ .seq vs n) → o.data ≠ .fields #[] → H b = none := fun {b o} e h1 h2 => by
    cases q : H b with
    | none => rfl
    | some u =>
      rcases hAll b u q with ⟨hb, _⟩ | ⟨rfl, _, _⟩
      · rw [tabAt hb] at e
        cases e
        exact absurd rfl h2
      · rw [ha] at e
        cases e
        exact absurd rfl (h1 _ _)
  have dictFree : ∀ {b : Addr} {o : Obj} {es : Array DictEntry} {ep : Nat}, s₁.heap.get? b = some o → o.data = .dict es ep → H b = none := fun {b o es ep} e d => free e (fun vs n z => by rw [d] at z; cases z) (fun z => by rw [d] at z; cases z)
  have nsK : ∀ {b : Addr} {m : Str → Option Value}, s₁.heap.Ns b m → (hidT s₁.heap H).Ns b m := fun {b m} ⟨o, es, ep, e, d, r⟩ => ⟨o, es, ep, hidT_get e (dictFree e d), d, r⟩
  have hKb : K.In (hidT s₁.heap H) := fun b o e => hidT_get (KX b o e) (by
    cases q : H b with
    | none => rfl
    | some u =>
      rcases hAll b u q with ⟨hb, _⟩ | ⟨rfl, hn, _⟩
      · obtain ⟨p, hp, ep⟩ := List.mem_map.mp hb
        rw [← ep, nT p hp] at e
        cases e
      · rw [hn] at e
        cases e)
  have hM : L2.Mod K mg (hidT s₁.heap H) := ⟨hKb, nsK hns, ⟨mb, nsK hb, hbb⟩, let ⟨mc, h1, h2⟩ := hlim; ⟨mc, nsK h1, h2⟩⟩
  have TB : ∀ p ∈ cs, TabB (hidT s₁.heap H) mg p.1 p.2 := fun p hp => by
    have hTp := hT p hp
    obtain ⟨o, us, file, tf, flags, tg, inF, text, tt, e1, r1, r2, r3, r4, r5, r6, r7, r8, hne⟩ := hC p hp
    obtain ⟨bm, ob, b1, b2, b3, b4, b5, b6⟩ := hbm
    obtain ⟨og, es, ep, eg, hd, _⟩ := id hns
    have fo : H p.1 = none := free e1 (fun vs n z => by rw [r2] at z; cases z) (fun z => by
      rw [r2] at z
      cases z
      simp at r3)
    have fb : H bm = none := free b3 (fun vs n z => by rw [b6] at z; cases z) (fun z => by rw [b6] at z; cases z)
    refine ⟨⟨o, us, file, tf, flags, tg, inF, text, tt, hidT_get e1 fo, r1, r2, r3, r4, r5, r6, r7, r8, hne⟩, ⟨bm, ob, b1, b2, fun z => ?_, fun z => ?_, hidT_get b3 fb, b4, b5, b6⟩, fun z => ?_⟩
    · rw [z, eg] at b3
      cases b3
      rw [hd] at b6
      cases b6
    · rw [z, hTp] at b3
      cases b3
      cases b6
    · rw [z, hTp] at eg
      cases eg
      cases hd
  have e0 : Env0 P w K mg (hidT s₁.heap H) callerA [] s₁ H := ⟨rfl, hM, fun b o e => of_hidT e, Nat.le_of_eq (hidT_size _ _), trivial, (fun b hb => nomatch (show b ∈ ([] : List Addr) from hb)), hok, .of_eq hg⟩
  obtain ⟨f', fd, ps, FG, hm', kp, hbd⟩ := (F _ hKb (nsK hns) TB).ex
  have ef : f' = fa := by
    rw [hmg] at hm'
    exact (Value.ref.inj (Option.some.inj hm')).symm
  subst ef
  have hq := hsp H (fun p hp => hTab p.2 (List.mem_map.mpr ⟨p, hp, rfl⟩)) hS
  have hl1 := FG.len _ _ _ _ hq
  have hbs : BindsTo s₁ fd ⟨[.ref a], []⟩ (ps.zip [.ref a]) := by
    have z := hbd s₁ [.ref a] KX hl1
    rw [List.append_nil] at z
    exact z
  refine codeAny_mono (FG.run callerA [] s₁ H ⟨[.ref a], []⟩ [.ref a] [.ref a] _ _ hr rfl e0 hbs (.cons rfl .nil) hq) fun r s' h => ?_
  match r, h with
  | .error e, ⟨_, _, _, _, _, _, _, _, _, _, _, _, z⟩ => exact z.elim
  | .ok .next, h => exact h.elim
  | .ok .brk, h => exact h.elim
  | .ok .cont, h => exact h.elim
  | .ok (.ret u), ⟨v, H', os, bare, un, hok', r', q⟩ =>
    have q' : v = .bl true := q
    subst q'
    obtain rfl : u = Value.bool true := r'
    have stays : ∀ b o, b ∉ TS → s₁.heap.get? b = some o → s'.heap.get? b = some o := fun b o nb e => by
      cases q : H b with
      | none => exact un.keep b o e q (fun z => nomatch (show b ∈ ([] : List Addr) from z)) (fun z => nomatch z)
      | some u =>
        rcases hAll b u q with ⟨hb, _⟩ | ⟨rfl, _, rfl⟩
        · exact absurd hb nb
        · have e1 := (hok' b _ (un.frzs b _ _ q)).1
          rw [ha] at e
          cases e
          exact e1
    have grown : ∀ p ∈ cs, ∃ more : Array Value, s'.heap.get? p.2 = some { cls := .none, data := .fields more } := fun p hp => by
      obtain ⟨more, z⟩ := un.tbls p.2 #[] (hTab p.2 (List.mem_map.mpr ⟨p, hp, rfl⟩))
      exact ⟨_, hok' p.2 _ z⟩
    refine ⟨rfl, ⟨fun b o e => ?_, fun b o e => ?_⟩, os, bare⟩
    · by_cases hb : b ∈ TS
      · obtain ⟨p, hp, ep⟩ := List.mem_map.mp hb
        obtain ⟨more, hm⟩ := grown p hp
        subst ep
        rw [hT p hp] at e
        cases e
        exact .inr (.inl ⟨((hC p hp).tab (hT p hp)).isCodeTable, rfl, #[], more, rfl, by rw [Array.empty_append]; exact hm⟩)
      · exact .inl (stays b o hb e)
    · by_cases hb : b ∈ TS
      · obtain ⟨p, hp, ep⟩ := List.mem_map.mp hb
        obtain ⟨more, hm⟩ := grown p hp
        subst ep
        exact ⟨_, hm⟩
      · exact ⟨o, stays b o hb e⟩
end K18
namespace K18
open PySem PySem.Spec PyProof.Rows L2 NdefX StX LamX
/-! ### the head's run -/
def tfs : List He.Defn := [("_law_attempt", none), ("law", none)]
def ats : List Addr := List.range 842
abbrev AlK : Type := Bool × List (List FnS)
def obsK (g : Addr → Option Obj) (K : PySem.W.Frag) : AlK := ((fxs.all fun l => l.all fun f => f K) && ((dfs.all fun l => l.all fun d => d.ok K) && He.tabsB g tfs K), dfs.map fun l => l.map fun d => fnS K (d.at_ K))
def obsR (g : Addr → Option Obj) : AlK := obsK g (He.frT g ats)
def valR : AlK := (true, dfs.map fun l => l.map Df.val)
/-- what the end leans on -/
structure Says (h : Heap) (K : PySem.W.Frag) : Prop where
  t : Told K
  hd : ∀ p ∈ tfs, PySem.W.codeHdIn K (He.cT K p).1 (He.cT K p).2 = true
  out : ∀ p ∈ tfs, K.lookup (He.cT K p).2 = none
  empty : ∀ p ∈ tfs, h.get? (He.cT K p).2 = some { cls := .none, data := .fields #[] }
theorem says_of {h : Heap} (e : obsR h.get? = valR) : Says h (He.frT h.get? ats) := by
  have e1 := congrArg (fun z : AlK => z.1) e
  have e2 := congrArg (fun z : AlK => z.2) e
  obtain ⟨h1, h2⟩ := He.ba (show ((fxs.all fun l => l.all fun f => f (He.frT h.get? ats)) && ((dfs.all fun l => l.all fun d => d.ok (He.frT h.get? ats)) && He.tabsB h.get? tfs (He.frT h.get? ats))) = true from e1)
  obtain ⟨h2, h3⟩ := He.ba h2
  have key : ∀ p ∈ tfs, PySem.W.codeHdIn (He.frT h.get? ats) (He.cT (He.frT h.get? ats) p).1 (He.cT (He.frT h.get? ats) p).2 = true ∧ ∃ o, h.get? (He.cT (He.frT h.get? ats) p).2 = some o ∧ He.emptyTab o = true := fun p hp => by
    obtain ⟨h4, h5⟩ := He.ba (List.all_eq_true.mp h3 p hp)
    refine ⟨h4, ?_⟩
    cases q : h.get? (He.cT (He.frT h.get? ats) p).2 with
    | none => rw [q] at h5; cases h5
    | some o => rw [q] at h5; exact ⟨o, rfl, h5⟩
  refine ⟨⟨h1, h2, e2⟩, fun p hp => (key p hp).1, fun p hp => ?_, fun p hp => ?_⟩
  · obtain ⟨_, o, q, z⟩ := key p hp
    exact He.frT_none q z
  · obtain ⟨_, o, q, z⟩ := key p hp
    rw [q, He.emptyTab_eq z]
def hk : PySem.W.Hook where
  α := AlK
  obs := fun s => obsR s.heap.get?
  val := fun _ => valR
  says := fun _ h => ∃ K : PySem.W.Frag, K.In h ∧ Says h K
  of := fun _ _ e => ⟨_, He.frT_in, says_of e⟩
  keeps := fun _ _ _ ⟨K, hK, c⟩ k => ⟨K, PySem.W.Frag.In.keeps hK k, c.t, c.hd, c.out, fun p hp => k _ _ (c.empty p hp)⟩
abbrev R : PySem.W.OpenRow := PySem.W.OpenLaw.row PySem.Challenge.rw_modesdown_k18_whole_trees_tried
def ob (s : PySem.W.SharedT) : AlK := obsR (HandSHeadRun.getT s)
theorem ob_eq (s : PySem.W.SharedT) : ob s = hk.obs s.abs := by
  have e : HandSHeadRun.getT s = s.abs.heap.get? := funext (HandSHeadRun.getT_eq s)
  show obsR (HandSHeadRun.getT s) = obsR s.abs.heap.get?
  rw [e]
def loose0 : List Str := ["_wall", "ModesError", "BadInput", "NoWay", "BadMode", "BadName", "BadPath", "BadText", "NoEntry", "TooMany", "LETTERS", "LONGEST_NAME"]
def loose1 : List Str := ["is_name", "is_integer", "is_path", "names_of", "GREATEST", "SIGNS", "is_mode", "number_of", "Mode", "MOST_ENTRIES", "size_of", "copied"]
def loose2 : List Str := ["found_below", "joined", "Entry", "Holder", "File", "Folder", "TreeTrial", "Tree", "_law_pen", "_law_draw", "_law_pick", "_law_drawn_mode"]
def loose3 : List Str := ["_law_drawn_rows", "_law_made_entry", "_law_made_tree", "_law_told_rows", "_law_less", "_law_one_deed", "_law_deeds", "_law_attempt"]
def loose : List Str := loose0 ++ (loose1 ++ (loose2 ++ (loose3)))
theorem run (w : World) : HandSHeadRun.RunEq R (PySem.W.view R.prog [49]) hk ob 20000 loose w := by
  intro os
  kernel_rfl
end K18
namespace K18
open PySem PySem.Spec PyProof.Rows L2 NdefX StX LamX
/-- the tables' names -/
def tbs (K : PySem.W.Frag) : List (Addr × Str) := [((He.cT K ("_law_attempt", none)).2, "_law_attempt.<locals>.<lambda>"), ((He.cT K ("law", none)).2, "law.<locals>.<lambda>")]
theorem walk_law {q : Program} {lo : List Str} {XP : (Str → Option Value) → Heap → Prop} {d : DefRec} (hdf : d.params.defaults = []) (hn : d.name = ("law" : Str)) :
    PySem.W.WalkO q lo XP hk.says (PySem.Challenge.rw_modesdown_k18_whole_trees_tried).row.toRowW d [] (fun f vs => PySem.call f vs) := by
  refine Att.attach_callB (n := 63) rfl hdf fun w s₀ s₁ mg mb fa o pm cd doc a vs ns G Y ho hd hcd hmg hobj hints hlen hbits hg => ?_
  obtain ⟨K, KX, t, thd, tout, tempty⟩ := Y
  rw [hn] at hmg
  have tne := t_tne t
  refine end_call (x := "law") (cs := tfs.map (He.cT K)) (sp := spLaw K (tbs K)) (k := 46) KX G.T.g G.T.b G.T.builtins G.T.nolimit hg (fun p hp => ?_) (fun p hp => ?_) (fun p hp => ?_) G.T.bmain hobj hints (Nat.le_trans hlen (small_line (by decide))) ⟨rfl, by decide, by decide⟩ hmg (fun base KB GB TB => ?_) fun H hT hS => ?_
  · obtain ⟨q, hq, rfl⟩ := List.mem_map.mp hp
    exact tempty q hq
  · obtain ⟨q, hq, rfl⟩ := List.mem_map.mp hp
    exact tout q hq
  · obtain ⟨q, hq, rfl⟩ := List.mem_map.mp hp
    exact PySem.W.codeHd_of_K KX (thd q hq)
  · refine law_all KB GB t (TB (He.cT K ("_law_attempt", none)) (List.mem_map.mpr ⟨("_law_attempt", none), List.mem_cons_self, rfl⟩)) (TB (He.cT K ("law", none)) (List.mem_map.mpr ⟨("law", none), List.mem_cons_of_mem _ List.mem_cons_self, rfl⟩)) List.mem_cons_self (fun p hp e => ?_) (List.mem_cons_of_mem _ List.mem_cons_self) (fun p hp e => ?_)
    · rcases List.mem_cons.mp hp with z | z
      · rw [z]
      · rw [List.mem_singleton.mp z] at e
        exact absurd e.symm tne
    · rcases List.mem_cons.mp hp with z | z
      · rw [z] at e
        exact absurd e tne
      · rw [List.mem_singleton.mp z]
  · refine ⟨a, ns, rfl, hS, fun p hp => ?_, fun _ => rfl⟩
    rcases List.mem_cons.mp hp with z | z
    · rw [z]
      exact TabS.nil (hT (He.cT K ("_law_attempt", none)) (List.mem_map.mpr ⟨("_law_attempt", none), List.mem_cons_self, rfl⟩))
    · rw [List.mem_singleton.mp z]
      exact TabS.nil (hT (He.cT K ("law", none)) (List.mem_map.mpr ⟨("law", none), List.mem_cons_of_mem _ List.mem_cons_self, rfl⟩))
end K18
open PySem PySem.W PySem.Calls PyProof.Rows
theorem PySem.Challenge.cw_modesdown_k18_whole_trees_tried_holds : PySem.Challenge.rw_modesdown_k18_whole_trees_tried.Holds := by
  w_on; o_law
  refine HandSHeadRun.head_any (r := OpenLaw.row PySem.Challenge.rw_modesdown_k18_whole_trees_tried) (q := view (OpenLaw.row PySem.Challenge.rw_modesdown_k18_whole_trees_tried).prog [49]) (H := K18.hk) (ob := K18.ob) (M := 20000) (loose := K18.loose) (d := HandSHeadRun.topDef (OpenLaw.row PySem.Challenge.rw_modesdown_k18_whole_trees_tried).prog 49) (kwd := []) K18.ob_eq
    (by kernel_rfl) (fun s => by kernel_rfl) K18.run (by kernel_rfl) (by kernel_rfl) (by kernel_rfl) (by rfl) (by first | assumption | decide +kernel) (by decide +kernel) ⟨rfl, rfl, rfl, rfl, rfl, by decide +kernel⟩ ?hw ?hc
  case hw => w_witness2
  case hc => exact K18.walk_law (by kernel_rfl) (by kernel_rfl)
