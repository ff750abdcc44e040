import PyProof.Rows.All
import Wide.All
import OpenK.AllK
import Wide.FinOn
import KE.KStateDown
import KE.KOpsOwn
import Lean
import HandS.ForMost
import HandS.More
import HandS.Defaults
import HandS.Star
import HandS.MethStar
import HandS.OwnEq
import HandS.ClsMeth
import HandS.DictComp
import HandS.Deep
import HandS.NoneIn
import HandS.Zip
import HandS.Conv
import HandS.Style
import HandS.Sort
import HandS.SortRule
import HandS.SortInts
import HandS.SetKeys
import HandS.Set
import HandS.TupSets
import HandS.TupLe
import HandS.TupAny
import HandS.Walk
import HandS.IsInst
import HandS.SlotsOwn
import HandS.Head0
import HandS.Head1
import HandS.Head2
import HandS.HeadEnd
import HandS.HeadHook1
import HandS.HeadHook2
import HandS.HeadNt
import PySem.Challenge.RW_undoamid_k83_whole_deeds_on_cells
import KE.GoesMore
import KE.GoesEnum
import KE.GoesZip
import KE.KMinKey
import HandS.SortKw
import KE.SortData
import KE.KDictSum
import KE.GoesSet
import KE.KRevSl
import HandS.Flow
/-! ## B0 -/
set_option Elab.async false
set_option linter.all false
set_option maxRecDepth 100000
set_option maxHeartbeats 4000000
/-! Rules of our own over the hand layer, and the ends that the program's defs share. -/
namespace Un
open PySem PySem.Spec PyProof.Rows L2
def top (i : Nat) : Stmt := PySem.Challenge.pw_undoamid_k83_whole_deeds_on_cells.main.body.getD i (.Pass ⟨0, 0, 0, 0⟩)

/-! ### a def as it stands -/
structure FnT (K : PySem.W.Frag) (x qual : Str) (st : Stmt) (f : Addr) : Prop where
  ex : ∃ (oc : Value) (od : Option Addr) (kV doc pm : Value) (an : Option Addr) (cdv ct : Value) (osl : Array (Option Value)),
    K.lookup f = some ⟨oc, od, .func (PySem.W.fnOf x qual (defArgs st) (defBody st) (defScope st) .none kV doc pm an cdv ct), osl⟩ ∧ PySem.W.codeIn K cdv qual = true
/-- .. with one default, a tuple of it at T -/
structure FnT1 (K : PySem.W.Frag) (x qual : Str) (st : Stmt) (f : Addr) : Prop where
  ex : ∃ (oc : Value) (od : Option Addr) (T : Addr) (o : Obj) (d : Value) (n : Nat) (kV doc pm : Value) (an : Option Addr) (cdv ct : Value) (osl : Array (Option Value)),
    K.lookup f = some ⟨oc, od, .func (PySem.W.fnOf x qual (defArgs st) (defBody st) (defScope st) (.ref T) kV doc pm an cdv ct), osl⟩ ∧ PySem.W.codeIn K cdv qual = true ∧ K.lookup T = some o ∧ o.data = .seq #[d] n
section
variable {P : Program} {w : World} {K : PySem.W.Frag} {mg : Str → Option Value} {base : Heap}
theorem FnT.ok {x qual : Str} {st : Stmt} {f : Addr} {N ps : List Str} {k : Nat} {sp : Sp} (F : FnT K x qual st f) (S : FnScope N ps (defScope st))
    (hb : ∀ (kV doc pm : Value) (an : Option Addr) (cdv ct : Value) (us : List Value), us.length = ps.length → bindArgs (PySem.W.fnOf x qual (defArgs st) (defBody st) (defScope st) .none kV doc pm an cdv ct) ⟨us, []⟩ = pure (ps.zip us))
    (len : ∀ vs H Q E, sp vs H Q E → vs.length = ps.length)
    (hbody : ∀ (cdv : Value) (A : Around) (outer : List Env) (s : Shared) (H : Hp) (vs : List V) (Q : VK) (E : XK), Room k (A.deeper (envOfC qual (defScope st) s.heap.objs.size f cdv)) → sp vs H Q E →
      ∃ t, PSs (cxOf CX0 P w K mg base N qual (defScope st) f cdv A outer s H E).nox (defBody st) t ∧ t { nx := fun _ H' => Q .non H', rt := Q } (start N vs) H) :
    FnR P w K mg base CX0 (k + 1) f sp := by
  obtain ⟨oc, od, kV, doc, pm, an, cdv, ct, osl, lk, hcd⟩ := F.ex
  have ok : FnOk P w K mg base CX0 (k + 1) f (PySem.W.fnOf x qual (defArgs st) (defBody st) (defScope st) .none kV doc pm an cdv ct) ps sp :=
    fn_of lk hcd S len fun A outer s H vs Q E hr hsp => by
      obtain ⟨t, h, q⟩ := hbody cdv A outer s H vs Q E hr hsp
      exact ⟨t, h.nox, q⟩
  refine (ok.raw (ds := []) (dvs := []) (.all (hb kV doc pm an cdv ct)) .nil).imp fun vs H Q E h => ?_
  rw [List.append_nil]
  exact h
theorem FnT1.ok {x qual : Str} {st : Stmt} {f : Addr} {N ps : List Str} {k : Nat} {sp : Sp} (F : FnT1 K x qual st f) (S : FnScope N ps (defScope st))
    (hb : ∀ (T : Addr) (kV doc pm : Value) (an : Option Addr) (cdv ct : Value) (us : List Value) (d : Value), us.length = ps.length →
      ∃ k, bindArgs (PySem.W.fnOf x qual (defArgs st) (defBody st) (defScope st) (.ref T) kV doc pm an cdv ct) ⟨us, []⟩ = seqItems? (.ref T) >>= k ∧ k (some #[d]) = pure (ps.zip us))
    (len : ∀ vs H Q E, sp vs H Q E → vs.length = ps.length)
    (hbody : ∀ (cdv : Value) (A : Around) (outer : List Env) (s : Shared) (H : Hp) (vs : List V) (Q : VK) (E : XK), Room k (A.deeper (envOfC qual (defScope st) s.heap.objs.size f cdv)) → sp vs H Q E →
      ∃ t, PSs (cxOf CX0 P w K mg base N qual (defScope st) f cdv A outer s H E).nox (defBody st) t ∧ t { nx := fun _ H' => Q .non H', rt := Q } (start N vs) H) :
    FnR P w K mg base CX0 (k + 1) f sp := by
  obtain ⟨oc, od, T, o, d, n, kV, doc, pm, an, cdv, ct, osl, lk, hcd, hT, ho⟩ := F.ex
  have ok : FnOk P w K mg base CX0 (k + 1) f (PySem.W.fnOf x qual (defArgs st) (defBody st) (defScope st) (.ref T) kV doc pm an cdv ct) ps sp :=
    fn_of lk hcd S len fun A outer s H vs Q E hr hsp => by
      obtain ⟨t, h, q⟩ := hbody cdv A outer s H vs Q E hr hsp
      exact ⟨t, h.nox, q⟩
  have bn : Binds K (PySem.W.fnOf x qual (defArgs st) (defBody st) (defScope st) (.ref T) kV doc pm an cdv ct) ps [] := fun s us X hl => by
    rw [List.append_nil] at hl ⊢
    obtain ⟨g, e1, e2⟩ := hb T kV doc pm an cdv ct us d hl
    refine BindsTo.of_looks fun M => ?_
    rw [e1]
    exact looks_items X hT ho (.of_pure e2)
  refine (ok.raw (ds := []) (dvs := []) bn .nil).imp fun vs H Q E h => ?_
  rw [List.append_nil]
  exact h
end

/-! ### calls by positional promises -/
section
variable {X : Cx} {CX : CXT} {k : Nat} {f C : Addr} {sp : Sp} {E : XK} {x m : Str} {p pos apos : Pos} {e o : Expr} {es : List Expr} {ta : TE} {t : TA}
def tCallR (sp : Sp) (E : XK) (t : TA) : TE := fun σ H Q => t σ H fun vs H1 => sp vs H1 Q E
theorem pe_callR (F : FnR X.prog X.w X.K X.mg X.base CX k f sp) (hr : Room k X.A) (hg : Gl X x) (hm : X.mg x = some (.ref f)) (hk : PySem.W.keepIn X.K (.ref f) = true) (hx : Passes CX X E)
    (ha : PA X (e :: es) t) (hdb : (x == ("__debug__" : Str)) = false := by decide) (he : starEach (e :: es) X.env = (false, eval e X.env) :: starEach es X.env := by rfl) (hpl : (backTo pos (starEach es X.env)).any (·.1) = false := by rfl) :
    PE X (.Call (.Name x p) (e :: es) [] pos) (tCallR sp E t) := by
  refine ⟨fun pins s σ H Q I h => ?_⟩
  refine wpAny_Call_Name_kw (ld_glob I hg hm ?_ hdb)
  refine PySem.W.callWith_K (h₀ := X.base) I.ok.mod.kin hk (thn (ha.run pos pins s σ H _ I h) fun us s1 ⟨vs, H1, I1, r, q⟩ => ⟨I1.kIn, ?_⟩) he hpl
  exact wpAny_call (run_fnR F hr hx I1 r q)
/-- o.m() -/
def tMethR0 (C : Addr) (m : Str) (sp : Sp) (E : XK) (ta : TE) : TE := fun σ H Q => ta σ H fun x H1 => ∃ a dx fs, x = .ref a ∧ H1 a = some (.ins C dx fs) ∧ fs.lookup m = none ∧ sp [x] H1 Q E
theorem pe_methR0 {pl : Sem Bool} (he : PE X o ta) (c : Cls X.K C) (hm : Meth X.K C m f) (F : FnR X.prog X.w X.K X.mg X.base CX k f sp) (hr : Room k X.A) (hx : Passes CX X E)
    (ht : eval (.Call (.Attribute o m apos) [] [] pos) X.env = (do
      let ov ← eval o X.env
      standAt apos.atName
      let (f, first) ← holding [ov] (getMethod ov m pl)
      callWith pos f first (backTo pos (starEach [] X.env)) (backToKw pos (keywordEach [] X.env))) := by rfl) :
    PE X (.Call (.Attribute o m apos) [] [] pos) (tMethR0 C m sp E ta) := by
  refine ⟨fun pins s σ H Q I h => ?_⟩
  refine PySem.W.methodCall_KW (pl := pl) (thn (he.run pins s σ H _ I h) fun u s1 ⟨x, H1, I1, rx, a, dx, fs, ex, ea, l, q⟩ => ?_) ht
  subst ex
  obtain rfl : u = Value.ref a := rx
  refine getmeth_ok I1 ea c hm l ?_
  exact PySem.W.callWith_K0 (first := [.ref a]) I1.kIn hm.kp (wpAny_call (run_fnR (us := [.ref a]) (vs := [.ref a]) F hr hx I1 (.cons rfl .nil) q))
end

/-! ### small ends -/
theorem _root_.L2.Room.units65 {k : Nat} {A : Around} (r : Room k A) : A.units + 65 < cLine := by have := r.un; omega
theorem nomk {b : Expr} {op : CmpOp} (h : behindInMarks op b = false := by rfl) : behindInMarks op b = false := h
section
variable {X : Cx} {x : Str} {pos : Pos}
theorem pe_globI {i : Int} (hg : Gl X x) (hm : ∃ t, X.mg x = some (.int i t)) (hd : (x == ("__debug__" : Str)) = false := by decide) : PE X (.Name x pos) (tC (.int i)) := by
  obtain ⟨t, hm⟩ := hm
  exact pe_glob hg hm ⟨t, rfl⟩ hd
theorem pe_globS {z : Str} (hg : Gl X x) (hm : ∃ t, X.mg x = some (.str z t)) (hd : (x == ("__debug__" : Str)) = false := by decide) : PE X (.Name x pos) (tC (.str z)) := by
  obtain ⟨t, hm⟩ := hm
  exact pe_glob hg hm ⟨t, rfl⟩ hd
/-- a dict just come is read, no more written: it is told what it is -/
def tFrz (t : TE) : TE := fun σ H Q => t σ H fun x H1 => ∃ d kvs, x = .ref d ∧ H1 d = some (.dK kvs) ∧ ∀ o, Q x (upd H1 d (.frz o (.dK kvs)))
end
end Un

/-! ## B1 -/
set_option Elab.async false
set_option linter.all false
set_option maxRecDepth 100000
set_option maxHeartbeats 4000000
/-! What is told of the top, and how data lies in the heap. -/
namespace Un
open PySem PySem.Spec PyProof.Rows L2 StX
/-- what isinstance asks of a class -/
structure Isi (K : PySem.W.Frag) (C : Addr) : Prop where
  ca : PySem.W.findIn K (.ref C) "__class__" = some (some (.builtin "object.__class__"))
  cn : PySem.W.specialIn K (.builtin "object.__class__") "__get__" = some (some (.builtin "getset_descriptor.__get__"))
  ct : PySem.W.takesIn K (.builtin "object.__class__") = some true
  cm : PySem.W.mroIn K C (.type "object") = some true
  me : PySem.W.kitOne K (.ref C) (.ref C) = some true
/-- what the top leaves: names and classes -/
structure Txt (K : PySem.W.Frag) (mg : Str → Option Value) : Prop where
  f_len : mg "len" = none
  f_max : mg "max" = none
  f_sum : mg "sum" = none
  f_any : mg "any" = none
  f_all : mg "all" = none
  f_range : mg "range" = none
  f_enumerate : mg "enumerate" = none
  f_zip : mg "zip" = none
  f_tuple : mg "tuple" = none
  f_list : mg "list" = none
  f_set : mg "set" = none
  f_sorted : mg "sorted" = none
  f_isinstance : mg "isinstance" = none
  f_int : mg "int" = none
  f_str : mg "str" = none
  m_is_name : mg "is_name" = some (.ref (He.ga K "is_name"))
  m_check_kinds : mg "check_kinds" = some (.ref (He.ga K "check_kinds"))
  m_in_pair : mg "in_pair" = some (.ref (He.ga K "in_pair"))
  m_check_known : mg "check_known" = some (.ref (He.ga K "check_known"))
  m_meet : mg "meet" = some (.ref (He.ga K "meet"))
  m_melting_at : mg "melting_at" = some (.ref (He.ga K "melting_at"))
  m_depths : mg "depths" = some (.ref (He.ga K "depths"))
  m_layers_of : mg "layers_of" = some (.ref (He.ga K "layers_of"))
  m_formed : mg "formed" = some (.ref (He.ga K "formed"))
  m_shortened : mg "shortened" = some (.ref (He.ga K "shortened"))
  m_appended : mg "appended" = some (.ref (He.ga K "appended"))
  m_pressed : mg "pressed" = some (.ref (He.ga K "pressed"))
  m_firsts : mg "firsts" = some (.ref (He.ga K "firsts"))
  m_lasts : mg "lasts" = some (.ref (He.ga K "lasts"))
  m_check_index : mg "check_index" = some (.ref (He.ga K "check_index"))
  m_limited : mg "limited" = some (.ref (He.ga K "limited"))
  m_amends : mg "amends" = some (.ref (He.ga K "amends"))
  m_moving : mg "moving" = some (.ref (He.ga K "moving"))
  m_rings_of : mg "rings_of" = some (.ref (He.ga K "rings_of"))
  m__law_deal : mg "_law_deal" = some (.ref (He.ga K "_law_deal"))
  m__law_draw : mg "_law_draw" = some (.ref (He.ga K "_law_draw"))
  m__law_mixed : mg "_law_mixed" = some (.ref (He.ga K "_law_mixed"))
  m__law_names : mg "_law_names" = some (.ref (He.ga K "_law_names"))
  m__law_is_free : mg "_law_is_free" = some (.ref (He.ga K "_law_is_free"))
  m__law_count : mg "_law_count" = some (.ref (He.ga K "_law_count"))
  m__law_row : mg "_law_row" = some (.ref (He.ga K "_law_row"))
  m__law_melting : mg "_law_melting" = some (.ref (He.ga K "_law_melting"))
  m__law_short : mg "_law_short" = some (.ref (He.ga K "_law_short"))
  m__law_layers : mg "_law_layers" = some (.ref (He.ga K "_law_layers"))
  m__law_form : mg "_law_form" = some (.ref (He.ga K "_law_form"))
  m__law_led : mg "_law_led" = some (.ref (He.ga K "_law_led"))
  m__law_cells : mg "_law_cells" = some (.ref (He.ga K "_law_cells"))
  m__law_content : mg "_law_content" = some (.ref (He.ga K "_law_content"))
  m__law_store : mg "_law_store" = some (.ref (He.ga K "_law_store"))
  m__law_leads : mg "_law_leads" = some (.ref (He.ga K "_law_leads"))
  m_Table : mg "Table" = some (.ref (He.ga K "Table"))
  m_Row : mg "Row" = some (.ref (He.ga K "Row"))
  m_Version : mg "Version" = some (.ref (He.ga K "Version"))
  m_Store : mg "Store" = some (.ref (He.ga K "Store"))
  k_is_name : PySem.W.keepIn K (.ref (He.ga K "is_name")) = true
  k_check_kinds : PySem.W.keepIn K (.ref (He.ga K "check_kinds")) = true
  k_in_pair : PySem.W.keepIn K (.ref (He.ga K "in_pair")) = true
  k_check_known : PySem.W.keepIn K (.ref (He.ga K "check_known")) = true
  k_meet : PySem.W.keepIn K (.ref (He.ga K "meet")) = true
  k_melting_at : PySem.W.keepIn K (.ref (He.ga K "melting_at")) = true
  k_depths : PySem.W.keepIn K (.ref (He.ga K "depths")) = true
  k_layers_of : PySem.W.keepIn K (.ref (He.ga K "layers_of")) = true
  k_formed : PySem.W.keepIn K (.ref (He.ga K "formed")) = true
  k_shortened : PySem.W.keepIn K (.ref (He.ga K "shortened")) = true
  k_appended : PySem.W.keepIn K (.ref (He.ga K "appended")) = true
  k_pressed : PySem.W.keepIn K (.ref (He.ga K "pressed")) = true
  k_firsts : PySem.W.keepIn K (.ref (He.ga K "firsts")) = true
  k_lasts : PySem.W.keepIn K (.ref (He.ga K "lasts")) = true
  k_check_index : PySem.W.keepIn K (.ref (He.ga K "check_index")) = true
  k_limited : PySem.W.keepIn K (.ref (He.ga K "limited")) = true
  k_amends : PySem.W.keepIn K (.ref (He.ga K "amends")) = true
  k_moving : PySem.W.keepIn K (.ref (He.ga K "moving")) = true
  k_rings_of : PySem.W.keepIn K (.ref (He.ga K "rings_of")) = true
  k__law_deal : PySem.W.keepIn K (.ref (He.ga K "_law_deal")) = true
  k__law_draw : PySem.W.keepIn K (.ref (He.ga K "_law_draw")) = true
  k__law_mixed : PySem.W.keepIn K (.ref (He.ga K "_law_mixed")) = true
  k__law_names : PySem.W.keepIn K (.ref (He.ga K "_law_names")) = true
  k__law_is_free : PySem.W.keepIn K (.ref (He.ga K "_law_is_free")) = true
  k__law_count : PySem.W.keepIn K (.ref (He.ga K "_law_count")) = true
  k__law_row : PySem.W.keepIn K (.ref (He.ga K "_law_row")) = true
  k__law_melting : PySem.W.keepIn K (.ref (He.ga K "_law_melting")) = true
  k__law_short : PySem.W.keepIn K (.ref (He.ga K "_law_short")) = true
  k__law_layers : PySem.W.keepIn K (.ref (He.ga K "_law_layers")) = true
  k__law_form : PySem.W.keepIn K (.ref (He.ga K "_law_form")) = true
  k__law_led : PySem.W.keepIn K (.ref (He.ga K "_law_led")) = true
  k__law_cells : PySem.W.keepIn K (.ref (He.ga K "_law_cells")) = true
  k__law_content : PySem.W.keepIn K (.ref (He.ga K "_law_content")) = true
  k__law_store : PySem.W.keepIn K (.ref (He.ga K "_law_store")) = true
  k__law_leads : PySem.W.keepIn K (.ref (He.ga K "_law_leads")) = true
  c_LONGEST : ∃ t, mg "LONGEST" = some (.int 6 t)
  c_MOST_KINDS : ∃ t, mg "MOST_KINDS" = some (.int 12 t)
  c_LIMIT : ∃ t, mg "LIMIT" = some (.int 1000 t)
  c_LETTERS : ∃ t, mg "LETTERS" = some (.str "abcdefghijklmnopqrstuvwxyz" t)
  cl_Table : Cls K (He.ga K "Table")
  mk_Table : Mk K (He.ga K "Table") (He.ma K (He.ga K "Table") "__init__")
  na_Table_kinds : NoAttr K (He.ga K "Table") "kinds"
  na_Table_pairs : NoAttr K (He.ga K "Table") "pairs"
  na_Table_linked : NoAttr K (He.ga K "Table") "linked"
  cl_Row : Cls K (He.ga K "Row")
  mk_Row : Mk K (He.ga K "Row") (He.ma K (He.ga K "Row") "__init__")
  na_Row_table : NoAttr K (He.ga K "Row") "table"
  na_Row_syllables : NoAttr K (He.ga K "Row") "syllables"
  cl_Version : Cls K (He.ga K "Version")
  mk_Version : Mk K (He.ga K "Version") (He.ma K (He.ga K "Version") "__init__")
  na_Version_table : NoAttr K (He.ga K "Version") "table"
  na_Version_syllables : NoAttr K (He.ga K "Version") "syllables"
  na_Version_row : NoAttr K (He.ga K "Version") "row"
  na_Version_kinds : NoAttr K (He.ga K "Version") "kinds"
  na_Version_layers : NoAttr K (He.ga K "Version") "layers"
  na_Version_last : NoAttr K (He.ga K "Version") "last"
  cl_Store : Cls K (He.ga K "Store")
  mk_Store : Mk K (He.ga K "Store") (He.ma K (He.ga K "Store") "__init__")
  na_Store_size : NoAttr K (He.ga K "Store") "size"
  na_Store_own_moves : NoAttr K (He.ga K "Store") "own_moves"
  na_Store_rings : NoAttr K (He.ga K "Store") "rings"
  me_Table_links : Meth K (He.ga K "Table") "links" (He.ma K (He.ga K "Table") "links")
  me_Row_moved : Meth K (He.ga K "Row") "moved" (He.ma K (He.ga K "Row") "moved")
  me_Row_without : Meth K (He.ga K "Row") "without" (He.ma K (He.ga K "Row") "without")
  me_Store_keeps : Meth K (He.ga K "Store") "keeps" (He.ma K (He.ga K "Store") "keeps")
  me_Store_clash : Meth K (He.ga K "Store") "clash" (He.ma K (He.ga K "Store") "clash")
  bm_Row_without : BMeth K (He.ga K "Row") "without" (He.ma K (He.ga K "Row") "without")
  cm_Table_of_cells : ClX.CMet K (He.ga K "Table") (.type "type") "of_cells" (He.ma K (He.ga K "Table") "of_cells") (He5.wf K (He.ga K "Table") "classmethod" "of_cells")
  cm_Version_of : ClX.CMet K (He.ga K "Version") (.type "type") "of" (He.ma K (He.ga K "Version") "of") (He5.wf K (He.ga K "Version") "classmethod" "of")
  rd_Table : ClX.CRead K (He.ga K "Table") (.type "type")
  eq_Table : PySem.W.findIn K (.ref (He.ga K "Table")) "__eq__" = some (some (.ref (He.ma K (He.ga K "Table") "__eq__")))
  eqf_Table : PySem.W.isFn K (.ref (He.ma K (He.ga K "Table") "__eq__")) = true
  nf_Table : PySem.W.notFirst K (He.ga K "Table") (.ref (He.ga K "Table")) = true
  is_Table : Isi K (He.ga K "Table")
  rd_Version : ClX.CRead K (He.ga K "Version") (.type "type")
  eq_Version : PySem.W.findIn K (.ref (He.ga K "Version")) "__eq__" = some (some (.ref (He.ma K (He.ga K "Version") "__eq__")))
  eqf_Version : PySem.W.isFn K (.ref (He.ma K (He.ga K "Version") "__eq__")) = true
  nf_Version : PySem.W.notFirst K (He.ga K "Version") (.ref (He.ga K "Version")) = true
  is_Version : Isi K (He.ga K "Version")
  ne_Table : PySem.W.findIn K (.ref (He.ga K "Table")) "__ne__" = some (some (.builtin "object.__ne__"))
  inv_Row : PySem.W.findIn K (.ref (He.ga K "Row")) "__invert__" = some (some (.ref (He.ma K (He.ga K "Row") "__invert__")))
  invf_Row : PySem.W.isFn K (.ref (He.ma K (He.ga K "Row") "__invert__")) = true
  add_Row : PySem.W.findIn K (.ref (He.ga K "Row")) "__add__" = some (some (.ref (He.ma K (He.ga K "Row") "__add__")))
  addf_Row : PySem.W.isFn K (.ref (He.ma K (He.ga K "Row") "__add__")) = true
  radd_Row : PySem.W.findIn K (.ref (He.ga K "Row")) "__radd__" = some none
  sf_Row : PySem.W.selfFirst K (He.ga K "Row") = true
  co_Store : CallO K (He.ga K "Store") (He.ma K (He.ga K "Store") "__call__")

/-! ### tuples that stand -/
def TupS (H H' : Hp) : Prop := ∀ b xs, H b = some (.tup xs) → H' b = some (.tup xs)
theorem TupS.refl (H : Hp) : TupS H H := fun _ _ h => h
theorem TupS.trans {H H1 H2 : Hp} (a : TupS H H1) (b : TupS H1 H2) : TupS H H2 := fun c xs h => b c xs (a c xs h)
theorem Smt {H H' : Hp} (s : Same H H') : TupS H H' := fun b xs h => s b _ h
theorem Smn {H : Hp} {p : Addr} {o : HO} (h : H p = none) : Same H (upd H p o) := fun b u e => by rw [upd_ne (ne_of_none e h)]; exact e
/-- a syllable, a pair of texts, as tuples -/
def SylV (H : Hp) (v : V) (s : Str × Int) : Prop := ∃ a, v = V.ref a ∧ H a = some (.tup [.str s.1, .int s.2])
def PrV (H : Hp) (v : V) (p : Str × Str) : Prop := ∃ a, v = V.ref a ∧ H a = some (.tup [.str p.1, .str p.2])
theorem SylV.mono {H H' : Hp} (t : TupS H H') {v : V} {s : Str × Int} (h : SylV H v s) : SylV H' v s := let ⟨a, e, q⟩ := h; ⟨a, e, t _ _ q⟩
theorem PrV.mono {H H' : Hp} (t : TupS H H') {v : V} {s : Str × Str} (h : PrV H v s) : PrV H' v s := let ⟨a, e, q⟩ := h; ⟨a, e, t _ _ q⟩
abbrev Syls (H : Hp) (vs : List V) (ss : List (Str × Int)) : Prop := Paired (SylV H) vs ss
abbrev Prs (H : Hp) (vs : List V) (ps : List (Str × Str)) : Prop := Paired (PrV H) vs ps
theorem Syls.mono {H H' : Hp} (t : TupS H H') {vs : List V} {ss : List (Str × Int)} (h : Syls H vs ss) : Syls H' vs ss := Paired.mapP h fun _ _ q => q.mono t
theorem Prs.mono {H H' : Hp} (t : TupS H H') {vs : List V} {ss : List (Str × Str)} (h : Prs H vs ss) : Prs H' vs ss := Paired.mapP h fun _ _ q => q.mono t
theorem Pr.len {α β : Type} {F : α → β → Prop} : ∀ {xs : List α} {ys : List β}, Paired F xs ys → xs.length = ys.length
  | _, _, .nil => rfl
  | _, _, .cons _ t => congrArg Nat.succ (Pr.len t)
theorem Pr.get {α β : Type} {F : α → β → Prop} : ∀ {xs : List α} {ys : List β}, Paired F xs ys → ∀ {i : Nat} {x : α}, xs[i]? = some x → ∃ y, ys[i]? = some y ∧ F x y
  | _, _, .nil, i, x, h => by cases h
  | _, _, .cons r t, 0, x, h => by
    have e := Option.some.inj h
    subst e
    exact ⟨_, rfl, r⟩
  | _, _, .cons r t, i + 1, x, h => Pr.get t h
theorem Pr.get2 {α β : Type} {F : α → β → Prop} : ∀ {xs : List α} {ys : List β}, Paired F xs ys → ∀ {i : Nat} {y : β}, ys[i]? = some y → ∃ x, xs[i]? = some x ∧ F x y
  | _, _, .nil, i, x, h => by cases h
  | _, _, .cons r t, 0, x, h => by
    have e := Option.some.inj h
    subst e
    exact ⟨_, rfl, r⟩
  | _, _, .cons r t, i + 1, x, h => Pr.get2 t h
theorem Pr.app {α β : Type} {F : α → β → Prop} : ∀ {xs xs' : List α} {ys ys' : List β}, Paired F xs ys → Paired F xs' ys' → Paired F (xs ++ xs') (ys ++ ys')
  | _, _, _, _, .nil, q => q
  | _, _, _, _, .cons r t, q => .cons r (Pr.app t q)
theorem Pr.one {α β : Type} {F : α → β → Prop} {x : α} {y : β} (h : F x y) : Paired F [x] [y] := .cons h .nil

theorem flatS (ys : List Str) : (ys.map V.str).all flatV = true := List.all_eq_true.mpr fun v hv => by
  obtain ⟨y, _, rfl⟩ := List.mem_map.mp hv
  rfl
theorem flatI (ys : List Int) : (ys.map V.int).all flatV = true := List.all_eq_true.mpr fun v hv => by
  obtain ⟨y, _, rfl⟩ := List.mem_map.mp hv
  rfl
theorem inV_str (z : Str) : ∀ ys : List Str, inV (.str z) (ys.map V.str) = decide (z ∈ ys)
  | [] => by simp [inV]
  | y :: r => by
    have ih := inV_str z r
    unfold inV at ih ⊢
    rw [List.map_cons, List.any_cons, ih]
    by_cases e : y = z
    · subst e
      simp [eqV]
    · have ne : (y == z) = false := by simpa using e
      show ((y == z) || decide (z ∈ r)) = _
      rw [ne, Bool.false_or]
      have : z ≠ y := fun q => e q.symm
      simp [this]
theorem inV_int (z : Int) : ∀ ys : List Int, inV (.int z) (ys.map V.int) = decide (z ∈ ys)
  | [] => by simp [inV]
  | y :: r => by
    have ih := inV_int z r
    unfold inV at ih ⊢
    rw [List.map_cons, List.any_cons, ih]
    by_cases e : y = z
    · subst e
      simp [eqV]
    · have ne : (y == z) = false := by simpa using e
      show ((y == z) || decide (z ∈ r)) = _
      rw [ne, Bool.false_or]
      have : z ≠ y := fun q => e q.symm
      simp [this]

/-! ### a table -/
abbrev lk (fs : List (Str × V)) (x : Str) : Option V := fs.lookup x
structure Tb where
  kinds : List Str
  pairs : List (Str × Str)
def slt (a b : Str) : Bool := decide (a.cps.toList < b.cps.toList)
def ip (a b : Str) : Str × Str := if slt a b = true then (a, b) else (b, a)
def Tb.fr (T : Tb) (a b : Str) : Bool := decide (ip a b ∈ T.pairs)
def Tb.links (T : Tb) (k : Str) : List Str := T.kinds.filter fun o => !T.fr k o
def lettersL : List Nat := ("abcdefghijklmnopqrstuvwxyz" : Str).cps.toList
def nameOk (z : Str) : Prop := 1 ≤ z.length ∧ z.length ≤ 6 ∧ ∀ c ∈ z.cps.toList, c ∈ lettersL
structure TbOk (T : Tb) : Prop where
  nd : T.kinds.Nodup
  name : ∀ k ∈ T.kinds, nameOk k
  few : T.kinds.length ≤ 12
  pos : 0 < T.kinds.length
  irr : ∀ k, T.fr k k = false
  sub : ∀ p ∈ T.pairs, p.1 ∈ T.kinds ∧ p.2 ∈ T.kinds
  pfew : T.pairs.length ≤ 1000
  norm : ∀ p ∈ T.pairs, ip p.1 p.2 = p
structure TabAt (K : PySem.W.Frag) (H : Hp) (t : Addr) (T : Tb) : Prop where
  ok : TbOk T
  ex : ∃ dx fs ks ps ln kvs pvs, H t = some (.ins (He.ga K "Table") dx fs) ∧ lk fs "links" = none ∧ lk fs "kinds" = some (.ref ks) ∧ H ks = some (.tup (T.kinds.map V.str)) ∧
    lk fs "pairs" = some (.ref ps) ∧ H ps = some (.tup pvs) ∧ Prs H pvs T.pairs ∧ lk fs "linked" = some (.ref ln) ∧ H ln = some (.dK kvs) ∧
    ∀ k ∈ T.kinds, ∃ la, valV kvs (.inr k) = some (.ref la) ∧ H la = some (.tup ((T.links k).map V.str))
theorem TabAt.mono {K : PySem.W.Frag} {H H' : Hp} {t : Addr} {T : Tb} (s : Same H H') (h : TabAt K H t T) : TabAt K H' t T := by
  obtain ⟨dx, fs, ks, ps, ln, kvs, pvs, h1, h2, h3, h4, h5, h6, h7, h8, h9, h10⟩ := h.ex
  exact ⟨h.ok, dx, fs, ks, ps, ln, kvs, pvs, s _ _ h1, h2, h3, s _ _ h4, h5, s _ _ h6, h7.mono (Smt s), h8, s _ _ h9, fun k hk => let ⟨la, q1, q2⟩ := h10 k hk; ⟨la, q1, s _ _ q2⟩⟩
theorem slt_total {a b : Str} (h1 : slt a b = false) (h2 : slt b a = false) : a = b := by
  unfold slt at h1 h2
  have e : a.cps.toList = b.cps.toList := List.le_antisymm (List.not_lt.mp (of_decide_eq_false h2)) (List.not_lt.mp (of_decide_eq_false h1))
  have e2 := Array.toList_inj.mp e
  cases a
  cases b
  dsimp only at e2
  rw [e2]
theorem slt_asymm {a b : Str} (h1 : slt a b = true) : slt b a = false := by
  unfold slt at h1 ⊢
  exact decide_eq_false (List.not_lt.mpr (List.le_of_lt (of_decide_eq_true h1)))
theorem ip_comm (a b : Str) : ip a b = ip b a := by
  unfold ip
  cases h1 : slt a b with
  | true =>
    rw [slt_asymm h1]
    rfl
  | false =>
    cases h2 : slt b a with
    | true => rfl
    | false =>
      rw [slt_total h1 h2]
theorem ip_idem (a b : Str) : ip (ip a b).1 (ip a b).2 = ip a b := by
  cases h : slt a b with
  | true =>
    have e : ip a b = (a, b) := by
      unfold ip
      rw [h]
      rfl
    rw [e]
    exact e
  | false =>
    have e : ip a b = (b, a) := by
      unfold ip
      rw [h]
      rfl
    rw [e, ip_comm]
    exact e
theorem Tb.fr_comm (T : Tb) (a b : Str) : T.fr a b = T.fr b a := by
  unfold Tb.fr
  rw [ip_comm]
theorem Tb.mem_links {T : Tb} {k o : Str} : o ∈ T.links k ↔ o ∈ T.kinds ∧ T.fr k o = false := by
  unfold Tb.links
  rw [List.mem_filter]
  simp
theorem nameOk.strOk {z : Str} (h : nameOk z) : PyData.strOk z = true := by
  have key : ∀ c ∈ lettersL, c < 1114112 := by decide +kernel
  unfold PyData.strOk
  rw [Array.all_eq_true_iff_forall_mem]
  intro c hc
  exact decide_eq_true (key c (h.2.2 c (by simpa using hc)))
end Un

/-! ## B2 -/
set_option Elab.async false
set_option linter.all false
set_option maxRecDepth 100000
set_option maxHeartbeats 4000000
/-! Loops and comprehensions that only make new things. -/
namespace Un
open PySem PySem.Spec PyProof.Rows L2 StX
theorem take_snoc {α : Type} {l : List α} {i : Nat} {x : α} (h : l[i]? = some x) : l.take (i + 1) = l.take i ++ [x] := by
  rw [List.take_succ, h]
  rfl
theorem filt_snoc {α : Type} {l : List α} {i : Nat} {x : α} (keep : α → Bool) (h : l[i]? = some x) : (l.take (i + 1)).filter keep = (l.take i).filter keep ++ (if keep x = true then [x] else []) := by
  rw [take_snoc h, List.filter_append, List.filter_cons]
  by_cases c : keep x = true
  · rw [if_pos c, if_pos c]
    rfl
  · rw [if_neg c, if_neg c]
    rfl
/-- a comprehension whose steps only make new things: R tells an item's value -/
theorem lcP {J : It} {n : Nat} {G : Hp → Prop} {Y : Nat → Hp → V → Hp → Prop} (w : Walk J n G Y) {α : Type} (zs : List α) (hn : n = zs.length) (keep : α → Bool) (R : α → V → Hp → Prop)
    {g : TG} {tt : TT} {te : TE} {vs : List Nat} {σ : L2.St} {H1 : Hp} {D : Addr} {Qd : Hp → Prop} (hD : H1 D = none) (hz : zs.length ≤ 1000000)
    (hG : ∀ H, Same H1 H → G H) (hR : ∀ z v H H', Same H H' → R z v H → R z v H') (hR2 : ∀ z v H acc ys, H D = some (.lst acc) → Same H1 H → R z v H → R z v (upd H D (.lst ys)))
    (hs : ∀ i z x H H' (K4 : V → Hp → Prop) (K3 : Hp → Prop), zs[i]? = some z → Same H1 H → (∃ acc, H D = some (.lst acc)) → Y i H x H' → (keep z = true → ∀ y H4, Same H H4 → R z y H4 → K4 y H4) → (keep z = false → ∀ H3, Same H H3 → K3 H3) →
      g x (wipe σ vs) H' fun σ2 H2 => wipe σ2 vs = wipe σ vs ∧ tt σ2 H2 fun b H3 => if b = true then te σ2 H3 K4 else K3 H3)
    (hd : ∀ H acc, Same H1 H → H D = some (.lst acc) → Paired (fun v z => R z v H) acc (zs.filter keep) → Qd H) :
    ∃ W : Nat → Nat → Hp → Prop, (∃ m, W 0 m (upd H1 D (.lst []))) ∧ ∀ i m H, W i m H →
      (J.stop i H ∧ Qd H) ∨ (J.go i H ∧ ∃ Nx : Hp → Prop, (∀ H', Nx H' → ∃ m', m' < m ∧ W (i + 1) m' H') ∧ ∀ x H', J.yld i H x H' → g x (wipe σ vs) H' fun σ2 H2 => wipe σ2 vs = wipe σ vs ∧ tt σ2 H2 fun b H3 =>
        if b = true then te σ2 H3 fun y H4 => ∃ acc, H4 D = some (.lst acc) ∧ acc.length < sizeLine ∧ Nx (upd H4 D (.lst (acc ++ [y]))) else Nx H3) := by
  have line : (1000000 : Nat) < sizeLine := by rw [sizeLine_eq]; decide
  refine lc_it w (fun i H => Same H1 H ∧ ∃ acc, H D = some (.lst acc) ∧ Paired (fun v z => R z v H) acc ((zs.take i).filter keep)) ⟨Smn hD, [], upd_same, by simp; exact .nil⟩ (fun i H _ p => hG H p.1) ?_ ?_
  · rintro i x H H' hi ⟨S, acc, hA, hP⟩ y
    obtain ⟨z, hzi⟩ : ∃ z, zs[i]? = some z := ⟨_, List.getElem?_eq_getElem (hn ▸ hi)⟩
    have hl : acc.length < sizeLine := by
      have e1 := Pr.len hP
      have e2 : ((zs.take i).filter keep).length ≤ zs.length := Nat.le_trans (List.length_filter_le _ _) (by rw [List.length_take]; omega)
      omega
    refine hs i z x H H' _ _ hzi S ⟨acc, hA⟩ y (fun hk v H4 S4 r => ⟨acc, S4 _ _ hA, hl, fun b o e => ?_, acc ++ [v], upd_same, ?_⟩) (fun hk H3 S3 => ⟨S.trans S3, acc, S3 _ _ hA, ?_⟩)
    · rw [upd_ne (ne_of_none e hD)]
      exact S4 _ _ (S _ _ e)
    · rw [filt_snoc keep hzi, if_pos hk]
      exact Pr.app (Paired.mapP hP fun a b q => hR2 _ _ _ acc _ (S4 _ _ hA) (S.trans S4) (hR _ _ _ _ S4 q)) (Pr.one (hR2 _ _ _ acc _ (S4 _ _ hA) (S.trans S4) r))
    · rw [filt_snoc keep hzi, if_neg (by rw [hk]; exact Bool.false_ne_true), List.append_nil]
      exact Paired.mapP hP fun a b q => hR _ _ _ _ S3 q
  · rintro H ⟨S, acc, hA, hP⟩
    refine hd H acc S hA ?_
    rw [hn, List.take_length] at hP
    exact hP
/-- .. all kept, the value a plain one -/
theorem Pr.eqmap {α : Type} {f : α → V} {H : Hp} : ∀ {vs : List V} {zs : List α}, Paired (fun v z => v = f z) vs zs → vs = zs.map f
  | _, _, .nil => rfl
  | _, _, .cons e t => by rw [List.map_cons, e, ← Pr.eqmap (H := H) t]
theorem filter_all {α : Type} (l : List α) : l.filter (fun _ => true) = l := List.filter_eq_self.mpr fun _ _ => rfl
/-- a plain value's case of lcP -/
theorem lcV {J : It} {n : Nat} {G : Hp → Prop} {Y : Nat → Hp → V → Hp → Prop} (w : Walk J n G Y) {α : Type} (zs : List α) (hn : n = zs.length) (keep : α → Bool) (f : α → V)
    {g : TG} {tt : TT} {te : TE} {vs : List Nat} {σ : L2.St} {H1 : Hp} {D : Addr} {Qd : Hp → Prop} (hD : H1 D = none) (hz : zs.length ≤ 1000000) (hG : ∀ H, Same H1 H → G H)
    (hs : ∀ i z x H H' (K4 : V → Hp → Prop) (K3 : Hp → Prop), zs[i]? = some z → Same H1 H → (∃ acc, H D = some (.lst acc)) → Y i H x H' → (keep z = true → ∀ H4, Same H H4 → K4 (f z) H4) → (keep z = false → ∀ H3, Same H H3 → K3 H3) →
      g x (wipe σ vs) H' fun σ2 H2 => wipe σ2 vs = wipe σ vs ∧ tt σ2 H2 fun b H3 => if b = true then te σ2 H3 K4 else K3 H3)
    (hd : ∀ H, Same H1 H → H D = some (.lst ((zs.filter keep).map f)) → Qd H) :
    ∃ W : Nat → Nat → Hp → Prop, (∃ m, W 0 m (upd H1 D (.lst []))) ∧ ∀ i m H, W i m H →
      (J.stop i H ∧ Qd H) ∨ (J.go i H ∧ ∃ Nx : Hp → Prop, (∀ H', Nx H' → ∃ m', m' < m ∧ W (i + 1) m' H') ∧ ∀ x H', J.yld i H x H' → g x (wipe σ vs) H' fun σ2 H2 => wipe σ2 vs = wipe σ vs ∧ tt σ2 H2 fun b H3 =>
        if b = true then te σ2 H3 fun y H4 => ∃ acc, H4 D = some (.lst acc) ∧ acc.length < sizeLine ∧ Nx (upd H4 D (.lst (acc ++ [y]))) else Nx H3) :=
  lcP w zs hn keep (fun z v _ => v = f z) hD hz hG (fun _ _ _ _ _ q => q) (fun _ _ _ _ _ _ _ q => q)
    (fun i z x H H' K4 K3 h1 S hA y k1 k2 => hs i z x H H' K4 K3 h1 S hA y (fun hk H4 S4 => k1 hk _ H4 S4 rfl) k2) fun H acc S hA hP => hd H S (by rw [← Pr.eqmap (H := H) hP]; exact hA)
/-- a test that is no test -/
theorem yes_ {K4 K3 : Prop} (h : K4) : (if true = true then K4 else K3) := by rw [if_pos rfl]; exact h
/-! ### rules within a comprehension's block: the written part named -/
section
variable {X : Cx} {K : PySem.W.Frag} {tg e : Expr} {es : List Expr} {te : TE} {t : TA}
theorem op_in_seq' (hK : X.K = K) : OpR X (compareOp .In) (rIn K false) := hK ▸ op_in_seq
theorem op_notIn_seq' (hK : X.K = K) : OpR X (compareOp .NotIn) (rIn K true) := hK ▸ op_notIn_seq
theorem ix_list' (hK : X.K = K) : IxR X (rIxL K) := hK ▸ ix_list
theorem ix_tup' (hK : X.K = K) : IxR X (rIxT K) := hK ▸ ix_tup
theorem op_inD' (hK : X.K = K) (hu : X.A.units + 65 < cLine) : OpR X (compareOp .In) (rInD K) := hK ▸ op_inD hu
theorem call_len' (hK : X.K = K) : CallR X (.builtin "len") (fun xs H Q => ∃ x n, xs = [x] ∧ LenV K x H n ∧ Q (.int n) H) := hK ▸ call_len
theorem pe_fld' {f : Str} {pos : Pos} (hK : X.K = K) (he : PE X e te) (hb : attributeBase e f X.env (eval e X.env) = eval e X.env) : PE X (.Attribute e f pos) (tFld K te f) := hK ▸ pe_fld he hb
theorem pg_tup' {k : Nat} {pos : Pos} {tt : TGs} {n : Nat} (hK : X.K = K) (hc : X.calm = true) (h : PGs X es tt) (hn : (assignEach es X.env).length = n := by rfl) (hst : (assignEach es X.env).findIdx? (·.1) = none := by rfl) : PG X (.Tuple es k pos) (gTup K n tt) := hK ▸ pg_tup hc h hn hst
theorem pi_list' (hK : X.K = K) (hl : PE X e te) : PI X tg e (iList K te) := hK ▸ pi_list hl
theorem pi_tup' (hK : X.K = K) (hl : PE X e te) : PI X tg e (iTup K te) := hK ▸ pi_tup hl
theorem pa_star' {p : Pos} (hK : X.K = K) (he : PE X e te) (hr : PA X es t) (hs : starEach (.Starred e p :: es) X.env = (true, eval e X.env) :: starEach es X.env := by rfl) : PA X (.Starred e p :: es) (tStar K te t) := hK ▸ pa_star he hr hs
end
end Un

/-! ## B3 -/
set_option Elab.async false
set_option linter.all false
set_option maxRecDepth 100000
set_option maxHeartbeats 4000000
/-! Rules: freezing a dict, enumerate and zip over lists and tuples of either kind, a tuple turned round. -/
namespace Un
open PySem PySem.Spec PyProof.Rows L2 StX
section
variable {X : Cx}
theorem pe_frz {e : Expr} {t : TE} (h : PE X e t) : PE X e (tFrz t) := by
  refine ⟨fun pins s σ H Q I hw => ?_⟩
  refine thn (h.run pins s σ H _ I hw) fun v s1 ⟨x, H1, I1, r, d, kvs, ex, hd, q⟩ => ?_
  obtain ⟨od, I2⟩ := I1.lock hd trivial
  exact ⟨x, _, I2, r, q od⟩
end
/-! ### lists and tuples by a flag -/
def SqB (K : PySem.W.Frag) (k : Bool) (H : Hp) (a : Addr) (xs : List V) : Prop := match k with
  | true => SqL K H a xs
  | false => SqT K H a xs
def ObB (k : Bool) (h : Heap) (a : Addr) (items : Array Value) : Prop := match k with
  | true => h.IsList a items
  | false => h.IsTuple a items
def IterB (k : Bool) (h : Heap) (it a : Addr) (i : Nat) : Prop := match k with
  | true => h.IsListIter it a i
  | false => h.IsTupleIter it a i
def iterOb (k : Bool) (a : Addr) : Obj := match k with
  | true => { cls := .type "list_iterator", data := .fields #[.ref a, .int 0 0] }
  | false => { cls := .type "tuple_iterator", data := .fields #[.ref a, .int 0 0] }
section
variable {X : Cx} {pins : List (Addr × Obj)} {σ : L2.St} {H : Hp} {s : Shared} {k : Bool} {a : Addr} {xs ys : List V}
theorem sqb_ob (I : Inv X pins σ H s) (q : SqB X.K k H a xs) : ∃ its : List Value, Vals xs its ∧ ObB k s.heap a its.toArray ∧ xs.length ≤ sizeLine := by
  cases k with
  | true =>
    obtain ⟨its, r, p, z⟩ := I.list q
    exact ⟨its, r, p.isList, z⟩
  | false =>
    obtain ⟨its, r, p, z⟩ := I.tuple q
    exact ⟨its, r, p, z⟩
theorem sqb_inj (I : Inv X pins σ H s) (q : SqB X.K k H a xs) (q' : SqB X.K k H a ys) : xs = ys := by
  cases k with
  | true => exact I.list_inj q q'
  | false => exact I.tuple_inj q q'
end
theorem IterB.at {k : Bool} {h h' : Heap} {it a : Addr} {i : Nat} (x : IterB k h it a i) (e : ∀ o, h.get? it = some o → h'.get? it = some o) : IterB k h' it a i := by
  cases k with
  | true => exact Heap.IsListIter.at x e
  | false =>
    obtain ⟨o, ho, r⟩ := x
    exact ⟨o, e _ ho, r⟩
theorem IterB.ob {k : Bool} {h : Heap} {it a : Addr} {i : Nat} (x : IterB k h it a i) : ∃ o, h.get? it = some o ∧ ∀ v, o.data ≠ .cell v := by
  cases k with
  | true =>
    obtain ⟨o, ho, c, d⟩ := x
    exact ⟨o, ho, fun v q => by rw [d] at q; cases q⟩
  | false =>
    obtain ⟨o, ho, c, d⟩ := x
    exact ⟨o, ho, fun v q => by rw [d] at q; cases q⟩
theorem draws_B {prog : Program} {w : World} {A : Around} (hh : A.handled = none) (k : Bool) (it a : Addr) (hne : a ≠ it) (items : Array Value) :
    Draws prog w A it [it, a] items.size (fun i v => items[i]? = some v) (fun i h => IterB k h it a i ∧ ObB k h a items) := by
  cases k with
  | true => exact Draws.list hh it a hne items
  | false => exact Draws.tuple hh it a hne items
theorem begins_B (k : Bool) (a : Addr) (items : Array Value) : Begins (.ref a) (iterOb k a) fun h => ObB k h a items := by
  cases k with
  | true => exact begins_list a items
  | false => exact begins_tuple a items
theorem iterB_new {k : Bool} {h : Heap} {it a : Addr} (e : h.get? it = some (iterOb k a)) : IterB k h it a 0 := by
  cases k with
  | true => exact ⟨_, e, rfl, rfl⟩
  | false => exact ⟨_, e, rfl, rfl⟩
/-! ### enumerate -/
def IteB (K : PySem.W.Frag) (k : Bool) (a : Addr) : It :=
  ⟨fun i H => ∃ (xs : List V) (x : V), SqB K k H a xs ∧ xs[i]? = some x, fun i H v H' => ∃ T x, v = .ref T ∧ H T = none ∧ H' = upd H T (.tup [.int (i : Nat), x]) ∧ ∀ xs, SqB K k H a xs → xs[i]? = some x, fun i H => ∃ xs : List V, SqB K k H a xs ∧ xs.length = i⟩
theorem turn_enumB {P : Program} {w : World} {K : PySem.W.Frag} {elts : List Expr} {kk : Nat} {tpos : Pos} (k : Bool) (a e it : Addr) :
    Turn P w K (.Tuple elts kk tpos) (IteB K k a) [e, it] e (fun i h => (∃ old, IsEnum h e it ((i : Nat) : Int) old) ∧ IterB k h it a i ∧ e ≠ it ∧ a ≠ it ∧ e ≠ a) where
  mem := by simp
  obj := fun i h st b hb => by
    obtain ⟨⟨old, he⟩, hit, _⟩ := st
    have e' : b = e ∨ b = it := by simpa using hb
    rcases e' with z | z
    · rw [z]; exact ⟨_, he, fun v q => nomatch q⟩
    · rw [z]; exact hit.ob
  keep := fun i h h' st k => let ⟨⟨old, he⟩, hi, hne⟩ := st; ⟨⟨old, k e (by simp) _ he⟩, hi.at fun o q => k it (by simp) o q, hne⟩
  item := by
    intro X hP hw hK hc i pins s σ H E I hf st hg
    subst hP hw hK
    obtain ⟨⟨old, he⟩, hit, hne, hai, hea⟩ := st
    obtain ⟨xs, x, hq, hx⟩ := hg
    obtain ⟨its, rv, p, hz⟩ := sqb_ob I hq
    obtain ⟨u, hu, ru⟩ := rv.get hx
    have hel : e < s.heap.objs.size := Heap.lt_size he
    have hil : it < s.heap.objs.size := by obtain ⟨_, q, _⟩ := hit.ob; exact Heap.lt_size q
    have hlt : i < its.toArray.size := by
      have := (List.getElem?_eq_some_iff.mp hu).1
      simpa using this
    refine wpAny_pyNext_enum_itemD (draws_B (A := X.A.in1) (show X.A.in1.handled = none from I.ok.hd hc) k it a hai its.toArray) he ⟨hit, p⟩ hlt hne (by simp [hne, hea]) fun x' h' tk hx' ho hst' hT hsz hk => ?_
    have ex : x' = u := by
      rw [List.getElem?_toArray, hu] at hx'
      exact (Option.some.inj hx').symm
    subst ex
    refine ⟨_, rfl, wpAny_letOwnedTupleGo_enum (s := { s with heap := h', toks := tk + 1 }) ho fun h'' he' sb => ?_⟩
    have hT2 : h''.get? s.heap.objs.size = some { cls := .type "tuple", data := .seq #[.int i tk, x'] } := (sb.2 _ (Nat.ne_of_gt hel)).trans hT
    have new : ObjOk X.prog X.w (upd H s.heap.objs.size (.tup [.int (i : Nat), x])) h'' s.heap.objs.size (.tup [.int (i : Nat), x]) :=
      ⟨by show 2 ≤ sizeLine; decide, [.int i tk, x'], .cons ⟨_, rfl⟩ (.cons ru .nil), ⟨_, hT2, rfl, _, rfl⟩⟩
    have I1 : Inv X pins σ (upd H s.heap.objs.size (.tup [.int (i : Nat), x])) { s with heap := h'', toks := tk + 1 } :=
      I.turnedNew (ch := [e, it]) (fun b ob hb q => (sb.2 b (fun z => hb (by simp [z]))).trans (hk b ob (fun z => hb (by simp [z])) (fun z => hb (by simp [z])) q)) hf (Nat.le_refl _) new
    refine ⟨.ref s.heap.objs.size, _, I1, rfl, ⟨_, x, rfl, I.hok.fresh (Nat.le_refl _), rfl, fun ys hy => by rw [sqb_inj I hy hq]; exact hx⟩, ⟨⟨x', ?_⟩, hst'.1.at fun o q => (sb.2 it (Ne.symm hne)).trans q, hne, hai, hea⟩, fun b hb => ?_⟩
    · have e1 : ((i + 1 : Nat) : Int) = (i : Int) + 1 := by omega
      rw [e1]; exact he'
    · have hb' : b < s.heap.objs.size := by
        have e' : b = e ∨ b = it := by simpa using hb
        rcases e' with z | z
        · rw [z]; exact hel
        · rw [z]; exact hil
      rw [upd_ne (Nat.ne_of_lt hb')]
      exact (hf b hb).1
  done := by
    intro X hP hw hK hc i pins s σ H E I hf st hg
    subst hP hw hK
    obtain ⟨⟨old, he⟩, hit, hne, hai, hea⟩ := st
    obtain ⟨xs, hq, hx⟩ := hg
    obtain ⟨its, rv, p, hz⟩ := sqb_ob I hq
    obtain ⟨f0, f1, f2, f3, f4, f5⟩ := hf it (by simp)
    have hl := rv.length
    have ei : i = its.toArray.size := by rw [List.size_toArray]; omega
    subst ei
    exact wpAny_pyNext_enum_endD (draws_B (A := X.A.in1) (show X.A.in1.handled = none from I.ok.hd hc) k it a hai its.toArray) he ⟨hit, p⟩ fun h' eb => ⟨rfl, I.turned (t' := s.toks) (fun b o hb q => eb b o hb q) f0 f1 f3 f4 f5⟩
  self := fun A i s Q E st h => let ⟨⟨_, he⟩, _⟩ := st; wpAny_pyIter_enum he h
theorem meets_enumB {v : Value} {o : Obj} {H : Heap → Prop} (B : Begins v o H) :
    Meets (Builtin.«enumerate.__new__» ⟨[.type "enumerate", v], []⟩) (fun _ R s => H s.heap ∧
      R (.ok (.ret (.ref (s.heap.push o).objs.size))) { s with heap := (s.heap.push o).push { cls := .type "enumerate", data := .fields #[.none, .bool false, .ref s.heap.objs.size, rawInt 0, .none, .none] } }) :=
  .of_wp fun prog w A R s h => by
    obtain ⟨hp, g, d, tk, os⟩ := s; obtain ⟨h1, h⟩ := h
    have hsub := sub_enumerate
    have q1 : ∀ {A' : Around} {E : Value → Shared → Prop} {Q : Value → Shared → Prop}, Q (.ref hp.objs.size) ⟨hp.push o, g, d, tk, os⟩ → wpAny (model prog w) A' (pyIter v) Q E ⟨hp, g, d, tk, os⟩ :=
      fun q => B.iter prog w _ _ ⟨hp, g, d, tk, os⟩ _ h1 q
    wp_walk using q1
    refine wpAny_stack_any fun st => wpAny_pure ?_
    split
    · rename_i c _ _ _ _ _
      cases (c == Value.type "enumerate")
      · wp_walk using q1
        exact ⟨_, rfl, h⟩
      · wp_walk using q1
        exact ⟨_, rfl, h⟩
    · wp_walk using q1
      exact ⟨_, rfl, h⟩
theorem call_enumB {prog : Program} {w : World} {A : Around} {E : Value → Shared → Prop} {s : Shared} {v : Value} {o : Obj} {H : Heap → Prop} {Q : Value → Shared → Prop} (B : Begins v o H) (h1 : H s.heap)
    (h : ∀ h', IsEnum h' (s.heap.objs.size + 1) s.heap.objs.size 0 .none → h'.get? s.heap.objs.size = some o → h'.objs.size = s.heap.objs.size + 2 →
      (∀ b o, s.heap.get? b = some o → h'.get? b = some o) → Q (.ref (s.heap.objs.size + 1)) { s with heap := h' }) :
    wpAny (model prog w) A (call (.type "enumerate") [v]) Q E s := by
  refine callType_new F.called_enumerate (by decide) (F.typeCall_enumerate_1 _) (F.newCall_enumerate_1 _) (fun obj => F.args_object_init_2 obj _) F.entry_enumerate_new
    (meets_enumB B) ⟨h1, ?_⟩
  have hz : (s.heap.push o).objs.size = s.heap.objs.size + 1 := Heap.size_push ..
  show _ ∧ _
  rw [hz]
  have he : IsEnum ((s.heap.push o).push { cls := .type "enumerate", data := .fields #[.none, .bool false, .ref s.heap.objs.size, rawInt 0, .none, .none] }) (s.heap.objs.size + 1) s.heap.objs.size 0 .none := by
    have := Heap.get?_push_size (s.heap.push o) (o := { cls := .type "enumerate", data := .fields #[.none, .bool false, .ref s.heap.objs.size, rawInt 0, .none, .none] }) rfl
    rw [hz] at this; exact this
  refine ⟨⟨_, he, rfl⟩, h _ he (Heap.get?_push_of_some _ (Heap.get?_push_size _ B.free)) (by rw [Heap.size_push, hz]) fun b o x => Heap.get?_push_of_some _ (Heap.get?_push_of_some _ x)⟩
def iEnumB (K : PySem.W.Frag) (k : Bool) (ta : TA) : TI := fun σ H R => ta σ H fun vs H1 => ∃ a xs, vs = [.ref a] ∧ SqB K k H1 a xs ∧ R (IteB K k a) H1
theorem pi_enumB {X : Cx} {e : Expr} {ta : TA} {p pos tpos : Pos} {elts : List Expr} {kk : Nat} (k : Bool) (hg : Gl X "enumerate") (hm : X.mg "enumerate" = none) (ha : PA X [e] ta) (hs : starEach [e] X.env = [(false, eval e X.env)] := by rfl) :
    PI X (.Tuple elts kk tpos) (.Call (.Name "enumerate" p) [e] [] pos) (iEnumB X.K k ta) := by
  refine ⟨fun pins s σ H R I h => ?_⟩
  refine Call_ (ld_blt I hg hm boot_enumerate (PyProof.Rows.callWith_type1 (thn (ha.run pos pins s σ H _ I h) fun us s1 ⟨vs, H1, I1, r1, q1⟩ => ?_) hs rfl))
  obtain ⟨a, xs, ex, hq, q⟩ := q1
  subst ex
  cases r1 with
  | cons r rr =>
    cases rr
    cases r
    obtain ⟨its, rv, p', hz⟩ := sqb_ob I1 hq
    have hal : a < s1.heap.objs.size := by
      cases k with
      | true =>
        obtain ⟨o, ho, _⟩ := p'
        exact Heap.lt_size ho
      | false =>
        obtain ⟨o, ho, _⟩ := p'
        exact Heap.lt_size ho
    refine call_enumB (begins_B k a its.toArray) p' fun h' he hit hsz hk => wpAny_pyIter_enum he ?_
    have I2 : Inv X pins σ H1 { s1 with heap := h' } := I1.kept (t' := s1.toks) hk
    refine ⟨s1.heap.objs.size + 1, [s1.heap.objs.size + 1, s1.heap.objs.size], _, _, H1, rfl, I2, turn_enumB k a (s1.heap.objs.size + 1) s1.heap.objs.size, ⟨⟨.none, he⟩, iterB_new hit, Nat.succ_ne_self _, Nat.ne_of_lt hal, Nat.ne_of_gt (Nat.lt_succ_of_lt hal)⟩, fun b hb => ?_, q⟩
    · have e' : b = s1.heap.objs.size + 1 ∨ b = s1.heap.objs.size := by simpa using hb
      have hle : s1.heap.objs.size ≤ b := by
        rcases e' with z | z
        · rw [z]; exact Nat.le_add_right _ _
        · rw [z]; exact Nat.le_refl _
      exact I1.fpOk hle (I1.hok.fresh hle)
theorem walk_enumB {K : PySem.W.Frag} {k : Bool} {a : Addr} {xs : List V} : Walk (IteB K k a) xs.length (fun H => SqB K k H a xs) (YPair (fun i => some (.int (i : Nat))) (fun i => xs[i]?)) := by
  refine ⟨fun i _ hi q => ⟨xs, xs[i], q, by simp [hi]⟩, fun _ q => ⟨xs, q, rfl⟩, fun i H v H' _ q y => ?_⟩
  obtain ⟨T, x, h1, h2, h3, h4⟩ := y
  exact ⟨T, .int (i : Nat), x, h1, h2, h3, rfl, h4 xs q⟩
/-! ### zip -/
def ItzB (K : PySem.W.Frag) (k1 k2 : Bool) (a b : Addr) : It :=
  ⟨fun i H => ∃ (xs ys : List V) (x y : V), SqB K k1 H a xs ∧ SqB K k2 H b ys ∧ xs[i]? = some x ∧ ys[i]? = some y,
    fun i H v H' => ∃ T x y, v = .ref T ∧ H T = none ∧ H' = upd H T (.tup [x, y]) ∧ (∀ xs, SqB K k1 H a xs → xs[i]? = some x) ∧ ∀ ys, SqB K k2 H b ys → ys[i]? = some y,
    fun i H => ∃ xs ys : List V, SqB K k1 H a xs ∧ SqB K k2 H b ys ∧ i ≤ xs.length ∧ i ≤ ys.length ∧ (i = xs.length ∨ i = ys.length)⟩
theorem turn_zipB {P : Program} {w : World} {K : PySem.W.Frag} {elts : List Expr} {kk : Nat} {tpos : Pos} {k1 k2 : Bool} {a b z TI TO i1 i2 : Addr} (D : ZipSep2 z TI TO i1 i2 [i1, a] [i2, b]) (ha : a ≠ i1) (hb : b ≠ i2) :
    Turn P w K (.Tuple elts kk tpos) (ItzB K k1 k2 a b) [z, TI, TO, i1, i2] z (fun i h => IsZip h z TI TO .none ∧ IsTupOf2 h TI (.ref i1) (.ref i2) ∧ (∃ x y, IsTupOf2 h TO x y) ∧ IterB k1 h i1 a i ∧ IterB k2 h i2 b i) where
  mem := by simp
  obj := fun i h st c hc => by
    obtain ⟨hz, hTI, ⟨x, y, hTO⟩, h1, h2⟩ := st
    have e' : c = z ∨ c = TI ∨ c = TO ∨ c = i1 ∨ c = i2 := by simpa using hc
    rcases e' with q | q | q | q | q
    · rw [q]; exact ⟨_, hz, fun v q => nomatch q⟩
    · rw [q]; exact ⟨_, hTI, fun v q => nomatch q⟩
    · rw [q]; exact ⟨_, hTO, fun v q => nomatch q⟩
    · rw [q]; exact h1.ob
    · rw [q]; exact h2.ob
  keep := fun i h h' st k => by
    obtain ⟨hz, hTI, ⟨x, y, hTO⟩, h1, h2⟩ := st
    exact ⟨k z (by simp) _ hz, k TI (by simp) _ hTI, ⟨x, y, k TO (by simp) _ hTO⟩, h1.at fun o q => k i1 (by simp) o q, h2.at fun o q => k i2 (by simp) o q⟩
  item := by
    intro X hP hw hK hc i pins s σ H E I hf st hg
    subst hP hw hK
    obtain ⟨hz, hTI, ⟨x0, y0, hTO⟩, h1, h2⟩ := st
    obtain ⟨xs, ys, x, y, hqx, hqy, hx, hy⟩ := hg
    obtain ⟨its, rv, p, _⟩ := sqb_ob I hqx
    obtain ⟨its2, rv2, p2, _⟩ := sqb_ob I hqy
    obtain ⟨u, hu, ru⟩ := rv.get hx
    obtain ⟨u2, hu2, ru2⟩ := rv2.get hy
    have hzl : z < s.heap.objs.size := Heap.lt_size hz
    have lt1 : i < its.toArray.size := by
      have := (List.getElem?_eq_some_iff.mp hu).1
      simpa using this
    have lt2 : i < its2.toArray.size := by
      have := (List.getElem?_eq_some_iff.mp hu2).1
      simpa using this
    refine wpAny_pyNext_zipD2_item D (draws_B (A := X.A.in1) (show X.A.in1.handled = none from I.ok.hd hc) k1 i1 a ha its.toArray) (draws_B (A := X.A.in1) (show X.A.in1.handled = none from I.ok.hd hc) k2 i2 b hb its2.toArray) hz hTI hTO ⟨h1, p⟩ ⟨h2, p2⟩ lt1 lt2 fun v1 v2 h' tk e1 e2 z' TO' h1' h2' hT hsz hk => ?_
    have ev1 : v1 = u := by
      rw [List.getElem?_toArray, hu] at e1
      exact (Option.some.inj e1).symm
    have ev2 : v2 = u2 := by
      rw [List.getElem?_toArray, hu2] at e2
      exact (Option.some.inj e2).symm
    subst ev1 ev2
    refine ⟨_, rfl, wpAny_letOwnedTupleGo_zip (s := { s with heap := h', toks := tk }) z' fun h'' z'' sb => ?_⟩
    have hT2 : h''.get? s.heap.objs.size = some { cls := .type "tuple", data := .seq #[v1, v2] } := (sb.2 _ (Nat.ne_of_gt hzl)).trans hT
    have new : ObjOk X.prog X.w (upd H s.heap.objs.size (.tup [x, y])) h'' s.heap.objs.size (.tup [x, y]) :=
      ⟨by show 2 ≤ sizeLine; decide, [v1, v2], .cons ru (.cons ru2 .nil), ⟨_, hT2, rfl, _, rfl⟩⟩
    have I1 : Inv X pins σ (upd H s.heap.objs.size (.tup [x, y])) { s with heap := h'', toks := tk } :=
      I.turnedNew (t' := tk) (ch := [z, TI, TO, i1, i2]) (fun c o hb q => (sb.2 c (fun q' => hb (by simp [q']))).trans (hk c o (fun q' => hb (by simp [q'])) (fun q' => hb (by simp [q'])) (fun q' => hb (by simp [q'])) (fun q' => hb (by simp [q'])) q)) hf (Nat.le_refl _) new
    refine ⟨.ref s.heap.objs.size, _, I1, rfl, ⟨_, x, y, rfl, I.hok.fresh (Nat.le_refl _), rfl, fun l hl => by rw [sqb_inj I hl hqx]; exact hx, fun l hl => by rw [sqb_inj I hl hqy]; exact hy⟩, ⟨z'', ?_, ⟨v1, v2, ?_⟩, ?_, ?_⟩, fun c hcm => ?_⟩
    · exact (sb.2 _ D.TIz).trans (hk _ _ D.TIz D.TITO D.TIi1 D.TIi2 hTI)
    · exact (sb.2 _ D.TOz).trans TO'
    · exact h1'.1.at fun o q => (sb.2 _ D.zi1.symm).trans q
    · exact h2'.1.at fun o q => (sb.2 _ D.zi2.symm).trans q
    · have hlt : c < s.heap.objs.size := by
        have e' : c = z ∨ c = TI ∨ c = TO ∨ c = i1 ∨ c = i2 := by simpa using hcm
        rcases e' with q | q | q | q | q
        · rw [q]; exact hzl
        · rw [q]; exact Heap.lt_size hTI
        · rw [q]; exact Heap.lt_size hTO
        · rw [q]; obtain ⟨_, e1, _⟩ := h1.ob; exact Heap.lt_size e1
        · rw [q]; obtain ⟨_, e2, _⟩ := h2.ob; exact Heap.lt_size e2
      rw [upd_ne (Nat.ne_of_lt hlt)]
      exact (hf c hcm).1
  done := by
    intro X hP hw hK hc i pins s σ H E I hf st hg
    subst hP hw hK
    obtain ⟨hz, hTI, ⟨x0, y0, hTO⟩, h1, h2⟩ := st
    obtain ⟨xs, ys, hqx, hqy, l1, l2, hend⟩ := hg
    obtain ⟨its, rv, p, _⟩ := sqb_ob I hqx
    obtain ⟨its2, rv2, p2, _⟩ := sqb_ob I hqy
    have e1 := rv.length
    have e2 := rv2.length
    refine wpAny_pyNext_zipD2_end (i := i) D (draws_B (A := X.A.in1) (show X.A.in1.handled = none from I.ok.hd hc) k1 i1 a ha its.toArray) (draws_B (A := X.A.in1) (show X.A.in1.handled = none from I.ok.hd hc) k2 i2 b hb its2.toArray) hz hTI hTO ⟨h1, p⟩ ⟨h2, p2⟩ (by rw [List.size_toArray]; omega) (by rw [List.size_toArray]; omega) (by rw [List.size_toArray, List.size_toArray]; omega)
      fun h' tk hk => ⟨rfl, I.turnedL (t' := tk) (ch := [z, TI, TO, i1, i2]) (fun c o hb q =>
      hk c o (fun q' => hb (by simp [q'])) (fun q' => hb (by simp [q'])) (fun q' => hb (by simp [q'])) (fun q' => hb (by simp [q'])) q) hf⟩
  self := fun A i s Q E st h => wpAny_pyIter_zip st.1 h
def iZipB (K : PySem.W.Frag) (ta : TA) : TI := fun σ H R => ta σ H fun vs H1 => ∃ k1 k2 a b xs ys, vs = [.ref a, .ref b] ∧ SqB K k1 H1 a xs ∧ SqB K k2 H1 b ys ∧ R (ItzB K k1 k2 a b) H1
theorem pi_zipB {X : Cx} {e e2 : Expr} {ta : TA} {p pos tpos : Pos} {elts : List Expr} {kk : Nat} (hg : Gl X "zip") (hm : X.mg "zip" = none) (ha : PA X [e, e2] ta)
    (hs : starEach [e, e2] X.env = (false, eval e X.env) :: starEach [e2] X.env := by rfl) (hpl : (backTo pos (starEach [e2] X.env)).any (·.1) = false := by rfl) :
    PI X (.Tuple elts kk tpos) (.Call (.Name "zip" p) [e, e2] [] pos) (iZipB X.K ta) := by
  refine ⟨fun pins s σ H R I h => ?_⟩
  refine Call_ (ld_blt I hg hm PyProof.Rows.boot_zip (PyProof.Rows.callWith_type1 (thn (ha.run pos pins s σ H _ I h) fun us s1 ⟨vs, H1, I1, r1, q1⟩ => ?_) hs hpl))
  obtain ⟨k1, k2, a, b, xs, ys, ex, hqx, hqy, q⟩ := q1
  subst ex
  cases r1 with
  | cons r rr =>
    cases rr with
    | cons r' rr =>
      cases rr
      cases r
      cases r'
      have fresh5 : ∀ c, c ∈ [s1.heap.objs.size + 4, s1.heap.objs.size + 2, s1.heap.objs.size + 3, s1.heap.objs.size, s1.heap.objs.size + 1] → FpOk X pins H1 c := fun c hcm => by
        have e' : c = s1.heap.objs.size + 4 ∨ c = s1.heap.objs.size + 2 ∨ c = s1.heap.objs.size + 3 ∨ c = s1.heap.objs.size ∨ c = s1.heap.objs.size + 1 := by simpa using hcm
        have hle : s1.heap.objs.size ≤ c := by
          rcases e' with z | z | z | z | z
          · rw [z]; exact Nat.le_add_right _ _
          · rw [z]; exact Nat.le_add_right _ _
          · rw [z]; exact Nat.le_add_right _ _
          · rw [z]; exact Nat.le_refl _
          · rw [z]; exact Nat.le_add_right _ _
        exact I1.fpOk hle (I1.hok.fresh hle)
      obtain ⟨its, rv, p1, _⟩ := sqb_ob I1 hqx
      obtain ⟨its2, rv2, p2, _⟩ := sqb_ob I1 hqy
      have lts : ∀ {k : Bool} {c : Addr} {it : Array Value}, ObB k s1.heap c it → c < s1.heap.objs.size := fun {k c it} p => by
        cases k with
        | true =>
          obtain ⟨o, ho, _⟩ := p
          exact Heap.lt_size ho
        | false =>
          obtain ⟨o, ho, _⟩ := p
          exact Heap.lt_size ho
      have la := lts p1
      have lb := lts p2
      refine zip_begins2 (begins_B k1 a its.toArray) (begins_B k2 b its2.toArray) p1 p2 fun h' hz hTI hTO h1 h2 hsz hk => wpAny_pyIter_zip hz ?_
      have I2 : Inv X pins σ H1 { s1 with heap := h' } := I1.kept (t' := s1.toks) hk
      refine ⟨s1.heap.objs.size + 4, [s1.heap.objs.size + 4, s1.heap.objs.size + 2, s1.heap.objs.size + 3, s1.heap.objs.size, s1.heap.objs.size + 1], _, _, H1, rfl, I2,
        turn_zipB (zip_sep2 (N := s1.heap.objs.size) (fp1 := [a]) (fp2 := [b]) (fun c hc => by rw [List.mem_singleton.mp hc]; exact la) (fun c hc => by rw [List.mem_singleton.mp hc]; exact lb)) (Nat.ne_of_lt la) (Nat.ne_of_lt (Nat.lt_succ_of_lt lb)),
        ⟨hz, hTI, ⟨_, _, hTO⟩, iterB_new h1, iterB_new h2⟩, fresh5, q⟩
theorem walk_zipB {K : PySem.W.Frag} {k1 k2 : Bool} {a b : Addr} {xs ys : List V} (hl : xs.length = ys.length) : Walk (ItzB K k1 k2 a b) xs.length (fun H => SqB K k1 H a xs ∧ SqB K k2 H b ys) (YPair (fun i => xs[i]?) (fun i => ys[i]?)) := by
  refine ⟨fun i _ hi q => ?_, fun _ q => ⟨xs, ys, q.1, q.2, Nat.le_refl _, by omega, .inl rfl⟩, fun i H v H' _ q y => ?_⟩
  · have h2 : i < ys.length := by omega
    exact ⟨xs, ys, xs[i], ys[i], q.1, q.2, by simp [hi], by simp [h2]⟩
  · obtain ⟨T, x, z, h1, h2, h3, h4, h5⟩ := y
    exact ⟨T, x, z, h1, h2, h3, h4 xs q.1, h5 ys q.2⟩
end Un

/-! ## B4 -/
set_option Elab.async false
set_option linter.all false
set_option maxRecDepth 100000
set_option maxHeartbeats 4000000
/-! max(xs, default=d) of a list of ints. -/
namespace Un
open PySem PySem.Spec PyProof.Rows L2 StX
section
variable {prog : Program} {w : World} {A : Around} {R : Result → Shared → Prop} {I : Addr} {fp wr : List Addr} {n : Nat} {P : Nat → Value → Prop} {St : Nat → Heap → Prop} {dk : Str} {dv : Value}
theorem mx_name : (toString "max" ++ toString ".loop" : String) = "max.loop" := by decide
theorem mx_loop (W : Walks prog w A.in1 I fp wr n P St) (bt : Nat → Nat → Bool) (hcmp : CmpOf prog w A.in1 .Gt P bt) (S : Addr) (hSf : S ∉ fp) :
    ∀ (k j : Nat) (s : Shared) (vb : Value) (c : Nat), n - (j + 1) = k → j + 1 ≤ n → St (j + 1) s.heap → P (argBest bt j) vb →
    s.heap.get? S = some { cls := .type "list", dict := none, data := .seq #[vb, vb] c, slots := #[] } →
    (∀ v h' tk, P (argBest bt (n - 1)) v → (∀ b o, b ∉ wr → b ≠ S → s.heap.get? b = some o → h'.get? b = some o) → R (.ok (.ret v)) { s with heap := h', toks := tk }) →
    codeAny (model prog w) A (.builtin "max.loop" ⟨[.ref I, .none, .ref S], [(dk, dv)]⟩) R s := by
  have hSw : S ∉ wr := fun h => hSf (W.sub _ h)
  intro k
  induction k with
  | zero =>
    intro j s vb c hk hj hst hPb hS hR
    have hin : j + 1 = n := by omega
    refine codeAny_builtin PySem.F.entry_max_loop ?_
    rw [Around.under_plainId PySem.F.plain_max_loop _]
    show wpAny _ A.in1 (seqItems? (.ref S) >>= _) _ _ s
    refine wpAny_bind (wpAny_seqItems hS rfl ?_)
    show wpAny _ A.in1 (tryCatch (pyNext (.ref I)) _ >>= _) _ _ s
    refine wpAny_bind (wpAny_tryCatch (W.done s _ _ (hin ▸ hst) fun h' tk hk' => ?_))
    have hS' := hk' S _ hSw hS
    show wpAny _ A.in1 (updateSeq S (fun _ => #[]) >>= _) _ _ _
    refine wpAny_bind ?_
    refine wpAny_updateSeq hS' rfl (wpAny_bind (wpAny_letGo (wpAny_pure ?_)))
    refine hR vb _ tk (by rw [← hin]; exact hPb) fun b o hbw hbS e => (Heap.get?_update_other _ _ (Ne.symm hbS)).trans (hk' b o hbw e)
  | succ k ih =>
    intro j s vb c hk hj hst hPb hS hR
    have hlt : j + 1 < n := by omega
    refine codeAny_builtin PySem.F.entry_max_loop ?_
    rw [Around.under_plainId PySem.F.plain_max_loop _]
    show wpAny _ A.in1 (seqItems? (.ref S) >>= _) _ _ s
    refine wpAny_bind (wpAny_seqItems hS rfl ?_)
    show wpAny _ A.in1 (tryCatch (pyNext (.ref I)) _ >>= _) _ _ s
    refine wpAny_bind (wpAny_tryCatch (W.item (j + 1) s _ _ hlt hst fun v h' tk hP hst' hk' => ?_))
    have hS' := hk' S _ hSw hS
    show wpAny _ A.in1 (tryCatch (holding [v, v] (richCompare .Gt v vb >>= _)) _ >>= _) _ _ _
    refine wpAny_bind (wpAny_tryCatch (wpAny_holding (wpAny_bind (hcmp (j + 1) (argBest bt j) v vb _ _ _ hP hPb ?_))))
    refine wpAny_bind (wpAny_holding (wpAny_truthy_bool ?_))
    refine wpAny_bind (wpAny_letGo (wpAny_pure ?_))
    cases hb : bt (j + 1) (argBest bt j) with
    | true =>
      simp only [if_true]
      refine wpAny_bind ?_
      refine wpAny_updateSeq hS' rfl (wpAny_bind (wpAny_letGo ?_))
      rw [mx_name]
      refine wpAny_pure ⟨plainId_quiet PySem.F.plain_max_loop _, ih (j + 1) _ v _ (by omega) hlt (W.frame _ _ _ hst' fun b hbf o e => ?_) (by simp only [argBest, hb, if_true]; exact hP) (Heap.get?_update_self _ hS' rfl)
        fun v' h'' tk'' hP' hk'' => ?_⟩
      · exact (Heap.get?_update_other _ _ (fun h : S = b => hSf (by rw [h]; exact hbf))).trans e
      · exact hR v' h'' tk'' hP' fun b o hbw hbS e => hk'' b o hbw hbS ((Heap.get?_update_other _ _ (Ne.symm hbS)).trans (hk' b o hbw e))
    | false =>
      simp only [Bool.false_eq_true, if_false]
      refine wpAny_bind (wpAny_letGo ?_)
      rw [mx_name]
      refine wpAny_pure ⟨plainId_quiet PySem.F.plain_max_loop _, ih (j + 1) _ vb c (by omega) hlt hst' (by simp only [argBest, hb, Bool.false_eq_true, if_false]; exact hPb) hS' fun v' h'' tk'' hP' hk'' => ?_⟩
      exact hR v' h'' tk'' hP' fun b o hbw hbS e => hk'' b o hbw hbS (hk' b o hbw e)
theorem mx_first (W : Walks prog w A.in1 I fp wr n P St) (bt : Nat → Nat → Bool) (hcmp : CmpOf prog w A.in1 .Gt P bt) (S : Addr) (hSf : S ∉ fp) {s : Shared} {c : Nat} (hst : St 0 s.heap)
    (hS : s.heap.get? S = some { cls := .type "list", dict := none, data := .seq #[] c, slots := #[] })
    (h0 : n = 0 → ∀ h' tk, (∀ b o, b ∉ wr → b ≠ S → s.heap.get? b = some o → h'.get? b = some o) → R (.ok (.ret dv)) { s with heap := h', toks := tk })
    (hR : 0 < n → ∀ v h' tk, P (argBest bt (n - 1)) v → (∀ b o, b ∉ wr → b ≠ S → s.heap.get? b = some o → h'.get? b = some o) → R (.ok (.ret v)) { s with heap := h', toks := tk }) :
    codeAny (model prog w) A (.builtin "max.loop" ⟨[.ref I, .none, .ref S], [(dk, dv)]⟩) R s := by
  have hSw : S ∉ wr := fun h => hSf (W.sub _ h)
  refine codeAny_builtin PySem.F.entry_max_loop ?_
  rw [Around.under_plainId PySem.F.plain_max_loop _]
  show wpAny _ A.in1 (seqItems? (.ref S) >>= _) _ _ s
  refine wpAny_bind (wpAny_seqItems hS rfl ?_)
  show wpAny _ A.in1 (tryCatch (pyNext (.ref I)) _ >>= _) _ _ s
  by_cases hn : n = 0
  · refine wpAny_bind (wpAny_tryCatch (W.done s _ _ (by rw [hn]; exact hst) fun h' tk hk' => ?_))
    have hS' := hk' S _ hSw hS
    show wpAny _ A.in1 (PySem.rule _ >>= _) _ _ _
    exact wpAny_bind (wpAny_rule (wpAny_pure (h0 hn h' tk fun b o a _ e => hk' b o a e)))
  · refine wpAny_bind (wpAny_tryCatch (W.item 0 s _ _ (Nat.pos_of_ne_zero hn) hst fun v h' tk hP hst' hk' => ?_))
    have hS' := hk' S _ hSw hS
    show wpAny _ A.in1 (updateSeq S (fun _ => #[v, v]) >>= _) _ _ _
    refine wpAny_bind ?_
    refine wpAny_updateSeq hS' rfl ?_
    rw [mx_name]
    refine wpAny_pure ⟨plainId_quiet PySem.F.plain_max_loop _, mx_loop W bt hcmp S hSf _ 0 _ v _ rfl (Nat.pos_of_ne_zero hn) (W.frame _ _ _ hst' fun b hbf o e => ?_) hP (Heap.get?_update_self _ hS' rfl) fun v' h'' tk'' hP' hk'' => ?_⟩
    · exact (Heap.get?_update_other _ _ (fun h : S = b => hSf (by rw [h]; exact hbf))).trans e
    · exact hR (Nat.pos_of_ne_zero hn) v' h'' tk'' hP' fun b o hbw hbS e => hk'' b o hbw hbS ((Heap.get?_update_other _ _ (Ne.symm hbS)).trans (hk' b o hbw e))
end
section
variable {prog : Program} {w : World} {A : Around} {E : Value → Shared → Prop} {s : Shared} {l : Addr} {its : List Value} {ns : List Int}
theorem mx_args (a v : Value) : argsOk "max" ⟨[a], [(Str.ofString "default", v)]⟩ := by unfold argsOk; kernel_rfl
theorem mx_call {d : Value} {Q : Value → Shared → Prop} (hh : A.handled = none) (hl : s.heap.IsList l its.toArray) (hi : IntsAre its ns)
    (h0 : ns = [] → ∀ h' tk, (∀ b o, s.heap.get? b = some o → h'.get? b = some o) → Q d { s with heap := h', toks := tk })
    (h : ns ≠ [] → ∀ h' tk M t', (∀ b o, s.heap.get? b = some o → h'.get? b = some o) → M ∈ ns → (∀ a, a ∈ ns → a ≤ M) → Q (.int M t') { s with heap := h', toks := tk }) :
    wpAny (model prog w) A (call (.builtin "max") [.ref l] [(Str.ofString "default", d)]) Q E s := by
  obtain ⟨xs, e⟩ := hi.allInts.items
  have hn : numsOf (intItems xs).toList = ns := by rw [← e]; exact hi.numsOf
  rw [nums_intItems] at hn
  subst hn
  rw [e] at hl
  have hsz : (intItems xs).size = xs.size := by simp [intItems]
  refine kmk_tree PySem.F.kind_max PySem.F.plain_max PySem.F.entry_max (mx_args _ _) ?_
  show wpAny _ A.in1 (Builtin.Builtins.bindParams "max" ["key", "default"] 0 ⟨[], [(Str.ofString "default", d)]⟩ >>= _) _ _ s
  refine wpAny_bind (wpAny_of_eq (show Builtin.Builtins.bindParams "max" ["key", "default"] 0 ⟨[], [(Str.ofString "default", d)]⟩ = pure [none, some d] from rfl) ?_)
  refine wpAny_bind (wpAny_pure ?_)
  refine wpAny_bind (iter_intList hl fun s₂ e st hfp hlI => ?_)
  subst e
  refine wpAny_bind (wpAny_newObj_type ?_)
  have W := Walks.list (prog := prog) (w := w) (A := A.in1) hh _ l hlI (intItems xs)
  have hSf : (s.heap.push { cls := .type "list_iterator", data := .fields #[.ref l, .int 0 0] }).objs.size ∉ [s.heap.objs.size, l] := fun hm => Nat.lt_irrefl _ (hfp _ hm)
  rw [mx_name]
  have old : ∀ {h' : Heap}, (∀ b o, b ∉ [s.heap.objs.size] → b ≠ (s.heap.push { cls := .type "list_iterator", data := .fields #[.ref l, .int 0 0] }).objs.size →
      (Heap.push (s.heap.push { cls := .type "list_iterator", data := .fields #[.ref l, .int 0 0] }) { cls := .type "list", dict := none, data := .seq #[] 0, slots := #[] }).get? b = some o → h'.get? b = some o) →
      ∀ b o, s.heap.get? b = some o → h'.get? b = some o := fun hk b o e => by
    have lt := Heap.lt_size e
    refine hk b o (by simpa using Nat.ne_of_lt lt) ?_ (Heap.get?_push_of_some _ (Heap.get?_push_of_some _ e))
    rw [Heap.size_push]
    exact Nat.ne_of_lt (Nat.lt_succ_of_lt lt)
  refine wpAny_pure ⟨plainId_quiet PySem.F.plain_max_loop _, mx_first W _ (CmpOf.ints_gt (numAt xs) fun _ _ => intItems_at) _ hSf (W.frame _ _ _ st fun b _ o e => Heap.get?_push_of_some _ e) (Heap.get?_push_size _ rfl) (fun hz h' tk hk => ?_) fun hne v h' tk hP hk => ?_⟩
  · rw [hsz] at hz
    have : xs = #[] := Array.eq_empty_of_size_eq_zero hz
    exact h0 (by rw [this]; rfl) h' tk (old hk)
  · rw [hsz] at hne
    obtain ⟨t, rfl⟩ := intItems_at hP
    obtain ⟨h1, h2⟩ := argBest_gt (numAt xs) (xs.size - 1)
    rw [hsz]
    refine h (fun z => ?_) h' tk _ t (old hk) ?_ fun a ha => ?_
    · have := congrArg List.length z
      simp at this
      rw [this] at hne
      exact absurd hne (by decide)
    · rw [numAt_eq]; exact PySem.getD_mem (by rw [List.length_map, Array.length_toList]; omega)
    · obtain ⟨j, hj, rfl⟩ := mem_getD ha
      rw [List.length_map, Array.length_toList] at hj
      rw [← numAt_eq]; exact h2 j (by omega)
end
def rMaxD (K : PySem.W.Frag) : List V → List V → Hp → VK → Prop := fun vs zs H Q => ∃ (a : Addr) (ns : List Int) (d : V), vs = [V.ref a] ∧ zs = [d] ∧ SqL K H a (ns.map V.int) ∧ (ns = [] → Q d H) ∧ ∀ m, m ∈ ns → (∀ y, y ∈ ns → y ≤ m) → Q (.int m) H
theorem cr_maxD {X : Cx} (hc : X.calm = true) : CallRK X (.builtin "max") ["default"] (rMaxD X.K) := by
  intro pins s σ H vs zs us ws Q I r rz h
  obtain ⟨a, ns, d, rfl, rfl, hs, q0, q⟩ := h
  obtain ⟨its, rv, hl, _⟩ := I.list hs
  rw [Vals.ref1 r]
  cases rz with
  | cons rd rr =>
    cases rr
    exact mx_call (I.ok.hd hc) hl.isList rv.ints (fun e h' tk hk => ⟨d, H, I.kept hk, rd, q0 e⟩) fun e h' tk m t' hk h1 h2 => ⟨.int _, H, I.kept hk, ⟨_, rfl⟩, q m h1 h2⟩
end Un

/-! ## B5 -/
set_option Elab.async false
set_option linter.all false
set_option maxRecDepth 100000
set_option maxHeartbeats 4000000
/-! Operators that a class of the program's own answers. -/
namespace Un
open PySem PySem.Spec PyProof.Rows L2 StX
section
variable {X : Cx} {CX : CXT} {C g : Addr} {k : Nat} {sp : Sp} {E : XK}
def rUnOwn (C : Addr) (sp : Sp) (E : XK) : V → Hp → VK → Prop := fun x H Q => ∃ a dx fs, x = .ref a ∧ H a = some (.ins C dx fs) ∧ sp [x] H Q E
theorem un_invOwn (hs : PySem.W.findIn X.K (.ref C) "__invert__" = some (some (.ref g))) (hf : PySem.W.isFn X.K (.ref g) = true) (F : FnR X.prog X.w X.K X.mg X.base CX k g sp) (hr : Room k X.A) (hx : Passes CX X E) :
    UnR X (unaryOp .Invert) (rUnOwn C sp E) := by
  intro pins s σ H x v Q I rx h
  obtain ⟨a, dx, fs, rfl, ha, q⟩ := h
  cases (show v = Value.ref a from rx)
  obtain ⟨mA, O, _⟩ := ins_get I.hok ha
  obtain ⟨od, J, _⟩ := O.look
  obtain ⟨m, hF⟩ := I.fr
  exact PySem.W.ksp_inv hF I.ok.mod.kin J hs hf (wpAny_call (run_fnR (us := [.ref a]) (vs := [.ref a]) F hr hx I (.cons rfl .nil) q))
def rTwoOwn (C : Addr) (sp : Sp) (E : XK) : R2 := fun x y H Q => ∃ a dx fs b dy gs, x = .ref a ∧ y = .ref b ∧ H a = some (.ins C dx fs) ∧ H b = some (.ins C dy gs) ∧ sp [x, y] H Q E
theorem bin_own {prog : Program} {w : World} {A : Around} {E : Value → Shared → Prop} {s : Shared} {K : PySem.W.Frag} {x C f y : Addr} {ox oy : Obj} {od od' : Option Obj} {op : Operator} {Q : Value → Shared → Prop} (X : K.In s.heap) (I : PySem.W.InstAt s.heap x ox C od) (J : PySem.W.InstAt s.heap y oy C od')
    (hc : PySem.W.selfFirst K C = true) (hs : PySem.W.findIn K (.ref C) (PySem.dunder op.info.2) = some (some (.ref f))) (hf : PySem.W.isFn K (.ref f) = true)
    (h : wpAny (model prog w) A (call (.ref f) [.ref x, .ref y]) (PySem.W.CmpBack Q) E s) : wpAny (model prog w) A (binaryOp op (.ref x) (.ref y)) Q E s := by
  obtain ⟨cd, rest, hcd, hm⟩ := PySem.W.ksp_first hc
  rcases hi : op.info with ⟨sym, nm'⟩
  rw [hi] at hs
  dsimp only at hs
  have one := PySem.W.ksp_try X I hs hf h
  have L1 : PySem.W.Looks (model prog w) s.heap (typeOf (.ref x)) (.ref C) := I.type
  have L2 : PySem.W.Looks (model prog w) s.heap (typeOf (.ref y)) (.ref C) := J.type
  have L3 : PySem.W.Looks (model prog w) s.heap (fillsNumberSlot (.ref C) nm') true := PySem.W.fills_K X hcd hm hs
  simp only [binaryOp, hi]
  refine wpAny_holding (wpAny_bind ?_)
  unfold binaryOp1
  refine wpAny_bind (L1.here (wpAny_bind (L2.here (wpAny_bind (L3.here ?_)))))
  have e : (Value.ref C == Value.ref C) = true := by simp
  rw [e]
  simp only [if_true, Bool.and_false, Bool.true_and, Bool.false_and, Bool.false_eq_true, if_false, Bool.not_false]
  open PySem.W in ksp_lk
  refine wpAny_mono one (fun r s' hr' => ?_) fun _ _ e => e
  obtain ⟨v, rfl, hq⟩ := hr'
  open PySem.W in ksp_lk
  exact hq
theorem op_binOwn {op : Operator} (hs : PySem.W.findIn X.K (.ref C) (PySem.dunder op.info.2) = some (some (.ref g))) (hf : PySem.W.isFn X.K (.ref g) = true) (hc : PySem.W.selfFirst X.K C = true) (F : FnR X.prog X.w X.K X.mg X.base CX k g sp) (hr : Room k X.A) (hx : Passes CX X E) :
    OpR X (binaryOp op) (rTwoOwn C sp E) := by
  intro pins s σ H x y v u Q I rx ry h
  obtain ⟨a, dx, fs, b, dy, gs, rfl, rfl, ha, hb, q⟩ := h
  cases (show v = Value.ref a from rx)
  cases (show u = Value.ref b from ry)
  obtain ⟨mA, O, _⟩ := ins_get I.hok ha
  obtain ⟨od, J, _⟩ := O.look
  obtain ⟨mA', O', _⟩ := ins_get I.hok hb
  obtain ⟨od', J', _⟩ := O'.look
  refine bin_own I.kIn J J' hc hs hf (wpAny_mono (wpAny_call (run_fnR (us := [.ref a, .ref b]) (vs := [.ref a, .ref b]) F hr hx I (.cons rfl (.cons rfl .nil)) q)) (fun w s' z => ?_) fun _ _ x => x)
  obtain ⟨z', H', I', rz, qz⟩ := z
  exact SlX.cmpback rz ⟨z', H', I', rz, qz⟩
theorem op_eqOwn (hs : PySem.W.findIn X.K (.ref C) "__eq__" = some (some (.ref g))) (hf : PySem.W.isFn X.K (.ref g) = true) (hn : PySem.W.notFirst X.K C (.ref C) = true) (F : FnR X.prog X.w X.K X.mg X.base CX k g sp) (hr : Room k X.A) (hx : Passes CX X E) :
    OpR X (compareOp .Eq) (rTwoOwn C sp E) := by
  intro pins s σ H x y v u Q I rx ry h
  obtain ⟨a, dx, fs, b, dy, gs, rfl, rfl, ha, hb, q⟩ := h
  cases (show v = Value.ref a from rx)
  cases (show u = Value.ref b from ry)
  obtain ⟨mA, O, _⟩ := ins_get I.hok ha
  obtain ⟨od, J, _⟩ := O.look
  obtain ⟨mA', O', _⟩ := ins_get I.hok hb
  obtain ⟨od', J', _⟩ := O'.look
  obtain ⟨m, hF⟩ := I.fr
  show wpAny _ _ (richCompare .Eq (.ref a) (.ref b)) _ _ _
  refine PySem.W.cmp_K (op := .Eq) (tb := .ref C) hr.units0 hF I.ok.mod.kin J J'.type hn hs hf ?_
  refine wpAny_mono (wpAny_call (run_fnR (us := [.ref a, .ref b]) (vs := [.ref a, .ref b]) F hr hx I (.cons rfl (.cons rfl .nil)) q)) (fun w s' z => ?_) fun _ _ x => x
  obtain ⟨z', H', I', rz, qz⟩ := z
  exact SlX.cmpback rz ⟨z', H', I', rz, qz⟩
/-! != by object.__ne__ over an own __eq__ -/
theorem ne_entry {M : Model} {A : Around} {E : Value → Shared → Prop} {s : Shared} {K : PySem.W.Frag} {x C f : Addr} {b : Value} {ox : Obj} {od : Option Obj} {Q : Fin → Shared → Prop} (hu : A.units < cLine) (X : K.In s.heap) (I : PySem.W.InstAt s.heap x ox C od)
    (hs : PySem.W.findIn K (.ref C) "__eq__" = some (some (.ref f))) (hf : PySem.W.isFn K (.ref f) = true)
    (h : wpAny M A (call (.ref f) [.ref x, b]) (fun v s' => ∃ c, v = .bool c ∧ Q (.done (.ret (.bool (!c)))) s') E s) : wpAny M A (Builtin.«object.__ne__» ⟨[.ref x, b], []⟩) Q E s := by
  unfold Builtin.«object.__ne__»
  show wpAny M A (cRoomFor "comparison" [.ref x, b] >>= _) Q E s
  refine wpAny_bind (wpAny_cRoomFor hu ?_)
  refine wpAny_bind (m := callSpecialIfBound? (.ref x) (Str.ofString "__eq__") [b]) (PySem.W.ifBound_K X I hs hf (wpAny_mono h (fun v s' hv => ?_) fun _ _ e => e))
  obtain ⟨c, rfl, hq⟩ := hv
  refine wpAny_bind (m := truthy (.bool c)) (wpAny_truthy_bool ?_)
  exact wpAny_pure hq
theorem ne_bound {M : Model} {A : Around} {E : Value → Shared → Prop} {s : Shared} {K : PySem.W.Frag} {x C : Addr} {ox : Obj} {od : Option Obj} {args : List Value} {Q : Option Value → Shared → Prop} (X : K.In s.heap) (I : PySem.W.InstAt s.heap x ox C od) (hs : PySem.W.findIn K (.ref C) "__ne__" = some (some (.builtin "object.__ne__")))
    (h : wpAny M A (call (.builtin "object.__ne__") (.ref x :: args)) (fun v => Q (some v)) E s) : wpAny M A (callSpecialIfBound? (.ref x) "__ne__" args) Q E s := by
  simp only [callSpecialIfBound?, bindSpecialIfBound?]
  refine wpAny_holding (wpAny_bind (wpAny_bind (wpAny_bind (I.type.here ((PySem.W.looks_findIn X hs).here ?_)))))
  refine wpAny_bind (wpAny_askSetting (wpAny_ite ?_))
  have fin : wpAny M A (call (.builtin "object.__ne__") ([.ref x] ++ args) >>= fun v => pure (some v)) Q E s := wpAny_bind (wpAny_mono h (fun v s' h' => wpAny_pure h') fun _ _ h' => h')
  split
  · exact wpAny_bind (wpAny_of_eq (PySem.F.cmp_object.ne.bind _) (wpAny_pure (by exact fin)))
  · exact wpAny_tryCatch (wpAny_bind (wpAny_of_eq (PySem.F.cmp_object.ne.bind _) (wpAny_pure (by exact fin))))
theorem op_neOwn (hne : PySem.W.findIn X.K (.ref C) "__ne__" = some (some (.builtin "object.__ne__"))) (hs : PySem.W.findIn X.K (.ref C) "__eq__" = some (some (.ref g))) (hf : PySem.W.isFn X.K (.ref g) = true) (hn : PySem.W.notFirst X.K C (.ref C) = true)
    (hm : PySem.W.mroIn X.K C (.type "object") = some true) (F : FnR X.prog X.w X.K X.mg X.base CX k g sp) (hr : Room (k + 1) X.A) (hx : Passes CX X E) :
    OpR X (compareOp .NotEq) (fun x y H Q => ∃ a dx fs b dy gs, x = .ref a ∧ y = .ref b ∧ H a = some (.ins C dx fs) ∧ H b = some (.ins C dy gs) ∧ sp [x, y] H (fun z H' => ∃ c, z = .bl c ∧ Q (.bl (!c)) H') E) := by
  intro pins s σ H x y v u Q I rx ry h
  obtain ⟨a, dx, fs, b, dy, gs, rfl, rfl, ha, hb, q⟩ := h
  cases (show v = Value.ref a from rx)
  cases (show u = Value.ref b from ry)
  obtain ⟨mA, O, _⟩ := ins_get I.hok ha
  obtain ⟨od, J, _⟩ := O.look
  obtain ⟨mA', O', _⟩ := ins_get I.hok hb
  obtain ⟨od', J', _⟩ := O'.look
  have KX := I.kIn
  have one : wpAny (model X.prog X.w) X.A (tryCompare (.ref a) "__ne__" (.ref b)) (fun r s' => ∃ v, r = some v ∧ EP X pins σ Q v s') X.xe s := by
    unfold tryCompare
    refine wpAny_bind (ne_bound KX J hne (wpAny_call (codeAny_call_builtin PySem.F.cmp_object.ne.plain PySem.F.cmpEntry_ne (PySem.W.check_slot PySem.F.cmpKind_ne PySem.F.cmpSplit_ne (J.type.andThen (PySem.W.looks_mroIn KX hm)) (PySem.F.cmpArgs_ne _ _)
      (ne_entry (hr.in1).units0 KX J hs hf ?_)))))
    refine wpAny_mono (wpAny_call (SlX.run_at (us := [.ref a, .ref b]) (ws := [.ref a, .ref b]) F hr.in1 I.env0.in1 hx I (.cons rfl (.cons rfl .nil)) q)) (fun w s' z => ?_) fun _ _ x => x
    obtain ⟨z', H', I', rz, c, ez, qz⟩ := z
    subst ez
    cases (show w = Value.bool c from rz)
    exact ⟨c, rfl, wpAny_pure ⟨_, rfl, ⟨.bl (!c), H', I', rfl, qz⟩⟩⟩
  show wpAny _ _ (richCompare .NotEq (.ref a) (.ref b)) _ _ _
  unfold richCompare
  simp only [oneThing_ref]
  refine wpAny_holding (wpAny_bind (wpAny_cRoomFor hr.units0 ?_))
  refine wpAny_bind (J.type.here (wpAny_bind (J'.type.here ?_)))
  split
  · rename_i q
    simp at q
  · refine wpAny_bind (wpAny_pure ?_)
    simp only [Bool.false_eq_true, if_false]
    refine wpAny_bind (wpAny_mono one (fun r s' z => ?_) fun _ _ e => e)
    obtain ⟨v, rfl, hq⟩ := z
    exact wpAny_pure hq
end
end Un

/-! ## B6 -/
set_option Elab.async false
set_option linter.all false
set_option maxRecDepth 100000
set_option maxHeartbeats 4000000
/-! sorted(x): x a list, a tuple, a dict; the items read as data. -/
namespace Un
open PySem PySem.Spec PyProof.Rows L2 StX
open PySem.W (AllAlike Sortable dataLe)
/-- ints, texts, tuples of such -/
inductive RdV (H : Hp) : V → PyData → Prop
  | int (i : Int) : RdV H (.int i) (.int i)
  | str (x : Str) : RdV H (.str x) (.str x)
  | two {a : Addr} {x y : V} {d e : PyData} : H a = some (.tup [x, y]) → RdV H x d → RdV H y e → RdV H (.ref a) (.tuple [d, e])
theorem RdV.mono {H H' : Hp} (t : TupS H H') {v : V} {d : PyData} (r : RdV H v d) : RdV H' v d := by
  induction r with
  | int i => exact .int i
  | str x => exact .str x
  | two h _ _ a b => exact .two (t _ _ h) a b
theorem RdV.reads {P : Program} {w : World} {H : Hp} {h : Heap} (ok : HOk P w H h) {v : V} {d : PyData} (r : RdV H v d) : ∀ u, RelV v u → ∃ as, Reads h u d as ∧ as = [] := by
  induction r with
  | int i =>
    rintro u ⟨t, rfl⟩
    exact ⟨[], .int i t, rfl⟩
  | str x =>
    rintro u ⟨t, rfl⟩
    exact ⟨[], .str x t, rfl⟩
  | two ha _ _ a b =>
    intro u ru
    cases (show u = Value.ref _ from ru)
    obtain ⟨z, its, rv, o, ho, hc, n, hd⟩ := ok _ _ ha
    cases rv with
    | cons r1 rr =>
      cases rr with
      | cons r2 rr =>
        cases rr
        obtain ⟨as, q1, e1⟩ := a _ r1
        obtain ⟨bs, q2, e2⟩ := b _ r2
        subst e1 e2
        exact ⟨_, Reads.tuple ho hc hd (.cons q1 (.cons q2 .nil)), rfl⟩
section
variable {X : Cx} {pins : List (Addr × Obj)} {σ : L2.St} {H : Hp} {s : Shared}
theorem inv_kept {s' : Shared} (I : Inv X pins σ H s) (k : ∀ b u, s.heap.get? b = some u → s'.heap.get? b = some u) (hg : s'.gens = s.gens) (ho : s'.os = s.os) : Inv X pins σ H s' := by
  obtain ⟨h', g', d', t', os'⟩ := s'
  obtain ⟨h, g, d, t, os⟩ := s
  dsimp only at k hg ho
  subst hg ho
  refine I.step (g' := g') (d' := d') (t' := t') (ch := []) (fun b hb => by cases hb) (fun b o _ _ _ e _ => k b o e) (fun b o _ _ _ e _ => ⟨o.slots, k b o e⟩) (fun _ _ _ _ n => n) (fun b o _ e => ⟨o, k b o e⟩) (fun _ _ e => e) (fun _ _ _ e => e) (fun b ps e => ⟨#[], by rw [e]; simp⟩) (fun m hm => ?_) (I.hok.kept k) I.bare
  obtain ⟨o, es, ep, ho, r⟩ := hm
  exact ⟨o, es, ep, k _ o ho, r⟩
theorem each_zip : ∀ {bs : List (V × PyData)} {us : List Value}, Vals (bs.map Prod.fst) us → (∀ b ∈ bs, RdV H b.1 b.2) → PySem.W.EachIs (fun v (b : V × PyData) => RelV b.1 v ∧ RdV H b.1 b.2) us bs
  | [], _, r, _ => by
    cases r
    exact .nil
  | b :: bs, _, r, f => by
    cases r with
    | cons r1 r2 => exact .cons ⟨r1, f b (List.mem_cons_self ..)⟩ (each_zip r2 fun c hc => f c (List.mem_cons_of_mem _ hc))
theorem each_vals : ∀ {bs : List (V × PyData)} {us : List Value}, PySem.W.EachIs (fun v (b : V × PyData) => RelV b.1 v ∧ RdV H b.1 b.2) us bs → Vals (bs.map Prod.fst) us
  | _, _, .nil => .nil
  | _, _, .cons a t => .cons a.1 (each_vals t)
/-- what must stand ahead of sorted -/
structure SrtIn (H : Hp) (xs : List V) (bs : List (V × PyData)) : Prop where
  eq : xs = bs.map Prod.fst
  rd : ∀ b ∈ bs, RdV H b.1 b.2
  al : AllAlike (bs.map Prod.snd)
  so : Sortable (bs.map Prod.snd)
  dp : ∀ b ∈ bs, b.2.depth ≤ 8
  ln : bs.length ≤ 100000
def srt (bs : List (V × PyData)) : List V := (bs.mergeSort (dataLe false Prod.snd)).map Prod.fst
theorem sorted_core (I : Inv X pins σ H s) (hu : X.A.units + 65 < cLine) {x : Value} {Q : VK} (R : List V → Prop)
    (hcol : ∀ Qc : List Value → Shared → Prop, (∀ us s1 xs, Inv X pins σ H s1 → Vals xs us → R xs → Qc us s1) → wpAny (model X.prog X.w) X.A.in1 (collect x) Qc X.xe s)
    (hQ : ∀ xs, R xs → ∃ bs, SrtIn H xs bs ∧ ∀ p, H p = none → Q (.ref p) (upd H p (.lst (srt bs)))) :
    wpAny (model X.prog X.w) X.A (call (.builtin "sorted") [x]) (EP X pins σ Q) X.xe s := by
  refine PySem.Calls.call_function_entry kind_sorted plain_sorted entry_sorted (args_sorted1 _) ?_
  unfold Builtin.«sorted»
  refine wpAny_bind (m := checkCount "sorted" 1 1 _) (wpAny_pure ?_)
  refine wpAny_bind (hcol _ fun us s1 xs I1 rv hR => ?_)
  obtain ⟨bs, B, q⟩ := hQ xs hR
  have hl : us.length = bs.length := by
    have := rv.length
    rw [B.eq, List.length_map] at this
    exact this.symm
  have line : (100000 : Nat) ≤ sizeLine := by decide
  refine wpAny_bind (wpAny_newList ?_ (by rw [hl]; exact Nat.le_trans B.ln line))
  have hoL : (s1.heap.push { cls := .type "list", data := .seq us.toArray }).get? s1.heap.objs.size = some (seqObj "list" us.toArray 0) := Heap.get?_push_size _ rfl
  have I2 : Inv X pins σ H { s1 with heap := s1.heap.push { cls := .type "list", data := .seq us.toArray } } := I1.kept (t' := s1.toks) fun b o e => Heap.get?_push_of_some _ e
  have e0 := each_zip (H := H) (bs := bs) (us := us) (by rw [← B.eq]; exact rv) B.rd
  have er : PySem.W.EachIs (fun v (b : V × PyData) => ∃ as, Reads (s1.heap.push { cls := .type "list", data := .seq us.toArray }) v b.2 as ∧ s1.heap.objs.size ∉ as) us bs := e0.mono fun v b ⟨r1, r2⟩ => by
    obtain ⟨as, h1, h2⟩ := r2.reads I2.hok v r1
    subst h2
    exact ⟨[], h1, by simp⟩
  refine wpAny_bind (wpAny_holding (PySem.W.list_sort_data (s := { s1 with heap := s1.heap.push { cls := .type "list", data := .seq us.toArray } }) (a := s1.heap.objs.size) (n := 0) (enc := Prod.snd) (R := fun v (b : V × PyData) => RelV b.1 v ∧ RdV H b.1 b.2) hoL e0 er B.al B.so (Nat.le_trans B.ln line)
    (fun b hb => by have := B.dp b hb; show X.A.units + 1 + 1 + b.2.depth < cLine; omega) fun out ho eo => ?_))
  obtain ⟨c, hc⟩ := sortedHeap_at (vs := us) (out := out.toArray) hoL
  have old : ∀ b o, s1.heap.get? b = some o → (sortedHeap (s1.heap.push { cls := .type "list", data := .seq us.toArray }) s1.heap.objs.size us out.toArray).get? b = some o := fun b o e => by
    have lt := Heap.lt_size e
    rw [sortedHeap_old (Nat.ne_of_lt lt) (by rw [Heap.size_push]; exact Nat.lt_succ_of_lt lt)]
    exact Heap.get?_push_of_some _ e
  refine wpAny_pure ⟨_, rfl, .ref s1.heap.objs.size, _, I1.laid (t' := s1.toks) (o := .lst (srt bs)) old (Nat.le_refl _) ⟨?_, out, c, each_vals eo, hc⟩, rfl, q _ (I1.hok.fresh (Nat.le_refl _))⟩
  unfold srt
  rw [List.length_map, List.length_mergeSort]
  exact Nat.le_trans B.ln line
end
theorem vals_at : ∀ {xs : List V} {us : List Value}, xs.length = us.length → (∀ (i : Nat) (x : V), xs[i]? = some x → ∃ u, us[i]? = some u ∧ RelV x u) → Vals xs us
  | [], [], _, _ => .nil
  | [], _ :: _, h, _ => by cases h
  | _ :: _, [], h, _ => by cases h
  | x :: xs, u :: us, h, f => by
    obtain ⟨u', e, r⟩ := f 0 x rfl
    cases e
    exact .cons r (vals_at (Nat.succ.inj h) fun i y hy => f (i + 1) y hy)
/-! the lists, tuples and dicts -/
def rSrtL (K : PySem.W.Frag) : List V → Hp → VK → Prop := fun vs H Q => ∃ a xs bs, vs = [.ref a] ∧ SqL K H a xs ∧ SrtIn H xs bs ∧ ∀ p, H p = none → Q (.ref p) (upd H p (.lst (srt bs)))
def rSrtT (K : PySem.W.Frag) : List V → Hp → VK → Prop := fun vs H Q => ∃ a xs bs, vs = [.ref a] ∧ SqT K H a xs ∧ SrtIn H xs bs ∧ ∀ p, H p = none → Q (.ref p) (upd H p (.lst (srt bs)))
def rSrtD : List V → Hp → VK → Prop := fun vs H Q => ∃ a kvs bs, vs = [.ref a] ∧ Rd H a (.dK kvs) ∧ SrtIn H (kvs.map fun p => kV p.1) bs ∧ ∀ p, H p = none → Q (.ref p) (upd H p (.lst (srt bs)))
section
variable {X : Cx}
theorem cr_srtL (hu : X.A.units + 65 < cLine) : CallR X (.builtin "sorted") (rSrtL X.K) := by
  intro pins s σ H vs us Q I r h
  obtain ⟨a, xs, bs, rfl, hs, B, q⟩ := h
  obtain ⟨its, rv, hl, z⟩ := I.list hs
  rw [Vals.ref1 r]
  refine sorted_core I hu (fun ys => ys = xs) (fun Qc k => ?_) fun ys e => ⟨bs, by rw [e]; exact B, q⟩
  obtain ⟨o, n, ho, hc, hd1, hd⟩ := hl
  refine wpAny_collect_seq a (.inl rfl) ho hc hd (fun h' hk => ?_) (by rw [List.size_toArray, ← rv.length]; exact z)
  exact k _ _ xs (I.kept (t' := s.toks) hk) rv rfl
theorem cr_srtT (hu : X.A.units + 65 < cLine) : CallR X (.builtin "sorted") (rSrtT X.K) := by
  intro pins s σ H vs us Q I r h
  obtain ⟨a, xs, bs, rfl, hs, B, q⟩ := h
  obtain ⟨its, rv, ht, z⟩ := I.tuple hs
  rw [Vals.ref1 r]
  refine sorted_core I hu (fun ys => ys = xs) (fun Qc k => ?_) fun ys e => ⟨bs, by rw [e]; exact B, q⟩
  obtain ⟨o, ho, hc, n, hd⟩ := ht
  refine wpAny_collect_seq a (.inr rfl) ho hc hd (fun h' hk => ?_) (by rw [List.size_toArray, ← rv.length]; exact z)
  exact k _ _ xs (I.kept (t' := s.toks) hk) rv rfl
theorem cr_srtD (hc : X.calm = true) (hu : X.A.units + 65 < cLine) : CallR X (.builtin "sorted") rSrtD := by
  intro pins s σ H vs us Q I r h
  obtain ⟨a, kvs, bs, rfl, hd, B, q⟩ := h
  rw [Vals.ref1 r]
  obtain ⟨z, lo, vs, kv, hD⟩ := hd.ok I.hok
  obtain ⟨ep, hat⟩ := hD.dictAt
  have lv : kvs.length = vs.length := Paired.length kv
  refine sorted_core I hu (fun ys => ys = kvs.map fun p => kV p.1) (fun Qc k => ?_) fun ys e => ⟨bs, by rw [e]; exact B, q⟩
  refine PySem.W.kdu_collect (PySem.W.kdl_dict (knd := mixKind X.prog X.w) (kvs := vs) (ep := ep) lo) (show X.A.in1.handled = none from I.ok.hd hc) hat (by rw [← lv]; exact z) fun h' tk acc hk hi => ?_
  refine k _ _ _ (I.kept (t' := tk) hk) ?_ rfl
  have al : acc.toList.length = vs.length := by rw [Array.length_toList]; exact hi.1
  refine vals_at (by rw [List.length_map, al]; exact lv) fun i x hx => ?_
  rw [List.getElem?_map] at hx
  obtain ⟨p, hp, rfl⟩ := Option.map_eq_some_iff.mp hx
  obtain ⟨y, hy, e1, _⟩ := Pr.get kv hp
  have il : i < acc.toList.length := by
    have := (List.getElem?_eq_some_iff.mp hp).1
    rw [al, ← lv]
    exact this
  refine ⟨_, List.getElem?_eq_getElem il, ?_⟩
  obtain ⟨k', x', h1, h2⟩ := hi.2 i acc.toList[i] (by rw [← Array.getElem?_toList]; exact List.getElem?_eq_getElem il)
  rw [hy] at h1
  have ek : y.1 = k' := congrArg Prod.fst (Option.some.inj h1)
  rw [e1, ek]
  exact relV_key h2
end
end Un

/-! ## B7 -/
set_option Elab.async false
set_option linter.all false
set_option maxRecDepth 100000
set_option maxHeartbeats 4000000
/-! Sets of texts (walked, too) and the set comprehension. -/
namespace Un
open PySem PySem.Spec PyProof.Rows L2 StX
def GoodS (w : World) (e : Int × Value) : Prop := ∃ x tk, e.2 = Value.str x tk ∧ e.1 = hashStr w x
def keyS (e : Int × Value) : Str := match e.2 with
  | .str x _ => x
  | _ => ⟨#[]⟩
/-- the set of the texts L at a -/
def STx (w : World) (h : Heap) (a : Addr) (L : List Str) : Prop :=
  ∃ o es ep t, h.get? a = some o ∧ o.ExactSet ∧ o.data = .set es ep t ∧ (∀ e ∈ es.toList, GoodS w e) ∧ (es.toList.map keyS).Perm L ∧ L.Nodup ∧ es.size < scanBound ∧ t.fits es.size = true ∧ Ris t.place.toList ∧ (w.params.followText "set-order" = true ∨ t.led = true)
def SetTx (w : World) (a : Addr) (L : List Str) : HO := .ext fun h => STx w h a L
theorem STx.at {w : World} {h h' : Heap} {a : Addr} {L : List Str} (R : STx w h a L) (k : ∀ o, h.get? a = some o → h'.get? a = some o) : STx w h' a L := by
  obtain ⟨o, es, ep, t, ho, r⟩ := R
  exact ⟨o, es, ep, t, k o ho, r⟩
theorem setTx_new {w : World} {P : Program} {H : Hp} {h : Heap} {a : Addr} {L : List Str} (R : STx w h a L) : ObjOk P w H h a (SetTx w a L) := by
  have ⟨o, _, _, _, ho, _⟩ := R
  exact ⟨R, ⟨o, ho⟩, fun h1 h2 p k => STx.at p k⟩
section
variable {P : Program} {w : World} {A : Around} {E : Value → Shared → Prop} {s : Shared} {a : Addr} {L : List Str}
theorem isStr_self (x : Str) (t : Tok) : Value.isStrOf x (.str x t) = true := by simp [Value.isStrOf]
theorem goodS_is {e : Int × Value} (g : GoodS w e) (k : Str) : (PySem.strKind P w).is k e.2 = true ↔ keyS e = k := by
  obtain ⟨x, tk, h1, h2⟩ := g
  unfold keyS
  rw [h1]
  show Value.isStrOf k (.str x tk) = true ↔ x = k
  constructor
  · intro h
    obtain ⟨t, e⟩ := Value.isStrOf_shape h
    injection e with e1 _
  · rintro rfl
    exact isStr_self x tk
theorem goodS_elems {l : List (Int × Value)} (g : ∀ e ∈ l, GoodS w e) : ElemsOf (PySem.strKind P w) l := fun e he => by
  obtain ⟨x, tk, h1, h2⟩ := g e he
  exact ⟨⟨x, by rw [h1]; exact isStr_self x tk, h2⟩, by rw [h1] <;> rfl⟩
theorem stx_tail {g : Bool → Sem Unit} (hg : ∀ (b : Bool) (s₁ : Shared) (Q' : Unit → Shared → Prop), Q' () s₁ → wpAny (model P w) A (g b) Q' E s₁)
    {o : Obj} {es : Array (Int × Value)} {ep : Nat} {t : SetTable} (ho : s.heap.get? a = some o) (hex : o.ExactSet) (hd : o.data = .set es ep t)
    {es1 : Array (Int × Value)} {t2 : SetTable} {L' : List Str} (g1 : ∀ e ∈ es1.toList, GoodS w e) (pm1 : (es1.toList.map keyS).Perm L') (nd1 : L'.Nodup)
    (hb1 : es1.size < scanBound) (hf2 : t2.fits es1.size = true) (hr : Ris t2.place.toList) (hl : w.params.followText "set-order" = true ∨ t2.led = true) {wasDummy : Bool} {R : Option Bool → Shared → Prop}
    (hR : ∀ h', Heap.SameBut a s.heap h' → STx w h' a L' → R (some true) { s with heap := h' }) :
    wpAny (model P w) A (do
        storeSet a es1 t2
        if (!wasDummy && t2.tooFull) = true then do
            g (relayAll t2 es1 (SetTable.grown es1.size)).2.2
            storeSet a (relayAll t2 es1 (SetTable.grown es1.size)).1 (relayAll t2 es1 (SetTable.grown es1.size)).2.1
            pure (some true)
          else pure (some true)) R E s := by
  refine wpAny_bind (wpAny_storeSet_of ho hd ?_ (fits_of_scanBound hb1))
  have ho1 := store_at (es' := es1) (t' := t2) ho hd
  have sb1 := Heap.SameBut.update s.heap a (Obj.putSet es1 t2)
  split
  · have pm := relayAll_perm t2 es1 (SetTable.grown es1.size)
    have hf3 := relayAll_fits t2 es1 (SetTable.grown es1.size)
    have hr3 := relayAll_ris t2 es1 (SetTable.grown es1.size)
    have hl3 := relayAll_led t2 es1 (SetTable.grown es1.size)
    generalize relayAll t2 es1 (SetTable.grown es1.size) = Z at pm hf3 hr3 hl3 ⊢
    obtain ⟨es2, t3, gave⟩ := Z
    dsimp only at pm hf3 hr3 hl3 ⊢
    have hsz : es2.size = es1.size := by rw [← Array.length_toList, pm.length_eq, Array.length_toList]
    have hb2 : es2.size < scanBound := by rw [hsz]; exact hb1
    refine wpAny_bind (hg _ _ _ ?_)
    refine wpAny_bind (wpAny_storeSet_of ho1 rfl ?_ (fits_of_scanBound hb2))
    have ho2 := store_at (es' := es2) (t' := t3) ho1 rfl
    refine wpAny_pure (hR _ (sb1.trans (Heap.SameBut.update _ a _)) ?_)
    exact ⟨_, es2, _, t3, ho2, hex, rfl, fun e he => g1 e (pm.mem_iff.mp he), (pm.map keyS).trans pm1, nd1, hb2, hf3, hr3, hl.imp id fun z => by rw [hl3]; exact z⟩
  · exact wpAny_pure (hR _ sb1 ⟨_, es1, _, t2, ho1, hex, rfl, g1, pm1, nd1, hb1, hf2, hr, hl⟩)
theorem stx_hashed {k : Str} {tk : Tok} {Q : Bool → Shared → Prop} (R : STx w s.heap a L) (room : L.length + 1 < scanBound)
    (hQ : ∀ b h' L', Heap.SameBut a s.heap h' → STx w h' a L' → (k ∈ L → L' = L) → (k ∉ L → L' = k :: L) → Q b { s with heap := h' }) :
    wpAny (model P w) A (setAddHashed a (.str k tk) ((PySem.strKind P w).hash k)) Q E s := by
  obtain ⟨o, es, ep, t, ho, hex, hd, g, pm0, nd, hb, hf, hr, hl⟩ := R
  have hkey : (PySem.strKind P w).is k (.str k tk) = true := isStr_self k tk
  have hsc : (Value.str k tk).scannable = true := rfl
  have hel : ElemsOf (PySem.strKind P w) es.toList := goodS_elems g
  have mem : k ∈ es.toList.map keyS ↔ ∃ e ∈ es.toList, (PySem.strKind P w).is k e.2 = true := by
    rw [List.mem_map]
    constructor
    · rintro ⟨e, he, q⟩
      exact ⟨e, he, (goodS_is (g e he) k).2 q⟩
    · rintro ⟨e, he, q⟩
      exact ⟨e, he, (goodS_is (g e he) k).1 q⟩
  have hn : es.size = L.length := by
    have := pm0.length_eq
    rw [List.length_map, Array.length_toList] at this
    exact this
  unfold setAddHashed setAddHashedIn
  refine wpAny_holding (wpAny_bind (wpAny_setState_of ho hd hf ?_))
  dsimp only
  rw [byScan_of hsc hb hel]
  simp only [↓reduceIte]
  unfold setAddByScan
  refine wpAny_bind ?_
  refine wpAny_bind (wpAny_rule ?_)
  refine wpAny_bind (wpAny_setScan_of hkey ho hd hf hel ?_)
  cases hfi : List.findIdx? (fun e => (PySem.strKind P w).is k e.2) es.toList with
  | some j =>
    dsimp only
    obtain ⟨hj, pj, _⟩ := List.findIdx?_eq_some_iff_getElem.mp hfi
    have hin : k ∈ L := pm0.mem_iff.mp (mem.2 ⟨es.toList[j], List.getElem_mem hj, pj⟩)
    refine wpAny_pure (wpAny_pure ?_)
    exact hQ false s.heap L (Heap.SameBut.refl a s.heap) ⟨o, es, ep, t, ho, hex, hd, g, pm0, nd, hb, hf, hr, hl⟩ (fun _ => rfl) fun z => absurd hin z
  | none =>
    dsimp only
    have hnk : k ∉ L := fun z => by
      obtain ⟨e, he, q⟩ := mem.1 (pm0.mem_iff.mpr z)
      have c := List.findIdx?_eq_none_iff.mp hfi e he
      rw [q] at c
      cases c
    have hgw : ∀ (b : Bool) {s₁ : Shared} {Q' : Unit → Shared → Prop}, Q' () s₁ → wpAny (model P w) A (match b with | true => rule "set.scan.the-table-gave-way" | false => pure ()) Q' E s₁ :=
      fun b s₁ Q' q => by cases b <;> first | exact wpAny_pure q | exact wpAny_rule q
    have pm := layNew_perm t es ((PySem.strKind P w).hash k) (.str k tk)
    have hf1 := layNew_fits t es ((PySem.strKind P w).hash k) (.str k tk)
    have hr1 := layNew_ris t es ((PySem.strKind P w).hash k) (.str k tk) hr
    have hl1 := layNew_led t es ((PySem.strKind P w).hash k) (.str k tk)
    generalize layNew t es ((PySem.strKind P w).hash k) (.str k tk) = Z at pm hf1 hr1 hl1 ⊢
    obtain ⟨es1, t1, wasDummy, gave⟩ := Z
    dsimp only at pm hf1 hr1 hl1 ⊢
    rw [Array.toList_push] at pm
    have pc : es1.toList.Perm (((PySem.strKind P w).hash k, Value.str k tk) :: es.toList) := pm.trans (List.perm_append_singleton _ _)
    have pk : (es1.toList.map keyS).Perm (k :: L) := (pc.map keyS).trans (pm0.cons k)
    have g1 : ∀ e ∈ es1.toList, GoodS w e := fun e he => by
      rcases List.mem_cons.mp (pc.mem_iff.mp he) with z | z
      · rw [z]; exact ⟨k, tk, rfl, rfl⟩
      · exact g e z
    have nd1 : (k :: L).Nodup := List.nodup_cons.mpr ⟨hnk, nd⟩
    have hsz : es1.size = L.length + 1 := by rw [← Array.length_toList, pc.length_eq, List.length_cons, Array.length_toList, hn]
    have hb1 : es1.size < scanBound := by rw [hsz]; exact room
    have hled : w.params.followText "set-order" = true ∨ t1.led = true := hl.imp id fun z => by rw [hl1]; exact z
    have fin : ∀ h', Heap.SameBut a s.heap h' → STx w h' a (k :: L) → Q true { s with heap := h' } := fun h' sb r => hQ true h' _ sb r (fun z => absurd z hnk) fun _ => rfl
    refine wpAny_bind (hgw _ ?_)
    split
    · refine wpAny_bind ?_
      rw [hashByValue_scannable 8 hsc]
      refine wpAny_pure ?_
      refine stx_tail ?_ ho hex hd g1 pk nd1 hb1 ?_ ?_ ?_ ?_
      · intro b s₁ Q' q; cases b <;> first | exact wpAny_pure q | exact wpAny_rule q
      · first | (split <;> first | exact hf1 | exact SetTable.fits_plain_off hf1) | exact hf1
      · first | (split <;> exact hr1) | exact hr1
      · first | (split <;> exact hled) | exact hled
      · intro h' sb r; dsimp only; exact wpAny_pure (fin h' sb r)
    · refine wpAny_bind (wpAny_pure ?_)
      simp only [↓reduceIte]
      refine stx_tail ?_ ho hex hd g1 pk nd1 hb1 hf1 hr1 hled ?_
      · intro b s₁ Q' q; cases b <;> first | exact wpAny_pure q | exact wpAny_rule q
      · intro h' sb r; dsimp only; exact wpAny_pure (fin h' sb r)
theorem STx.typeIs (R : STx w s.heap a L) : s.TypeIs (.ref a) "set" := by
  obtain ⟨o, es, ep, t, ho, hex, _⟩ := R
  exact ⟨o, ho, hex.1⟩
theorem stx_add {k : Str} {tk : Tok} {Q : Value → Shared → Prop} (R : STx w s.heap a L) (room : L.length + 1 < scanBound)
    (hQ : ∀ h' L', Heap.SameBut a s.heap h' → STx w h' a L' → (k ∈ L → L' = L) → (k ∉ L → L' = k :: L) → Q .none { s with heap := h', toks := s.toks + 1 }) :
    wpAny (model P w) A (call (.builtin "set.add") [.ref a, .str k tk]) Q E s := by
  refine wpAny_call_entry F.slot_set_add R.typeIs F.entry_set_add ?_ (F.args_set_add_2 _ _)
  unfold Builtin.«set.add» Builtin.Frozenset.oneOther
  simp only [List.isEmpty_nil, bind_assoc]
  unfold Builtin.Frozenset.addrOf setAdd
  refine wpAny_bind (wpAny_pure ?_)
  try dsimp only
  refine wpAny_bind (wpAny_pure ?_)
  try dsimp only
  refine wpAny_bind ?_
  refine wpAny_holding ?_
  refine wpAny_bind ((PySem.strKind P w).pyHash (k := k) (isStr_self k tk) ?_)
  refine stx_hashed (s := { s with toks := s.toks + 1 }) R room fun b h' L' sb r e1 e2 => ?_
  show wpAny _ _ (ret Value.none) _ _ _
  exact wpAny_pure ⟨_, rfl, hQ h' L' sb r e1 e2⟩
theorem stx_fresh {h : Heap} (ho : h.get? a = some { cls := .type "set", dict := none, data := .set #[] 0 (.fresh 0 0 (!w.params.followText "set-order")) }) : STx w h a [] :=
  ⟨_, #[], 0, _, ho, ⟨rfl, rfl, rfl⟩, rfl, (fun e he => by simp at he), (by simp), List.nodup_nil, (by decide), (by rfl), List.Pairwise.nil, by
    show _ ∨ (!w.params.followText "set-order") = true
    cases w.params.followText "set-order"
    · exact .inr rfl
    · exact .inl rfl⟩
end
section
variable {X : Cx}
theorem valsS_of {w : World} : ∀ {l : List (Int × Value)}, (∀ e ∈ l, GoodS w e) → Vals ((l.map keyS).map V.str) (l.map (·.2))
  | [], _ => .nil
  | e :: l, g => by
    obtain ⟨x, tk, h1, h2⟩ := g e List.mem_cons_self
    refine .cons ?_ (valsS_of fun e' he => g e' (List.mem_cons_of_mem _ he))
    show ∃ t, e.2 = Value.str (keyS e) t
    have ek : keyS e = x := by
      unfold keyS
      rw [h1]
    exact ⟨tk, by rw [ek, h1]⟩
theorem vals_unperm : ∀ {us out : List Value}, out.Perm us → ∀ {xs : List V}, Vals xs us → ∃ ys, ys.Perm xs ∧ Vals ys out := by
  intro us out p
  induction p with
  | nil => intro xs r; exact ⟨xs, List.Perm.refl _, r⟩
  | cons x p ih =>
    intro xs r
    cases r with
    | cons r1 r2 =>
      obtain ⟨ys, h1, h2⟩ := ih r2
      exact ⟨_ :: ys, h1.cons _, .cons r1 h2⟩
  | swap x y l =>
    intro xs r
    cases r with
    | cons r1 r2 =>
      cases r2 with
      | cons r3 r4 => exact ⟨_ :: _ :: _, List.Perm.swap _ _ _, .cons r3 (.cons r1 r4)⟩
  | trans p1 p2 ih1 ih2 =>
    intro xs r
    obtain ⟨ys, h1, h2⟩ := ih2 r
    obtain ⟨zs, h3, h4⟩ := ih1 h2
    exact ⟨zs, h3.trans h1, h4⟩
/-- sorted(set of texts) -/
def rSrtTx (w : World) : List V → Hp → VK → Prop := fun vs H Q => ∃ a L, vs = [.ref a] ∧ H a = some (SetTx w a L) ∧ L.length ≤ 1000 ∧ ∀ (L' : List Str) p, L'.Perm L → H p = none → Q (.ref p) (upd H p (.lst (L'.map V.str)))
theorem srtIn_str (H : Hp) (L : List Str) (hl : L.length ≤ 100000) : SrtIn H (L.map V.str) (L.map fun x => (V.str x, PyData.str x)) where
  eq := by rw [List.map_map]; rfl
  rd := fun b hb => by
    obtain ⟨x, _, rfl⟩ := List.mem_map.mp hb
    exact .str x
  al := by
    rw [List.map_map]
    exact PySem.W.AllAlike.of (enc := PyData.str) fun a b => by simp [PySem.W.alike]
  so := by
    rw [List.map_map]
    exact PySem.W.Sortable.others (enc := PyData.str) fun b => ⟨PyData.noConfusion, fun xs => PyData.noConfusion⟩
  dp := fun b hb => by
    obtain ⟨x, _, rfl⟩ := List.mem_map.mp hb
    simp [PyData.depth]
  ln := by rw [List.length_map]; exact hl
theorem srt_perm (bs : List (V × PyData)) : (srt bs).Perm (bs.map Prod.fst) := (List.mergeSort_perm _ _).map _
/-- a list of texts that is a permutation of such is one -/
theorem perm_map_str : ∀ {xs : List V} {L : List Str}, xs.Perm (L.map V.str) → ∃ L' : List Str, L'.Perm L ∧ xs = L'.map V.str := fun {xs L} p => by
  have unV : ∀ x ∈ xs, ∃ z, x = V.str z := fun x hx => by
    obtain ⟨z, _, e⟩ := List.mem_map.mp (p.mem_iff.mp hx)
    exact ⟨z, e.symm⟩
  have : ∀ ys : List V, (∀ x ∈ ys, ∃ z, x = V.str z) → ∃ L' : List Str, ys = L'.map V.str := by
    intro ys
    induction ys with
    | nil => intro _; exact ⟨[], rfl⟩
    | cons y ys ih =>
      intro h
      obtain ⟨z, e⟩ := h y List.mem_cons_self
      obtain ⟨L', e'⟩ := ih fun x hx => h x (List.mem_cons_of_mem _ hx)
      exact ⟨z :: L', by rw [e, e']; rfl⟩
  obtain ⟨L', e⟩ := this xs unV
  refine ⟨L', ?_, e⟩
  rw [e] at p
  have q := p.map fun v => match v with | V.str z => z | _ => (⟨#[]⟩ : Str)
  rw [List.map_map, List.map_map] at q
  have i1 : ∀ l : List Str, l.map ((fun v => match v with | V.str z => z | _ => (⟨#[]⟩ : Str)) ∘ V.str) = l := fun l => by
    have : ((fun v => match v with | V.str z => z | _ => (⟨#[]⟩ : Str)) ∘ V.str) = id := rfl
    rw [this, List.map_id]
  rw [i1, i1] at q
  exact q
theorem cr_srtTx (hc : X.calm = true) (hu : X.A.units + 65 < cLine) : CallR X (.builtin "sorted") (rSrtTx X.w) := by
  intro pins s σ H vs us Q I r h
  obtain ⟨a, L, rfl, ha, hl, q⟩ := h
  rw [Vals.ref1 r]
  obtain ⟨o, es, ep, t, ho, hex, hd, g, pm, nd, hb, hf, hr, hl1⟩ := (show STx X.w s.heap a L from (I.hok a _ ha).1)
  refine sorted_core I hu (fun ys => ∃ L' : List Str, L'.Perm L ∧ ys = L'.map V.str) (fun Qc k => ?_) fun ys ⟨L', p', e⟩ => ⟨L'.map fun x => (V.str x, PyData.str x), by subst e; exact srtIn_str H L' (by rw [p'.length_eq]; omega), fun p hp => ?_⟩
  · refine collect_set (P := X.prog) (w := X.w) (A := X.A.in1) (show X.A.in1.handled = none from I.ok.hd hc) ⟨o, ho, hex.1, hd⟩ hf hb hr hl1 fun s' out k1 hz hg ho' po => ?_
    obtain ⟨ys, y1, y2⟩ := vals_unperm po (valsS_of g)
    obtain ⟨L', z1, z2⟩ := perm_map_str (y1.trans (pm.map V.str))
    exact k out s' ys (inv_kept I k1 hg ho') y2 ⟨L', z1, z2⟩
  · have pp : (srt (L'.map fun x => (V.str x, PyData.str x))).Perm (L'.map V.str) := by
      have := srt_perm (L'.map fun x => (V.str x, PyData.str x))
      rw [List.map_map] at this
      exact this
    obtain ⟨L2, z1, z2⟩ := perm_map_str pp
    rw [z2]
    exact q L2 p (z1.trans p') hp
end
/-! ### the set comprehension -/
section
variable {X : Cx}
/-- {e for target in iter if ..}, e a text: D the new set -/
def tSc (w : World) (wi : TI) (g : TG) (tt : TT) (te : TE) (vs : List Nat) : TE := fun σ H Q => wi σ H fun J H1 => ∀ D, H1 D = none → ∃ W : Nat → Nat → Hp → Prop, (∃ m, W 0 m (upd H1 D (SetTx w D []))) ∧ ∀ i m H, W i m H →
  (J.stop i H ∧ Q (.ref D) H) ∨ (J.go i H ∧ ∃ Nx : Hp → Prop, (∀ H', Nx H' → ∃ m', m' < m ∧ W (i + 1) m' H') ∧ ∀ x H', J.yld i H x H' → g x (wipe σ vs) H' fun σ2 H2 => wipe σ2 vs = wipe σ vs ∧ tt σ2 H2 fun b H3 =>
    if b = true then te σ2 H3 fun y H4 => ∃ L k, y = .str k ∧ H4 D = some (SetTx w D L) ∧ L.length < 1000 ∧ ∀ L', (k ∈ L → L' = L) → (k ∉ L → L' = k :: L) → Nx (upd H4 D (SetTx w D L')) else Nx H3)
theorem stx_write {pins : List (Addr × Obj)} {σ : L2.St} {H : Hp} {s : Shared} {E : Value → Shared → Prop} {a : Addr} {L : List Str} {k : Str} {u : Value} {Q : Value → Shared → Prop} (I : Inv X pins σ H s) (ha : H a = some (SetTx X.w a L)) (room : L.length < 1000) (r : RelV (.str k) u)
    (h : ∀ s' L', Inv X pins σ (upd H a (SetTx X.w a L')) s' → (k ∈ L → L' = L) → (k ∉ L → L' = k :: L) → Q .none s') : wpAny (model X.prog X.w) X.A (call (.builtin "set.add") [.ref a, u]) Q E s := by
  obtain ⟨tk, rfl⟩ := r
  have R : STx X.w s.heap a L := (I.hok a _ ha).1
  refine stx_add R (by unfold scanBound; omega) fun h' L' sb new e1 e2 => h _ L' (I.write (e := a) (t' := s.toks + 1) (by rw [ha]; trivial) (.inl rfl) (fun b u hb hu => (sb.2 b hb).trans hu) ?_ (setTx_new new)) e1 e2
  have ⟨o, _, _, _, ho, _⟩ := new
  exact ⟨o, ho⟩
theorem pe_sc {elt tg iter : Expr} {ifs : List Expr} {scope : Scope} {own : List (Str × Nat)} {pos : Pos} {wi : TI} {g : TG} {tt : TT} {te : TE} (hc : X.calm = true) (hN : X.N.Nodup) (hi : PI X tg iter wi) (ok : BlkOk X.N X.env.scope scope own)
    (hg : ∀ (s : Shared) (H : Hp) (C : Addr) (cl : List (Str × Addr)) (fp : List Addr), PG (X.blk s H scope (compEnvC scope cl C X.env) fp) tg g) (ht : ∀ (s : Shared) (H : Hp) (C : Addr) (cl : List (Str × Addr)) (fp : List Addr), PTs (X.blk s H scope (compEnvC scope cl C X.env) fp) ifs tt)
    (he : ∀ (s : Shared) (H : Hp) (C : Addr) (cl : List (Str × Addr)) (fp : List Addr), PE (X.blk s H scope (compEnvC scope cl C X.env) fp) elt te) (hs : ∀ x, foldedSetIterable iter X.env x = pure x := by intro _; rfl) :
    PE X (.SetComp elt [⟨tg, iter, ifs, 0⟩] scope pos) (tSc X.w wi g tt te (own.map (·.2))) := by
  refine ⟨fun pins s σ H Q I h => ?_⟩
  have hfree : ∀ y ∈ scope.names, y.2 = .free → ∃ c, X.env.cells.lookup y.1 = some c := fun y hy e => by
    rcases ok.free y hy e with k | k
    · exact I.ok.has _ (.inl k)
    · exact I.ok.has _ (.inr k)
  rw [arm_eval_SetComp]
  refine wpAny_comprehension_free (use := none) rfl hs (closure_ok hfree) ok.kind (fun y hy e => by rw [ok.uniq y hy, e])
    (thn (hi.run pins s σ H _ I h) fun xv s1 hx => thn hx fun itv s2 h2 => ?_)
  obtain ⟨it, fp, tn, J, H2, e, I2, T, st2, f2, q⟩ := h2
  subst e
  refine wpAny_newSet_raw fun led hled => newEnv_comp ?_
  subst hled
  generalize hD : s2.heap.objs.size = D
  have hDn : H2 D = none := I2.hok.fresh (Nat.le_of_eq hD)
  obtain ⟨W, ⟨m0, w0⟩, turn⟩ := q D hDn
  generalize hs3 : ({ s2 with heap := s2.heap.push { cls := .type "set", dict := none, data := .set #[] 0 (.fresh 0 0 (!X.w.params.followText "set-order")) } } : Shared) = s3
  have I3 : Inv X pins σ (upd H2 D (SetTx X.w D [])) s3 := by
    rw [← hs3]
    refine I2.laid (t' := s2.toks) (fun b o e => Heap.get?_push_of_some _ e) (Nat.le_of_eq hD) ?_
    rw [← hD]
    exact setTx_new (stx_fresh (Heap.get?_push_size _ rfl))
  have h3 : s3.heap = s2.heap.push { cls := .type "set", dict := none, data := .set #[] 0 (.fresh 0 0 (!X.w.params.followText "set-order")) } := by rw [← hs3]
  have sz : ∀ b ∈ fp, b < s2.heap.objs.size := fun b hb => by
    obtain ⟨o, e, _⟩ := T.obj _ _ st2 b hb
    exact Heap.lt_size e
  have f3 : ∀ b ∈ fp, FpOk X pins (upd H2 D (SetTx X.w D [])) b ∧ b < s3.heap.objs.size := fun b hb => by
    have hlt := sz b hb
    refine ⟨⟨?_, (f2 b hb).2⟩, by rw [h3, Heap.size_push]; exact Nat.lt_succ_of_lt hlt⟩
    rw [upd_ne (by rw [← hD]; exact Nat.ne_of_lt hlt)]
    exact (f2 b hb).1
  have st3 : tn 0 s3.heap := T.keep _ _ _ st2 fun b _ o e => by rw [h3]; exact Heap.get?_push_of_some _ e
  have I4 := block_start I3 ok hN f3
  have pg := hg s3 (upd H2 D (SetTx X.w D [])) s3.heap.objs.size (cellsFrom (s3.heap.objs.size + 1) scope.names (cloFrom X.env.cells scope.names [])) fp
  have pt := ht s3 (upd H2 D (SetTx X.w D [])) s3.heap.objs.size (cellsFrom (s3.heap.objs.size + 1) scope.names (cloFrom X.env.cells scope.names [])) fp
  have pe := he s3 (upd H2 D (SetTx X.w D [])) s3.heap.objs.size (cellsFrom (s3.heap.objs.size + 1) scope.names (cloFrom X.env.cells scope.names [])) fp
  show codeAny _ _ (.compStart (.SetComp elt [⟨tg, iter, ifs, 0⟩] scope pos) 0 (.ref it) (.ref D) (compEnvC scope (cellsFrom (s3.heap.objs.size + 1) scope.names (cloFrom X.env.cells scope.names [])) s3.heap.objs.size X.env)) (compPost (model X.prog X.w) X.A X.xe none (EP X pins σ Q) (.ref D) s3.heap.objs.size) { s3 with heap := pushCells (s3.heap.push { cls := .type "dict", data := .dict #[] }) scope.names }
  have nfp : ∀ b ∈ fp, (upd H2 D (SetTx X.w D [])) b = none := fun b hb => (f3 b hb).1.1
  generalize hce : compEnvC scope (cellsFrom (s3.heap.objs.size + 1) scope.names (cloFrom X.env.cells scope.names [])) s3.heap.objs.size X.env = ce at I4 pg pt pe ⊢
  have cL : ce.locals = s3.heap.objs.size := by subst hce; rfl
  generalize hH3 : upd H2 D (SetTx X.w D []) = H3 at I3 I4 pg pt pe w0 nfp f3
  generalize hs4 : ({ s3 with heap := pushCells (s3.heap.push { cls := .type "dict", data := .dict #[] }) scope.names } : Shared) = s4 at I4 ⊢
  have st4 : tn 0 s4.heap := T.keep _ _ _ st3 fun b _ o e => by rw [← hs4]; exact pushCells_keeps _ _ _ _ (Heap.get?_push_of_some _ e)
  have stat : ∀ {σ' : L2.St} {H' : Hp} {s' : Shared}, Inv (X.blk s3 H3 scope ce fp) [] σ' H' s' → (∀ b ∈ fp, H' b = none) → ∀ b ∈ fp, FpOk (X.blk s3 H3 scope ce fp) [] H' b := fun {σ' H' s'} I' hn b hb =>
    ⟨hn b hb, (I'.ok.exf b hb).1, I'.ok.exfs b hb, .inl hb, fun x c e => (I'.ok.exf b hb).2 x c e, fun p hp => absurd (show p ∈ ([] : List (Addr × Obj)) ++ [] from hp) (by simp)⟩
  have loop : codeAny (model X.prog X.w) X.A (.compLoop (.SetComp elt [⟨tg, iter, ifs, 0⟩] scope pos) 0 (.ref it) (.ref D) ce) (compPost (model X.prog X.w) X.A X.xe none (EP X pins σ Q) (.ref D) s3.heap.objs.size) s4 := by
    refine compLoop_set_any (fun n s' => ∃ i H', Inv (X.blk s3 H3 scope ce fp) [] (wipe σ (own.map (·.2))) H' s' ∧ tn i s'.heap ∧ (∀ b ∈ fp, H' b = none) ∧ W i n H') ?_ m0 ⟨0, H3, I4, st4, nfp, w0⟩
    rintro n s5 ⟨i, H5, I5, st5, n5, w5⟩
    rcases turn i n H5 w5 with ⟨stop, qq⟩ | ⟨go, Nx, hNx, step⟩
    · have td := T.done (X.blk s3 H3 scope ce fp) rfl rfl rfl hc i [] s5 _ H5 (fun _ _ => False) I5 (stat I5 n5) st5 stop
      refine thnF td fun r s6 ⟨hr, I6⟩ => ?_
      subst hr
      have I7 : Inv X pins σ H5 s6 := I3.call' (ch := fp) I6.os I6.base I6.hok I6.bare fun b hb => ⟨(f3 b hb).1.2.2.2.1, (f3 b hb).1.2.1, (f3 b hb).1.2.2.2.2.1, (f3 b hb).1.2.2.2.2.2⟩
      have nC : H5 s3.heap.objs.size = none := by
        have z : H5 ce.locals = none := I6.free
        rw [cL] at z
        exact z
      obtain ⟨m, hn, _⟩ := I6.loc
      have hn : s6.heap.Ns ce.locals m := hn
      rw [cL] at hn
      obtain ⟨f0, f1, f2', f3', f4, f5⟩ := I3.fpOk (Nat.le_refl _) nC
      exact ⟨m, hn, fun h'' sb => ⟨.ref D, H5, I7.turned (t' := s6.toks) (fun b o hb e => (sb.2 b hb).trans e) f0 f1 f3' f4 f5, rfl, qq⟩⟩
    · have ti := T.item (X.blk s3 H3 scope ce fp) rfl rfl rfl hc i [] s5 _ H5 (fun _ _ => False) I5 (stat I5 n5) st5 go
      refine thnF ti fun r s6 ⟨u, hr, h6⟩ => ?_
      subst hr
      refine thnF h6 fun _ s7 ⟨x, H7, I7, r7, y7, st7, n7⟩ => ?_
      have I7' := I7.pinned (stat I7 n7) (T.obj _ _ st7)
      refine thnF (pg.run _ s7 _ H7 x u _ I7' r7 (step x H7 y7)) fun _ s8 ⟨σ8, H8, I8, hw8, q8⟩ => ?_
      refine thnF (pt.run _ s8 σ8 H8 _ I8 q8) fun b s9 ⟨H9, I9, q9⟩ => ?_
      have fin : ∀ {s' : Shared} {H' : Hp}, Inv (X.blk s3 H3 scope ce fp) ([] ++ pinsAt fp s7.heap) σ8 H' s' → Nx H' → ∃ m, m < n ∧ ∃ i H', Inv (X.blk s3 H3 scope ce fp) [] (wipe σ (own.map (·.2))) H' s' ∧ tn i s'.heap ∧ (∀ b ∈ fp, H' b = none) ∧ W i m H' := fun {s' H'} I' nx => by
        obtain ⟨m', hm, w'⟩ := hNx H' nx
        have pin' : ∀ b ∈ fp, ∀ o, s7.heap.get? b = some o → s'.heap.get? b = some o ∧ H' b = none := fun b hb o e =>
          let z := I'.pin (b, o) (List.mem_append_right _ (List.mem_append_right _ (mem_pinsAt hb e)))
          ⟨z.1, z.2.1⟩
        have hl : (wipe σ (own.map (·.2))).length = σ8.length := by rw [← hw8, wipe_length]
        refine ⟨m', hm, i + 1, H', (I'.unpinned (pins := [])).weak hl (fun j v e => ?_), T.keep _ _ _ st7 fun b hb o e => (pin' b hb o e).1, fun b hb => ?_, w'⟩
        · rw [← hw8] at e
          exact (wipe_some e).1
        · obtain ⟨o, e, _⟩ := T.obj _ _ st7 b hb
          exact (pin' b hb o e).2
      cases b with
      | false =>
        simp only [Bool.false_eq_true, if_false] at q9 ⊢
        exact fin I9 q9
      | true =>
        simp only [if_true] at q9 ⊢
        refine thnF (pe.run _ s9 σ8 H9 _ I9 q9) fun z2 s11 ⟨yv, H11, I11, r11, L, k, ek, hD11, hz11, nx⟩ => ?_
        subst ek
        exact stx_write (X := X.blk s3 H3 scope ce fp) I11 hD11 hz11 r11 fun s12 L' I12 e1 e2 => fin I12 (nx L' e1 e2)
  exact codeAny_compStart_set loop (T.self X.A 0 _ _ _ st4 loop)
end
end Un

/-! ## B8 -/
set_option Elab.async false
set_option linter.all false
set_option maxRecDepth 100000
set_option maxHeartbeats 4000000
/-! Sets of pairs of texts (tuples of texts): add, in, sorted. The table's own laws are HandS.TupSets'; the search and the adding are told anew, for either way of asking. -/
namespace Un
open PySem PySem.Spec PyProof.Rows L2 StX
abbrev ph (P : Program) (w : World) (k : List Str) : Int := tupleKeyHash (PySem.strKind P w) k
abbrev IsP (P : Program) (w : World) (h : Heap) (k : List Str) (a : Addr) : Prop := IsTupleKey (PySem.strKind P w) h k a
abbrev PL := List (Addr × List Str)
def rowsP (P : Program) (w : World) (L : PL) : List (Int × Value) := L.map fun p => (ph P w p.2, Value.ref p.1)
structure SetPR (P : Program) (w : World) (h : Heap) (a : Addr) (L : PL) (es : Array (Int × Value)) (ep : Nat) (t : SetTable) : Prop where
  ob : ∃ o, h.get? a = some o ∧ o.ExactSet ∧ o.data = .set es ep t
  rows : es.toList = rowsP P w L
  tab : TabOk t (L.map fun p => ph P w p.2)
  nd : (L.map (·.2)).Nodup
  tup : ∀ p ∈ L, IsP P w h p.2 p.1
  led : w.params.followText "set-order" = true ∨ t.led = true
  room : L.length * 5 < t.mask * 3
  few : L.length < 64
section
variable {P : Program} {w : World} {A : Around} {E : Value → Shared → Prop} {s : Shared}
theorem itemsP_str {k : List Str} {vs : List Value} (h : ItemsAre (PySem.strKind P w) k vs) : ∀ v ∈ vs, ∃ x t, v = Value.str x t := by
  induction h with
  | nil => intro v hv; cases hv
  | @cons k0 v' ks vs h1 _ ih =>
    intro v hv
    rcases List.mem_cons.mp hv with e | hv
    · obtain ⟨t, e2⟩ := Value.isStrOf_shape h1
      exact ⟨k0, t, e.trans e2⟩
    · exact ih v hv
theorem ofClsP_str (n : Nat) (x : Str) (t : Tok) : ofAClassStatement n (.str x t) = pure false := by
  cases n <;> rfl
theorem hashP_str (n : Nat) (x : Str) (t : Tok) : hashByValue n (.str x t) = pure false := by
  cases n <;> rfl
theorem ofClsP_tup {k : List Str} {b : Addr} {Q : Bool → Shared → Prop} (hk : IsP P w s.heap k b) (h : Q false s) : wpAny (model P w) A (ofAClassStatement 8 (.ref b)) Q E s := by
  have hT := hk.typeIs
  obtain ⟨o, items, n, ho, _, hd, hi⟩ := hk
  unfold ofAClassStatement
  refine wpAny_bind (wpAny_typeOf hT ?_)
  dsimp only
  have e : (("tuple" : String) == "tuple") = true := by decide
  simp only [e, if_true, Bool.not_true, Bool.false_eq_true, if_false]
  try refine wpAny_bind (wpAny_pure ?_)
  try simp only [Bool.not_true, Bool.false_eq_true, if_false]
  show wpAny _ _ (seqItems? (.ref b) >>= _) _ _ s
  refine wpAny_bind (wpAny_seqItems ho hd ?_)
  dsimp only
  refine wpAny_bind ?_
  show wpAny _ _ (forIn items _ _) _ _ s
  rw [← Array.forIn_toList]
  refine wpAny_forIn_list _ (fun rest r s' => r.1 = none ∧ s' = s ∧ ∀ v ∈ rest, ∃ x t, v = Value.str x t) _ ?_ ?_ _ _ ⟨rfl, rfl, itemsP_str hi⟩
  · rintro v rest r s' ⟨hr, rfl, hall⟩
    obtain ⟨i, t, rfl⟩ := hall v List.mem_cons_self
    rw [ofClsP_str]
    refine wpAny_bind (wpAny_pure ?_)
    simp only [Bool.false_eq_true, if_false]
    exact wpAny_pure ⟨rfl, rfl, fun u hu' => hall u (List.mem_cons_of_mem _ hu')⟩
  · rintro ⟨r1, r2⟩ s' ⟨hr, rfl, _⟩
    simp only at hr
    subst hr
    exact wpAny_pure h
/-- whether a tuple of texts is hashed by value: told neither way -/
theorem hashP_tup {k : List Str} {b : Addr} {Q : Bool → Shared → Prop} (hk : IsP P w s.heap k b) (h : ∀ c, Q c s) : wpAny (model P w) A (hashByValue 8 (.ref b)) Q E s := by
  have hT := hk.typeIs
  obtain ⟨o, items, n, ho, _, hd, hi⟩ := hk
  unfold hashByValue
  refine wpAny_bind (wpAny_specialOf hT F.slot_tuple_hash.lookup ?_)
  show wpAny _ _ (seqItems? (.ref b) >>= _) _ _ s
  refine wpAny_bind (wpAny_seqItems ho hd ?_)
  refine wpAny_bind ?_
  show wpAny _ _ (forIn items _ _) _ _ s
  rw [← Array.forIn_toList]
  have hall := itemsP_str hi
  cases hz : items.toList with
  | nil => exact wpAny_pure (wpAny_pure (h true))
  | cons v rest =>
    obtain ⟨x, t, rfl⟩ := hall v (by rw [hz]; exact List.mem_cons_self)
    rw [List.forIn_cons]
    rw [hashP_str]
    refine wpAny_bind (wpAny_bind (wpAny_pure ?_))
    simp only [Bool.not_false, if_true]
    exact wpAny_pure (wpAny_pure (wpAny_pure (h false)))
theorem seenP {k : List Str} {b : Addr} {Q : Bool → Shared → Prop} (hk : IsP P w s.heap k b) {ys : List Value} (hy : ∀ y ∈ ys, ∃ k' c, y = Value.ref c ∧ IsP P w s.heap k' c) (h : Q false s) :
    wpAny (model P w) A (searchCouldBeSeen (.ref b) ys) Q E s := by
  unfold searchCouldBeSeen
  refine wpAny_bind ?_
  refine wpAny_forIn_list _ (fun rest r s' => r.1 = none ∧ s' = s ∧ ∀ y ∈ rest, ∃ k' c, y = Value.ref c ∧ IsP P w s.heap k' c) _ ?_ ?_ _ _ ⟨rfl, rfl, hy⟩
  · rintro v rest r s' ⟨hr, rfl, hall⟩
    obtain ⟨k', c, rfl, hc⟩ := hall v List.mem_cons_self
    have rest' : ∀ y ∈ rest, ∃ k' c, y = Value.ref c ∧ IsP P w s'.heap k' c := fun u hu' => hall u (List.mem_cons_of_mem _ hu')
    dsimp only
    by_cases hv : (b == c || (carriedByValue (.ref b) && carriedByValue (.ref c))) = true
    · refine wp_if_pos hv ?_
      exact wpAny_pure ⟨rfl, rfl, rest'⟩
    · refine wp_if_neg hv ?_
      refine wpAny_bind (wpAny_eqIsQuiet_tuple hk ?_)
      simp only [Bool.not_true, Bool.false_eq_true, if_false]
      refine wpAny_bind (wpAny_eqIsQuiet_tuple hc ?_)
      simp only [Bool.not_true, Bool.false_eq_true, if_false]
      refine wpAny_bind (ofClsP_tup hk ?_)
      simp only [Bool.false_eq_true, if_false]
      refine wpAny_bind (ofClsP_tup hc ?_)
      simp only [Bool.false_eq_true, if_false]
      exact wpAny_pure ⟨rfl, rfl, rest'⟩
  · rintro ⟨r1, r2⟩ s' ⟨hr, rfl, _⟩
    simp only at hr
    subst hr
    exact wpAny_pure h
variable {a : Addr} {L : PL} {es : Array (Int × Value)} {ep : Nat} {t : SetTable}
theorem rowsP_size (h : es.toList = rowsP P w L) : es.size = L.length := by
  have q := congrArg List.length h
  unfold rowsP at q
  rw [Array.length_toList, List.length_map] at q
  exact q
theorem SetPR.size (R : SetPR P w s.heap a L es ep t) : es.size = L.length := rowsP_size R.rows
theorem SetPR.fits (R : SetPR P w s.heap a L es ep t) : t.fits es.size = true := by
  have h1 := R.tab.sz
  rw [List.length_map] at h1
  have h2 := R.size
  have h3 := R.room
  unfold SetTable.fits SetTable.fill
  rw [R.tab.dm, Bool.and_eq_true, beq_iff_eq, decide_eq_true_eq]
  show t.place.size = es.size ∧ t.place.size + 0 ≤ t.mask
  omega
theorem rowsP_at (h : es.toList = rowsP P w L) {i : Nat} {p : Addr × List Str} (hp : L[i]? = some p) : es[i]? = some (ph P w p.2, Value.ref p.1) := by
  rw [← Array.getElem?_toList, h]
  unfold rowsP
  rw [List.getElem?_map, hp] <;> rfl
theorem SetPR.gw (R : SetPR P w s.heap a L es ep t) : ¬ t.gaveWay = true := by
  unfold SetTable.gaveWay
  rw [mask_odd R.tab.mok]
  decide
/-- behind a candidate, for either way of asking -/
theorem searchP_succ (a : Addr) (x : Value) (h : Int) (adding : Bool) (fuel : Nat) (stand : Option SetTable.Probe) : setSearchFrom a x h adding (fuel + 1) stand = (do
    let (es, _, t) ← setState a
    if t.gaveWay then unsupported "set:on-a-table-that-gave-way"
    let some met := t.probe (fun i => (es[i]?.map (·.1)).getD 0) h (stand.getD (t.probeStart h)) | unsupported "internal:set-table-without-an-empty-slot"
    match met with
    | .empty j dummy =>
      match dummy with
      | none => return .free j false
      | some d =>
        if adding && t.slot d != .dummy then rule "set.search.the-dummy-was-taken"; return ← setSearchFrom a x h adding fuel none
        return .free d true
    | .candidate j i next =>
      if !t.led then
        if ← searchCouldBeSeen x ((es.filter (·.1 == h)).toList.map (·.2)) then unsupported "set:the-search-would-show-the-table"
      searchRest a x h adding fuel es t j i next) := setSearchFrom_succ a x h adding fuel stand
abbrev P0 (t : SetTable) (h : Int) : SetTable.Probe := runAt t.mask (SetTable.bits h % (t.mask + 1)) (SetTable.bits h)
theorem dummy_nth (m : Nat) : ∀ (n : Nat) (p : SetTable.Probe), p.dummy = none → (nth m p n).dummy = none := by
  intro n
  induction n with
  | zero => intro p h; exact h
  | succ n ih =>
    intro p h
    refine ih (adv m p) ?_
    unfold adv
    split <;> exact h
/-- the search from the c-th step of the way on -/
theorem searchP_from (adding : Bool) (R : SetPR P w s.heap a L es ep t) {x : Addr} {k : List Str} (hx : IsP P w s.heap k x) (hu : A.units < cLine) {K : Nat} (hKf : K < 10 * SetTable.turns t.mask)
    (hK : way t.mask (ph P w k) K ∉ t.place.toList) (hKb : ∀ c, c < K → way t.mask (ph P w k) c ∈ t.place.toList) {Q : SetFound → Shared → Prop}
    (hin : k ∈ L.map (·.2) → ∀ r, (adding = false → ∃ i, r = some i) → Q (.there r) s) (hout : k ∉ L.map (·.2) → Q (.free (way t.mask (ph P w k) K) false) s) :
    ∀ (f c : Nat) (stand : Option SetTable.Probe), stand.getD (t.probeStart (ph P w k)) = nth t.mask (P0 t (ph P w k)) c → c ≤ K → K - c < f →
      (∀ (i : Nat) p, L[i]? = some p → p.2 = k → ∃ c', c ≤ c' ∧ c' < K ∧ t.place.toList[i]? = some (way t.mask (ph P w k) c')) →
      wpAny (model P w) A (setSearchFrom a (.ref x) (ph P w k) adding f stand) Q E s
  | 0, c, stand, _, _, hf, _ => absurd hf (Nat.not_lt_zero _)
  | f + 1, c, stand, hst, hc, hf, hre => by
    obtain ⟨o, ho, hex, hd⟩ := R.ob
    rw [searchP_succ]
    refine wpAny_bind (wpAny_setState_of ho hd R.fits ?_)
    dsimp only
    refine wp_if_neg R.gw ?_
    try refine wpAny_bind (wpAny_pure ?_)
    have hnd := dummy_nth t.mask c (P0 t (ph P w k)) rfl
    have sh : ∀ q, nth t.mask (nth t.mask (P0 t (ph P w k)) c) q = nth t.mask (P0 t (ph P w k)) (c + q) := fun q => (nth_add t.mask c _ q).symm
    have e1 : ∀ q, (nth t.mask (nth t.mask (P0 t (ph P w k)) c) q).j = way t.mask (ph P w k) (c + q) := fun q => congrArg SetTable.Probe.j (sh q)
    have spec := go_spec t R.tab.ris R.tab.dm (fun i => (es[i]?.map (·.1)).getD 0) (ph P w k) (10 * SetTable.turns t.mask) (K - c) _ hnd (by omega)
      (fun q hq => by rw [e1]; exact hKb (c + q) (by omega)) (by rw [e1, show c + (K - c) = K by omega]; exact hK)
    have hashAt : ∀ (i : Nat) p, L[i]? = some p → (fun i => (es[i]?.map (·.1)).getD 0) i = ph P w p.2 := fun i p hp => by
      show (es[i]?.map (·.1)).getD 0 = _
      rw [rowsP_at R.rows hp] <;> rfl
    rcases spec with ⟨q, i, hq, hi, hh, hno, hpr⟩ | ⟨hno, hpr⟩
    · have hpr' : t.probe (fun i => (es[i]?.map (·.1)).getD 0) (ph P w k) (stand.getD (t.probeStart (ph P w k))) = some (.candidate (way t.mask (ph P w k) (c + q)) i (nth t.mask (P0 t (ph P w k)) (c + (q + 1)))) := by
        rw [hst, ← e1, ← sh]
        exact hpr
      rw [hpr']
      dsimp only
      rw [e1] at hi
      have hil : i < L.length := by
        have h1 : i < t.place.toList.length := (List.getElem?_eq_some_iff.mp hi).1
        have h2 := R.tab.sz
        rw [List.length_map] at h2
        rw [Array.length_toList] at h1
        omega
      have hp : L[i]? = some L[i] := List.getElem?_eq_getElem hil
      generalize hpe : L[i] = p at hp
      have hmem : p ∈ L := List.mem_of_getElem? hp
      have hpt := R.tup p hmem
      have rest : wpAny (model P w) A (searchRest a (.ref x) (ph P w k) adding f es t (way t.mask (ph P w k) (c + q)) i (nth t.mask (P0 t (ph P w k)) (c + (q + 1)))) Q E s := by
        unfold searchRest
        rw [rowsP_at R.rows hp]
        dsimp only
        refine wpAny_bind (wpAny_holding (wpAny_eqBool_tuple hu hpt hx ?_))
        refine wpAny_bind (wpAny_setState_of ho hd R.fits ?_)
        dsimp only
        have hsl : t.slot (way t.mask (ph P w k) (c + q)) = .live i := slot_live R.tab.ris hi
        by_cases hkk : p.2 = k
        · have hm : k ∈ L.map (·.2) := List.mem_map.mpr ⟨p, hmem, hkk⟩
          cases adding with
          | true =>
            refine wp_if_pos (by simp [hkk]) ?_
            exact wpAny_pure (hin hm none fun z => nomatch z)
          | false =>
            refine wp_if_neg (by simp) ?_
            try refine wpAny_bind (wpAny_pure ?_)
            rw [sameMem]
            dsimp only
            simp only [if_true, hsl, rowsP_at R.rows hp]
            refine wpAny_bind (wpAny_isSame_ref_self (wpAny_bind (wpAny_pure ?_)))
            simp only [if_true]
            refine wp_if_pos (by simp [hkk]) ?_
            exact wpAny_pure (hin hm (some i) fun _ => ⟨i, rfl⟩)
        · refine wp_if_neg (by simp [hkk]) ?_
          try refine wpAny_bind (wpAny_pure ?_)
          rw [sameMem]
          dsimp only
          simp only [if_true, hsl, rowsP_at R.rows hp]
          refine wpAny_bind (wpAny_isSame_ref_self (wpAny_bind (wpAny_pure ?_)))
          simp only [if_true]
          refine wp_if_neg (by simp [hkk]) ?_
          refine searchP_from adding R hx hu hKf hK hKb hin hout f (c + (q + 1)) _ rfl (by omega) (by omega) fun i0 p0 h0 hk0 => ?_
          obtain ⟨c', a1, a2, a3⟩ := hre i0 p0 h0 hk0
          refine ⟨c', ?_, a2, a3⟩
          rcases Nat.lt_or_ge c' (c + q) with z | z
          · exfalso
            refine hno (c' - c) i0 (by omega) (by rw [e1, show c + (c' - c) = c' by omega]; exact a3) ?_
            exact (hashAt i0 p0 h0).trans (congrArg (ph P w) hk0)
          · rcases Nat.lt_or_ge (c + q) c' with y | y
            · omega
            · exfalso
              have ec : c' = c + q := Nat.le_antisymm y z
              rw [ec] at a3
              have s0 := slot_live R.tab.ris a3
              rw [hsl] at s0
              injection s0 with s0
              rw [← s0, hp] at h0
              exact hkk ((congrArg Prod.snd (Option.some.inj h0)).trans hk0)
      by_cases hl : t.led = true
      · refine wp_if_neg (by simp [hl]) ?_
        try refine wpAny_bind (wpAny_pure ?_)
        exact rest
      · refine wp_if_pos (by simp [hl]) ?_
        refine wpAny_bind (seenP hx (fun y hy => ?_) ?_)
        · obtain ⟨e, he, ee⟩ := List.mem_map.mp hy
          have he1 : e ∈ es ∧ e.1 = ph P w k := by simpa using he
          have he2 : e ∈ es.toList := by simpa using he1.1
          rw [R.rows] at he2
          obtain ⟨p2, hp2, e2⟩ := List.mem_map.mp he2
          refine ⟨p2.2, p2.1, ?_, R.tup p2 hp2⟩
          rw [← ee, ← e2]
        · refine wp_if_neg (by decide) ?_
          try refine wpAny_bind (wpAny_pure ?_)
          exact rest
    · have hpr' : t.probe (fun i => (es[i]?.map (·.1)).getD 0) (ph P w k) (stand.getD (t.probeStart (ph P w k))) = some (.empty (way t.mask (ph P w k) K) none) := by
        have e2 : way t.mask (ph P w k) K = (nth t.mask (nth t.mask (P0 t (ph P w k)) c) (K - c)).j := by
          rw [e1, show c + (K - c) = K by omega]
        rw [hst, e2]
        exact hpr
      rw [hpr']
      dsimp only
      refine wpAny_pure (hout fun hm => ?_)
      obtain ⟨p0, h0, hk0⟩ := List.mem_map.mp hm
      obtain ⟨i0, hi0, e0⟩ := List.getElem_of_mem h0
      have h00 : L[i0]? = some p0 := by rw [List.getElem?_eq_getElem hi0, e0]
      obtain ⟨c', a1, a2, a3⟩ := hre i0 p0 h00 hk0
      refine hno (c' - c) i0 (by omega) (by rw [e1, show c + (c' - c) = c' by omega]; exact a3) ?_
      exact (hashAt i0 p0 h00).trans (congrArg (ph P w) hk0)
theorem searchP_at (adding : Bool) (R : SetPR P w s.heap a L es ep t) {x : Addr} {k : List Str} (hx : IsP P w s.heap k x) (hu : A.units < cLine) {Q : SetFound → Shared → Prop}
    (hin : k ∈ L.map (·.2) → ∀ r, (adding = false → ∃ i, r = some i) → Q (.there r) s)
    (hout : ∀ K, k ∉ L.map (·.2) → way t.mask (ph P w k) K ∉ t.place.toList → (∀ c, c < K → way t.mask (ph P w k) c ∈ t.place.toList) → Q (.free (way t.mask (ph P w k) K) false) s) :
    wpAny (model P w) A (setSearch a (.ref x) (ph P w k) adding) Q E s := by
  have hroom := R.room
  obtain ⟨K, hKf, hK, hKb⟩ := R.tab.first (by rw [List.length_map]; omega) (ph P w k)
  have hbig : K < 100000 := by
    have : 10 * SetTable.turns t.mask ≤ 1420 := by
      unfold SetTable.turns
      rcases R.tab.mok with e | e | e <;> omega
    omega
  unfold setSearch
  refine searchP_from adding R hx hu hKf hK hKb hin (fun hn => hout K hn hK hKb) 100000 0 none rfl (Nat.zero_le _) (by omega) fun i p hp hk => ?_
  have hi : (L.map fun p => ph P w p.2)[i]? = some (ph P w k) := by rw [List.getElem?_map, hp, ← hk] <;> rfl
  have hil : i < t.place.toList.length := by
    have h1 : i < L.length := (List.getElem?_eq_some_iff.mp hp).1
    have h2 := R.tab.sz
    rw [List.length_map] at h2
    rw [Array.length_toList]
    omega
  have hj := List.getElem?_eq_getElem hil
  obtain ⟨c, hc, e⟩ := R.tab.before hK hi hj
  exact ⟨c, Nat.zero_le _, hc, by rw [hj, e]⟩
theorem isP_same {h h' : Heap} {k : List Str} {a b : Addr} {o : Obj} {es : Array (Int × Value)} {ep : Nat} {t : SetTable} (hb : IsP P w h k b) (ho : h.get? a = some o) (hd : o.data = .set es ep t) (hs : Heap.SameBut a h h') : IsP P w h' k b := by
  obtain ⟨o', items, n, ho', hc, hd', hi⟩ := hb
  have hne : b ≠ a := by
    rintro rfl
    obtain rfl : o' = o := Option.some.inj (ho'.symm.trans ho)
    rw [hd] at hd'
    exact nomatch hd'
  exact ⟨o', items, n, (hs.2 b hne).trans ho', hc, hd', hi⟩
theorem rowsP_put (L : PL) (p : Nat) (x : Addr) (k : List Str) : rowsP P w (L.take p ++ (x, k) :: L.drop p) = (rowsP P w L).take p ++ (ph P w k, Value.ref x) :: (rowsP P w L).drop p := by
  unfold rowsP
  rw [List.map_append, List.map_cons, List.map_take, List.map_drop]
theorem orderP (L : PL) (es : Array (Int × Value)) (order : Array Nat) (hr : es.toList = rowsP P w L) (hp : order.toList.Perm (List.range L.length)) :
    ∃ L2, (order.filterMap (es[·]?)).toList = rowsP P w L2 ∧ L2.Perm L ∧ (L2.map fun p => ph P w p.2) = order.toList.map fun i => (es.map (·.1)).getD i 0 := by
  have hsz := rowsP_size hr
  have key : ∀ l : List Nat, (∀ i ∈ l, i < L.length) → ∃ L2 : PL, l.filterMap (fun i => es[i]?) = rowsP P w L2 ∧ L2 = l.filterMap (fun i => L[i]?) ∧ (L2.map fun p => ph P w p.2) = l.map fun i => (es.map (·.1)).getD i 0 := by
    intro l
    induction l with
    | nil => intro _; exact ⟨[], rfl, rfl, rfl⟩
    | cons i l ih =>
      intro hl
      have hi := hl i List.mem_cons_self
      have ent := rowsP_at hr (List.getElem?_eq_getElem hi)
      obtain ⟨L2, e1, e2, e3⟩ := ih fun j hj => hl j (List.mem_cons_of_mem _ hj)
      refine ⟨L[i] :: L2, ?_, ?_, ?_⟩
      · rw [List.filterMap_cons_some ent, e1] <;> rfl
      · rw [List.filterMap_cons_some (List.getElem?_eq_getElem hi), e2]
      · rw [List.map_cons, List.map_cons, e3]
        have e5 : (es.map (·.1))[i]? = some (ph P w (L[i]).2) := by rw [Array.getElem?_map, ent] <;> rfl
        have e4 : (es.map (·.1)).getD i 0 = ph P w (L[i]).2 := by simp [Array.getD_eq_getD_getElem?, e5]
        rw [e4]
  obtain ⟨L2, e1, e2, e3⟩ := key order.toList fun i hi => List.mem_range.mp (hp.mem_iff.mp hi)
  refine ⟨L2, by first | (rw [Array.toList_filterMap]; exact e1) | simpa using e1, ?_, e3⟩
  have h1 : L2.Perm ((List.range L.length).filterMap fun i => L[i]?) := by
    rw [e2]
    exact hp.filterMap _
  have h2 : (List.range L.length).filterMap (fun i => L[i]?) = L := by
    have key2 : ∀ n, n ≤ L.length → (List.range n).filterMap (fun i => L[i]?) = L.take n := by
      intro n
      induction n with
      | zero => intro _; rfl
      | succ n ih =>
        intro hn
        have hlt : n < L.length := hn
        rw [List.range_succ, List.filterMap_append, ih (Nat.le_of_lt hlt), List.take_succ, List.getElem?_eq_getElem hlt]
        rw [List.filterMap_cons_some (List.getElem?_eq_getElem hlt)] <;> rfl
    rw [key2 L.length (Nat.le_refl _), List.take_length]
  rw [h2] at h1
  exact h1
theorem relayP {o : Obj} (ho : s.heap.get? a = some o) (hex : o.ExactSet) (hd : o.data = .set es ep t) (hrows : es.toList = rowsP P w L) (hsz : t.place.size = es.size) (hdm : t.dummies = #[]) (hfl : es.size ≤ t.mask)
    (nd : (L.map (·.2)).Nodup) (tup : ∀ p ∈ L, IsP P w s.heap p.2 p.1) (ld : w.params.followText "set-order" = true ∨ t.led = true) (few : L.length < 64) {wanted M : Nat}
    (hw : SetTable.sizeAbove wanted - 1 = M) (hM : MaskOk M) (hw2 : SetTable.sizeAbove wanted ≤ 128) (hn : L.length * 5 < M * 3) {Q : Unit → Shared → Prop}
    (hQ : ∀ h' L' es' ep' t', Heap.SameBut a s.heap h' → SetPR P w h' a L' es' ep' t' → L'.Perm L → Q () { s with heap := h' }) : wpAny (model P w) A (setRelay a wanted) Q E s := by
  have hsl := rowsP_size hrows
  have hfits : t.fits es.size = true := by
    unfold SetTable.fits SetTable.fill
    rw [hdm, Bool.and_eq_true, beq_iff_eq, decide_eq_true_eq]
    show t.place.size = es.size ∧ t.place.size + 0 ≤ t.mask
    omega
  obtain ⟨t', order, e, hp, T, em, el, ep', ed⟩ := relaid_ok t (hs := es.map (·.1)) (wanted := wanted) hw hM (by rw [Array.size_map, hsl]; omega)
  rw [Array.size_map, hsl] at hp
  obtain ⟨L2, r1, r2, r3⟩ := orderP L es order hrows hp
  rw [← r3] at T
  have hs2 : (order.filterMap (es[·]?)).size = es.size := by
    rw [rowsP_size r1, r2.length_eq, hsl]
  rw [setRelay_eq]
  refine wpAny_bind (wpAny_setState_of ho hd hfits ?_)
  dsimp only
  refine wp_if_neg (by rw [sizeLine_eq]; omega) ?_
  try refine wpAny_bind (wpAny_pure ?_)
  rw [e]
  dsimp only
  refine wpAny_bind ?_
  refine wp_if_neg (by rw [hs2]; simp) ?_
  try refine wpAny_bind (wpAny_pure ?_)
  refine wpAny_pure ?_
  dsimp only
  refine wpAny_storeSet_of ho hd ?_ (by rw [hs2, hsl, sizeLine_eq]; omega)
  have sb : Heap.SameBut a s.heap (s.heap.update a (Obj.putSet (order.filterMap (es[·]?)) t')) := Heap.SameBut.update ..
  refine hQ _ L2 (order.filterMap (es[·]?)) (ep + 1) t' sb ?_ r2
  refine ⟨⟨_, store_at ho hd, ⟨hex.1, hex.2.1, hex.2.2⟩, rfl⟩, r1, T, ?_, fun p hpm => isP_same (tup p (r2.mem_iff.mp hpm)) ho hd sb, by rw [el]; exact ld, ?_, by rw [r2.length_eq]; exact few⟩
  · exact (r2.map (·.2)).nodup_iff.mpr nd
  · rw [r2.length_eq, em]
    exact hn
theorem addP_tail (hu : A.units < cLine) {o : Obj} (ho : s.heap.get? a = some o) (hex : o.ExactSet) (hd : o.data = .set es ep t) {m : Nat} {n : Nat} {es1 : Array (Int × Value)} {t1 : SetTable} {L1 : PL}
    (hm : t1.mask = m) (hn : L1.length = n + 1) (hroom : n * 5 < m * 3) (hsl : es.size = n) (hin : es1.toList = rowsP P w L1) (q3 : TabOk t1 (L1.map fun p => ph P w p.2)) (nd1 : (L1.map (·.2)).Nodup)
    (tup0 : ∀ p ∈ L1, IsP P w s.heap p.2 p.1) (ld1 : w.params.followText "set-order" = true ∨ t1.led = true) (hfew : n + 1 < 64) {Q : Bool → Shared → Prop}
    (hQ : ∀ h' L' es' ep' t', Heap.SameBut a s.heap h' → SetPR P w h' a L' es' ep' t' → L'.Perm L1 → Q true { s with heap := h' }) :
    wpAny (model P w) A (do
      storeSet a es1 t1
      if (!false && t1.tooFull) = true then do
          setRelay a (SetTable.grown (es.size + 1))
          pure true
        else pure true) Q E s := by
  have hes : es1.size = n + 1 := by rw [rowsP_size hin, hn]
  refine wpAny_bind (wpAny_storeSet_of ho hd ?_ (by rw [hes, sizeLine_eq]; omega))
  have sb : Heap.SameBut a s.heap (s.heap.update a (Obj.putSet es1 t1)) := Heap.SameBut.update ..
  have ho1 := store_at (es' := es1) (t' := t1) ho hd
  generalize s.heap.update a (Obj.putSet es1 t1) = h1 at sb ho1 ⊢
  have tup1 : ∀ p ∈ L1, IsP P w h1 p.2 p.1 := fun p hp => isP_same (tup0 p hp) ho hd sb
  have q9 : t1.fill = n + 1 := by
    unfold SetTable.fill
    have := q3.sz
    rw [List.length_map, hn] at this
    rw [q3.dm, this]
    rfl
  by_cases hf : t1.tooFull = true
  · refine wp_if_pos (by simp [hf]) ?_
    have hfull : (n + 1) * 5 ≥ m * 3 := by
      have h := hf
      unfold SetTable.tooFull at h
      rw [decide_eq_true_eq, q9, hm] at h
      exact h
    rw [hsl]
    have hsz1 : t1.place.size = es1.size := by
      have h := q3.sz
      rw [List.length_map, hn] at h
      rw [h, hes]
    have cases2 : (m = 7 ∧ n = 4) ∨ (m = 31 ∧ n = 18) := by
      rcases q3.mok with e | e | e
      · left; rw [hm] at e; subst e; exact ⟨rfl, by omega⟩
      · right; rw [hm] at e; subst e; exact ⟨rfl, by omega⟩
      · exfalso; rw [hm] at e; subst e; omega
    have go : ∀ M, SetTable.sizeAbove (SetTable.grown (n + 1)) - 1 = M → MaskOk M → SetTable.sizeAbove (SetTable.grown (n + 1)) ≤ 128 → (n + 1) * 5 < M * 3 →
        wpAny (model P w) A (setRelay a (SetTable.grown (n + 1)) >>= fun _ => pure true) Q E { s with heap := h1 } := fun M h1' h2' h3' h4' => by
      refine wpAny_bind (relayP (s := { s with heap := h1 }) ho1 ⟨hex.1, hex.2.1, hex.2.2⟩ rfl hin hsz1 q3.dm (by rw [hes, hm]; rcases cases2 with ⟨e, e2⟩ | ⟨e, e2⟩ <;> omega) nd1 tup1 ld1 (by rw [hn]; exact hfew) h1' h2' h3' (by rw [hn]; exact h4') ?_)
      intro h2 L2 es2 ep2 t2 sb2 R2 pm2
      exact wpAny_pure (hQ h2 L2 es2 ep2 t2 (sb.trans sb2) R2 pm2)
    rcases cases2 with ⟨_, e2⟩ | ⟨_, e2⟩
    · exact go 31 (by rw [e2, size_20]) (.inr (.inl rfl)) (by rw [e2, size_20]; decide) (by omega)
    · exact go 127 (by rw [e2, size_76]) (.inr (.inr rfl)) (by rw [e2, size_76]; decide) (by omega)
  · refine wp_if_neg (by simp [hf]) ?_
    refine wpAny_pure (hQ h1 L1 es1 (ep + 1) t1 sb ⟨⟨_, ho1, ⟨hex.1, hex.2.1, hex.2.2⟩, rfl⟩, hin, q3, nd1, tup1, ld1, ?_, by rw [hn]; exact hfew⟩ (List.Perm.refl _))
    have h := hf
    unfold SetTable.tooFull at h
    rw [decide_eq_true_eq, q9] at h
    rw [hn]
    omega
theorem addP (R : SetPR P w s.heap a L es ep t) {x : Addr} {k : List Str} (hx : IsP P w s.heap k x) (hu : A.units < cLine) (hfew : L.length + 1 < 64) {Q : Bool → Shared → Prop}
    (hQ : ∀ b h' L' es' ep' t', Heap.SameBut a s.heap h' → SetPR P w h' a L' es' ep' t' → (k ∈ L.map (·.2) → L' = L) → (k ∉ L.map (·.2) → L'.Perm ((x, k) :: L)) → Q b { s with heap := h' }) :
    wpAny (model P w) A (setAddHashed a (.ref x) (ph P w k)) Q E s := by
  obtain ⟨o, ho, hex, hd⟩ := R.ob
  have hsl := R.size
  have hroom := R.room
  unfold setAddHashed
  refine wpAny_holding ?_
  rw [show (100000 : Nat) = 99999 + 1 from rfl, setAddHashedIn_succ]
  refine wpAny_bind (wpAny_setState_of ho hd R.fits ?_)
  dsimp only
  refine wp_if_neg (by simp [byScan, Value.scannable]) ?_
  try refine wpAny_bind (wpAny_pure ?_)
  refine wpAny_bind (searchP_at true R hx hu (fun hm r _ => ?_) fun K hm hK hb => ?_)
  · dsimp only
    exact wpAny_pure (hQ false s.heap L es ep t (Heap.SameBut.refl a s.heap) R (fun _ => rfl) fun z => absurd hm z)
  · dsimp only
    refine wpAny_bind (wpAny_setState_of ho hd R.fits ?_)
    dsimp only
    obtain ⟨q1, q2, q3, q4, q5, q6, q7, q8, q9⟩ := R.tab.put hK hb
    generalize hpt : t.put (way t.mask (ph P w k) K) = pt at q1 q3 q4 q5 q6 q7 q8 q9 ⊢
    obtain ⟨t1, p⟩ := pt
    dsimp only at q1 q3 q4 q5 q6 q7 q8 q9 ⊢
    subst q1
    have hin : (SetTable.insertAt es (SetTable.below t.place (way t.mask (ph P w k) K)) (ph P w k, Value.ref x)).toList = rowsP P w (L.take (SetTable.below t.place (way t.mask (ph P w k) K)) ++ (x, k) :: L.drop (SetTable.below t.place (way t.mask (ph P w k) K))) := by
      rw [SetTable.toList_insertAt, rowsP_put, R.rows]
    generalize hpp : SetTable.below t.place (way t.mask (ph P w k) K) = p at q2 q3 hin ⊢
    have pm := put_perm L p (x, k)
    have hlen : (L.take p ++ (x, k) :: L.drop p).length = L.length + 1 := pm.length_eq
    have hhs : (L.take p ++ (x, k) :: L.drop p).map (fun p => ph P w p.2) = (L.map fun p => ph P w p.2).take p ++ ph P w k :: (L.map fun p => ph P w p.2).drop p := by
      rw [List.map_append, List.map_cons, List.map_take, List.map_drop]
    rw [← hhs] at q3
    have nd1 : ((L.take p ++ (x, k) :: L.drop p).map (·.2)).Nodup := by
      refine (pm.map (·.2)).nodup_iff.mpr ?_
      rw [List.map_cons]
      exact List.nodup_cons.mpr ⟨hm, R.nd⟩
    generalize SetTable.insertAt es p (ph P w k, Value.ref x) = es1 at hin ⊢
    generalize L.take p ++ (x, k) :: L.drop p = L1 at pm hlen q3 nd1 hin
    have tup1 : ∀ p ∈ L1, IsP P w s.heap p.2 p.1 := fun p hp => by
      rcases List.mem_cons.mp (pm.mem_iff.mp hp) with e | hp
      · rw [e]; exact hx
      · exact R.tup p hp
    have ld1 : w.params.followText "set-order" = true ∨ t1.led = true := by rw [q5]; exact R.led
    have fin : ∀ t2 : SetTable, t2.mask = t1.mask → t2.place = t1.place → t2.dummies = t1.dummies → t2.led = t1.led → wpAny (model P w) A (do
      storeSet a es1 t2
      if (!false && t2.tooFull) = true then do
          setRelay a (SetTable.grown (es.size + 1))
          pure true
        else pure true) Q E s := fun t2 e1 e2 e3 e4 => by
      refine addP_tail hu ho hex hd (m := t.mask) (n := L.length) (by rw [e1, q4]) hlen hroom hsl hin ⟨by rw [e2]; exact q3.ris, by rw [e3]; exact q3.dm, by rw [e2]; exact q3.sz, by rw [e1]; exact q3.mok, by rw [e1, e2]; exact q3.bd, by rw [e1, e2]; exact q3.reach⟩ nd1 tup1 (by rw [e4]; exact ld1) hfew
        fun h' L' es' ep' t' sb' R' pm' => hQ true h' L' es' ep' t' sb' R' (fun z => absurd z hm) fun _ => pm'.trans pm
    have both : ∀ c : Bool, wpAny (model P w) A (do
      storeSet a es1 (if c = true then t1 else { t1 with plain := false })
      if (!false && (if c = true then t1 else { t1 with plain := false }).tooFull) = true then do
          setRelay a (SetTable.grown (es.size + 1))
          pure true
        else pure true) Q E s := fun c => by
      cases c with
      | true => exact fin t1 rfl rfl rfl rfl
      | false => exact fin { t1 with plain := false } rfl rfl rfl rfl
    by_cases hp1 : t1.plain = true
    · exact wp_if_pos hp1 (wpAny_bind (hashP_tup hx fun c => both c))
    · exact wp_if_neg hp1 (wpAny_bind (wpAny_pure (both true)))
end
/-! ### as a thing of the abstract heap -/
structure SetP0 (P : Program) (w : World) (h : Heap) (a : Addr) (L : PL) : Prop where
  ex : ∃ (es : Array (Int × Value)) (ep : Nat) (t : SetTable), (∃ o, h.get? a = some o ∧ o.ExactSet ∧ o.data = .set es ep t) ∧ es.toList = rowsP P w L ∧ TabOk t (L.map fun p => ph P w p.2) ∧ (L.map (·.2)).Nodup ∧
    (w.params.followText "set-order" = true ∨ t.led = true) ∧ L.length * 5 < t.mask * 3 ∧ L.length < 64
def SetPO (P : Program) (w : World) (a : Addr) (L : PL) : HO := .ext fun h => SetP0 P w h a L
theorem SetPR.t0 {P : Program} {w : World} {h : Heap} {a : Addr} {L : PL} {es : Array (Int × Value)} {ep : Nat} {t : SetTable} (R : SetPR P w h a L es ep t) : SetP0 P w h a L :=
  ⟨es, ep, t, R.ob, R.rows, R.tab, R.nd, R.led, R.room, R.few⟩
theorem SetP0.full {P : Program} {w : World} {h : Heap} {a : Addr} {L : PL} (R : SetP0 P w h a L) (ht : ∀ p ∈ L, IsP P w h p.2 p.1) : ∃ es ep t, SetPR P w h a L es ep t := by
  obtain ⟨es, ep, t, h1, h2, h3, h4, h6, h7, h8⟩ := R.ex
  exact ⟨es, ep, t, h1, h2, h3, h4, ht, h6, h7, h8⟩
theorem setPO_new {P : Program} {w : World} {H : Hp} {h : Heap} {a : Addr} {L : PL} (R : SetP0 P w h a L) : ObjOk P w H h a (SetPO P w a L) := by
  have ⟨es, ep, t, ⟨o, ho, r⟩, q⟩ := R.ex
  refine ⟨R, ⟨o, ho⟩, fun h1 h2 p k => ?_⟩
  have ⟨es', ep', t', ⟨o', ho', r'⟩, q'⟩ := SetP0.ex p
  exact ⟨es', ep', t', ⟨o', k o' ho', r'⟩, q'⟩
theorem itemsP_of {P : Program} {w : World} : ∀ {k : List Str} {us : List Value}, Vals (k.map V.str) us → ItemsAre (PySem.strKind P w) k us
  | [], _, .nil => .nil
  | n :: k, _, .cons r t => by
    obtain ⟨tk, rfl⟩ := r
    exact .cons (isStr_self n tk) (itemsP_of t)
section
variable {X : Cx} {pins : List (Addr × Obj)} {σ : L2.St} {H : Hp} {s : Shared}
theorem isP_of {b : Addr} {k : List Str} (I : Inv X pins σ H s) (h : H b = some (.tup (k.map V.str))) : IsP X.prog X.w s.heap k b := by
  obtain ⟨its, r, ⟨o, ho, hc, n, hd⟩, _⟩ := I.tuple (SqT.of h)
  exact ⟨o, its.toArray, n, ho, hc, hd, by simpa using itemsP_of r⟩
/-- the set of pairs, its members' tuples standing -/
def PSet (P : Program) (w : World) (H : Hp) (a : Addr) (L : PL) : Prop := H a = some (SetPO P w a L) ∧ ∀ p ∈ L, H p.1 = some (.tup (p.2.map V.str))
theorem pset_get {a : Addr} {L : PL} (I : Inv X pins σ H s) (h : PSet X.prog X.w H a L) : ∃ es ep t, SetPR X.prog X.w s.heap a L es ep t :=
  SetP0.full (show SetP0 X.prog X.w s.heap a L from (I.hok a _ h.1).1) fun p hp => isP_of I (h.2 p hp)
/-- set() -/
def rSet0P (P : Program) (w : World) : List V → Hp → VK → Prop := fun xs H Q => xs = [] ∧ ∀ p, H p = none → Q (.ref p) (upd H p (SetPO P w p []))
theorem setP_fresh {P : Program} {w : World} {h : Heap} {a : Addr} (ho : h.get? a = some { cls := .type "set", dict := none, data := .set #[] 0 (.fresh 0 0 (!w.params.followText "set-order")) }) : SetP0 P w h a [] where
  ex := ⟨#[], 0, _, ⟨_, ho, ⟨rfl, rfl, rfl⟩, rfl⟩, rfl, ⟨List.Pairwise.nil, rfl, rfl, .inl rfl, fun x hx => (by cases hx), fun i h j hi => (by simp at hi)⟩, List.nodup_nil, by
    show _ ∨ (!w.params.followText "set-order") = true
    cases w.params.followText "set-order"
    · exact .inr rfl
    · exact .inl rfl, by show 0 * 5 < 7 * 3; decide, by show 0 < 64; decide⟩
theorem cr_setPS0 : CallR X (.type "set") (rSet0P X.prog X.w) := by
  intro pins s σ H xs us Q I r h
  obtain ⟨rfl, q⟩ := h
  cases r
  refine setR_new fun _ => ?_
  exact ⟨.ref _, _, I.laid (t' := s.toks) (o := SetPO X.prog X.w s.heap.objs.size []) (fun b u e => Heap.get?_push_of_some _ e) (Nat.le_refl _) (setPO_new (setP_fresh (Heap.get?_push_size _ rfl))), rfl, q _ (I.hok.fresh (Nat.le_refl _))⟩
/-- found.add(pair) -/
def tAddP (P : Program) (w : World) (to : TE) (t : TA) : TE := fun σ H Q => to σ H fun x H1 => (∃ a L, x = V.ref a ∧ H1 a = some (SetPO P w a L)) ∧ t σ H1 fun xs H2 =>
  ∃ a L q k, x = V.ref a ∧ xs = [V.ref q] ∧ PSet P w H2 a L ∧ H2 q = some (.tup (k.map V.str)) ∧ L.length + 1 < 64 ∧ ∀ L', (k ∈ L.map (·.2) → L' = L) → (k ∉ L.map (·.2) → L'.Perm ((q, k) :: L)) → Q .non (upd H2 a (SetPO P w a L'))
theorem callP_add {a q : Addr} {L : PL} {k : List Str} {E : Value → Shared → Prop} {Q : Value → Shared → Prop} (hu : X.A.units + 65 < cLine) (I : Inv X pins σ H s) (ha : PSet X.prog X.w H a L) (hq : H q = some (.tup (k.map V.str))) (few : L.length + 1 < 64)
    (h : ∀ s' L', Inv X pins σ (upd H a (SetPO X.prog X.w a L')) s' → (k ∈ L.map (·.2) → L' = L) → (k ∉ L.map (·.2) → L'.Perm ((q, k) :: L)) → Q .none s') : wpAny (model X.prog X.w) X.A (call (.builtin "set.add") [.ref a, .ref q]) Q E s := by
  obtain ⟨es, ep, t, R⟩ := pset_get I ha
  obtain ⟨o, ho, hex, hd⟩ := R.ob
  refine wpAny_call_entry F.slot_set_add ⟨o, ho, hex.1⟩ F.entry_set_add ?_ (F.args_set_add_2 _ _)
  unfold Builtin.«set.add» Builtin.Frozenset.oneOther
  simp only [List.isEmpty_nil, bind_assoc]
  unfold Builtin.Frozenset.addrOf setAdd
  refine wpAny_bind (wpAny_pure ?_)
  try dsimp only
  refine wpAny_bind (wpAny_pure ?_)
  try dsimp only
  refine wpAny_bind ?_
  refine wpAny_holding ?_
  have hk := isP_of I hq
  have hu1 : X.A.in1.units < cLine := by show X.A.units + 1 < cLine; omega
  refine wpAny_bind (wpAny_pyHash_tuple hu1 hk ?_)
  refine addP (s := { s with toks := s.toks + (k.length + 1) }) R hk hu1 few fun b h' L' es' ep' t' sb R' e1 e2 => ?_
  show wpAny _ _ (ret Value.none) _ _ _
  refine wpAny_pure ⟨_, rfl, h _ L' (I.write (e := a) (t' := s.toks + (k.length + 1)) (by rw [ha.1]; trivial) (.inl rfl) (fun b u hb hu => (sb.2 b hb).trans hu) ?_ (setPO_new R'.t0)) e1 e2⟩
  obtain ⟨o', ho', _⟩ := R'.ob
  exact ⟨o', ho'⟩
end
section
variable {X : Cx} {o e : Expr} {es : List Expr} {to : TE} {t : TA} {apos cpos : Pos}
theorem pe_addPS (hu : X.A.units + 65 < cLine) (ho : PE X o to) (ha : PA X (e :: es) t)
    (hbase : attributeBase o "add" X.env (eval o X.env) = eval o X.env := by rfl)
    (hfew : ((backTo cpos (starEach (e :: es) X.env)).all (fun x => !x.1) && (backToKw cpos (keywordEach [] X.env)).all (fun x => x.1.isSome)
      && decide ((e :: es).length + ([] : List Keyword).length + (if ([] : List Keyword).isEmpty then 0 else 1) < 30)) = true := by rfl)
    (hline : (apos.endLine == cpos.line) = true := by rfl) (hs : starEach (e :: es) X.env = (false, eval e X.env) :: starEach es X.env := by rfl) (hplain : (backTo cpos (starEach es X.env)).any (·.1) = false := by rfl) :
    PE X (.Call (.Attribute o "add" apos) (e :: es) [] cpos) (tAddP X.prog X.w to t) := by
  refine ⟨fun pins s σ H Q I h => ?_⟩
  refine wpAny_Call_method_late hbase hfew hline rfl (thn (ho.run pins s σ H _ I h) fun v s1 ⟨x, H1, I1, r1, ty, q1⟩ => ?_)
  obtain ⟨a, L, rfl, hka⟩ := ty
  obtain ⟨_, _, _, ⟨ob, hob, hex, _⟩, _⟩ := (show SetP0 X.prog X.w s1.heap a L from (I1.hok a _ hka).1).ex
  cases r1
  refine ⟨"set", "set.add", F.plainAttrs_set, F.slot_set_add, F.type_set_add, ⟨ob, hob, hex.1⟩, fun b e => by injection e with e; subst e; exact ⟨ob, hob, hex.2.1⟩, ?_⟩
  have hA := ha.run cpos pins s1 σ H1 _ I1 q1
  rw [hs] at hA ⊢
  refine Calls.callWith_builtin (by show (false || (backTo cpos (starEach es X.env)).any (·.1)) = false; rw [hplain] <;> rfl) (Calls.evalArgs_plain ?_)
  refine thn hA fun us s2 ⟨vs, H2, I2, r2, a', L', q, k, ea, ev, hP, hq, few, fin⟩ => ?_
  injection ea with ea
  subst ea ev
  cases r2 with
  | cons ra rr =>
    cases rr
    cases ra
    exact callP_add hu I2 hP hq few fun s3 L3 I3 e1 e2 => ⟨.non, _, I3, rfl, fin L3 e1 e2⟩
/-- pair in found, pair not in found -/
def rInP (P : Program) (w : World) (neg : Bool) : R2 := fun x y H Q => ∃ q k a L, x = V.ref q ∧ y = V.ref a ∧ H q = some (.tup (k.map V.str)) ∧ PSet P w H a L ∧ Q (.bl (if neg then !decide (k ∈ L.map (·.2)) else decide (k ∈ L.map (·.2)))) H
theorem findP {pins : List (Addr × Obj)} {σ : L2.St} {H : Hp} {s : Shared} {A : Around} {E : Value → Shared → Prop} {a q : Addr} {L : PL} {k : List Str} {Q : Bool → Shared → Prop} (hu : A.units < cLine) (I : Inv X pins σ H s) (ha : PSet X.prog X.w H a L) (hq : H q = some (.tup (k.map V.str)))
    (h : ∀ s', Inv X pins σ H s' → Q (decide (k ∈ L.map (·.2))) s') : wpAny (model X.prog X.w) A (setContains a (.ref q)) Q E s := by
  obtain ⟨es, ep, t, R⟩ := pset_get I ha
  obtain ⟨o, ho, hex, hd⟩ := R.ob
  have hk := isP_of I hq
  unfold setContains
  refine wpAny_holding ?_
  refine wpAny_bind (wpAny_pyHash_tuple hu hk ?_)
  have I2 := I.tok (s.toks + (k.length + 1))
  have fin := h _ I2
  refine wpAny_bind ?_
  unfold setFind setFindIn
  refine wpAny_bind (wpAny_setState_of (s := { s with toks := s.toks + (k.length + 1) }) ho hd R.fits ?_)
  dsimp only
  refine wp_if_neg (by simp [byScan, Value.scannable]) ?_
  try refine wpAny_bind (wpAny_pure ?_)
  refine wpAny_bind (searchP_at (s := { s with toks := s.toks + (k.length + 1) }) false R hk hu (fun hm r hr => ?_) fun K hm _ _ => ?_)
  · obtain ⟨i, rfl⟩ := hr rfl
    dsimp only
    rw [decide_eq_true hm] at fin
    exact wpAny_pure (wpAny_pure fin)
  · dsimp only
    rw [decide_eq_false hm] at fin
    exact wpAny_pure (wpAny_pure fin)
theorem containsP {pins : List (Addr × Obj)} {σ : L2.St} {H : Hp} {s : Shared} {E : Value → Shared → Prop} {a q : Addr} {L : PL} {k : List Str} {Q : Bool → Shared → Prop} (hu : X.A.units + 65 < cLine) (I : Inv X pins σ H s) (ha : PSet X.prog X.w H a L) (hq : H q = some (.tup (k.map V.str)))
    (h : ∀ s', Inv X pins σ H s' → Q (decide (k ∈ L.map (·.2))) s') : wpAny (model X.prog X.w) X.A (contains (.ref a) (.ref q)) Q E s := by
  obtain ⟨_, _, _, ⟨ob, hob, hex, _⟩, _⟩ := (show SetP0 X.prog X.w s.heap a L from (I.hok a _ ha.1).1).ex
  have hT : s.TypeIs (.ref a) "set" := ⟨ob, hob, hex.1⟩
  unfold contains
  try with_reducible refine wpAny_holding ?_
  refine wpAny_bind (wpAny_specialOf hT F.slot_set_contains.lookup ?_)
  show wpAny _ _ (if (some (Value.builtin "set.__contains__") == some Value.none) = true then _ else _) _ E s
  rw [if_neg (by rw [beq_builtin_none]; exact Bool.false_ne_true)]
  refine wpAny_bind (wpAny_callSpecialUnlessNone?_slot (name := Str.ofString "__contains__") hT F.slot_set_contains
    (wpAny_call_entry F.slot_set_contains hT entry_set_contains ?_ (F.args_set_contains_2 _ _)))
  unfold Builtin.«frozenset.__contains__» Builtin.Frozenset.oneOther
  simp only [List.isEmpty_nil, bind_assoc]
  unfold Builtin.Frozenset.addrOf Builtin.Frozenset.withSetAsKey
  refine wpAny_bind (wpAny_pure ?_)
  try dsimp only
  refine wpAny_bind (wpAny_pure ?_)
  try dsimp only
  refine wpAny_bind (wpAny_tryCatch ?_)
  refine findP (by show X.A.units + 1 < cLine; omega) I ha hq fun s' I' => ?_
  show wpAny _ _ (ret (Value.bool _)) _ _ _
  exact wpAny_pure ⟨_, rfl, wpAny_truthy_bool (h s' I')⟩
theorem op_inPS (hu : X.A.units + 65 < cLine) : OpR X (compareOp .In) (rInP X.prog X.w false) := by
  intro pins s σ H x y v u Q I rx ry h
  obtain ⟨p, k, a, L, rfl, rfl, hq, ha, q⟩ := h
  cases rx
  cases ry
  show wpAny _ _ (do return Value.bool (← contains (.ref a) (.ref p))) _ _ s
  exact wpAny_bind (containsP hu I ha hq fun s' I' => wpAny_pure ⟨.bl _, H, I', rfl, q⟩)
theorem op_notInPS (hu : X.A.units + 65 < cLine) : OpR X (compareOp .NotIn) (rInP X.prog X.w true) := by
  intro pins s σ H x y v u Q I rx ry h
  obtain ⟨p, k, a, L, rfl, rfl, hq, ha, q⟩ := h
  cases rx
  cases ry
  show wpAny _ _ (do return Value.bool (!(← contains (.ref a) (.ref p)))) _ _ s
  exact wpAny_bind (containsP hu I ha hq fun s' I' => wpAny_pure ⟨.bl _, H, I', rfl, q⟩)
/-- sorted(the set): some order of its members -/
def rSrtPS (P : Program) (w : World) : List V → Hp → VK → Prop := fun vs H Q => ∃ a L, vs = [.ref a] ∧ PSet P w H a L ∧ (∀ p ∈ L, ∃ x y, p.2 = [x, y]) ∧ ∀ (L' : PL) p, L'.Perm L → H p = none → Q (.ref p) (upd H p (.lst (L'.map fun q => V.ref q.1)))
theorem perm_of_map {α β : Type} (f : α → β) : ∀ {l : List α} {m : List β}, m.Perm (l.map f) → ∃ l' : List α, l'.Perm l ∧ m = l'.map f := by
  have key : ∀ {m n : List β}, m.Perm n → ∀ l : List α, n = l.map f → ∃ l' : List α, l'.Perm l ∧ m = l'.map f := by
    intro m n p
    induction p with
    | nil =>
      intro l e
      exact ⟨l, List.Perm.refl _, e⟩
    | cons x p ih =>
      intro l e
      cases l with
      | nil => cases e
      | cons y l =>
        rw [List.map_cons] at e
        injection e with e1 e2
        obtain ⟨l', h1, h2⟩ := ih l e2
        exact ⟨y :: l', h1.cons y, by rw [List.map_cons, e1, h2]⟩
    | swap x y t =>
      intro l e
      cases l with
      | nil => cases e
      | cons z l =>
        cases l with
        | nil =>
          rw [List.map_cons] at e
          injection e with e1 e2
          cases e2
        | cons z2 l =>
          rw [List.map_cons, List.map_cons] at e
          injection e with e1 e2
          injection e2 with e2 e3
          exact ⟨z2 :: z :: l, List.Perm.swap _ _ _, by rw [List.map_cons, List.map_cons, e1, e2, e3]⟩
    | trans p1 p2 ih1 ih2 =>
      intro l e
      obtain ⟨l1, a1, a2⟩ := ih2 l e
      obtain ⟨l2, b1, b2⟩ := ih1 l1 a2
      exact ⟨l2, b1.trans a1, b2⟩
  intro l m p
  exact key p l rfl
theorem cr_srtPS (hc : X.calm = true) (hu : X.A.units + 65 < cLine) : CallR X (.builtin "sorted") (rSrtPS X.prog X.w) := by
  intro pins s σ H vs us Q I r h
  obtain ⟨a, L, rfl, ha, h2, q⟩ := h
  rw [Vals.ref1 r]
  obtain ⟨es, ep, t, R⟩ := pset_get I ha
  obtain ⟨o, ho, hex, hd⟩ := R.ob
  have few := R.few
  refine sorted_core I hu (fun ys => ∃ L' : PL, L'.Perm L ∧ ys = L'.map fun q => V.ref q.1) (fun Qc k => ?_) fun ys ⟨L', p', e⟩ =>
    ⟨L'.map fun q => (V.ref q.1, PyData.tuple (q.2.map PyData.str)), ⟨by rw [e, List.map_map]; rfl, fun b hb => ?_, ?_, ?_, fun b hb => ?_, by rw [List.length_map, p'.length_eq]; omega⟩, fun p hp => ?_⟩
  · refine collect_set (P := X.prog) (w := X.w) (A := X.A.in1) (show X.A.in1.handled = none from I.ok.hd hc) ⟨o, ho, hex.1, hd⟩ R.fits (by have := R.size; unfold scanBound; omega) R.tab.ris R.led fun s' out k1 hz hg ho' po => ?_
    have hes : es.toList.map (·.2) = L.map fun q => Value.ref q.1 := by
      rw [R.rows]
      unfold rowsP
      rw [List.map_map] <;> rfl
    rw [hes] at po
    obtain ⟨L', z1, z2⟩ := perm_of_map (fun q : Addr × List Str => Value.ref q.1) po
    refine k out s' (L'.map fun q => V.ref q.1) (inv_kept I k1 hg ho') ?_ ⟨L', z1, rfl⟩
    rw [z2]
    clear z1 z2
    induction L' with
    | nil => exact .nil
    | cons q l ih => exact .cons rfl ih
  · obtain ⟨z, hz, rfl⟩ := List.mem_map.mp hb
    have hm := p'.mem_iff.mp hz
    obtain ⟨x, y, exy⟩ := h2 z hm
    have ht := ha.2 z hm
    rw [exy] at ht ⊢
    exact .two ht (.str x) (.str y)
  · rw [List.map_map]
    intro d hd' d' hd''
    obtain ⟨z, hz, rfl⟩ := List.mem_map.mp hd'
    obtain ⟨z', hz', rfl⟩ := List.mem_map.mp hd''
    obtain ⟨x, y, exy⟩ := h2 z (p'.mem_iff.mp hz)
    obtain ⟨x', y', exy'⟩ := h2 z' (p'.mem_iff.mp hz')
    show PySem.W.alike (PyData.tuple (z.2.map PyData.str)) (PyData.tuple (z'.2.map PyData.str)) = true
    rw [exy, exy']
    simp [PySem.W.alike, PySem.W.alikeAll]
  · rw [List.map_map]
    refine .inl fun d hd' => ?_
    obtain ⟨z, hz, rfl⟩ := List.mem_map.mp hd'
    obtain ⟨x, y, exy⟩ := h2 z (p'.mem_iff.mp hz)
    exact ⟨.str x, [.str y], by show PyData.tuple (z.2.map PyData.str) = _; rw [exy]; rfl⟩
  · obtain ⟨z, hz, rfl⟩ := List.mem_map.mp hb
    obtain ⟨x, y, exy⟩ := h2 z (p'.mem_iff.mp hz)
    show (PyData.tuple (z.2.map PyData.str)).depth ≤ 8
    rw [exy]
    simp [PyData.depth, PyData.depthAll]
  · have pp := srt_perm (L'.map fun q => (V.ref q.1, PyData.tuple (q.2.map PyData.str)))
    rw [List.map_map] at pp
    obtain ⟨L2, z1, z2⟩ := perm_of_map (fun q : Addr × List Str => V.ref q.1) (l := L') pp
    rw [z2]
    exact q L2 p (z1.trans p') hp
end
end Un

/-! ## B9 -/
set_option Elab.async false
set_option linter.all false
set_option maxRecDepth 100000
set_option maxHeartbeats 4000000
/-! A tuple turned round; dict comprehensions over a Walk; == of data. -/
namespace Un
open PySem PySem.Spec PyProof.Rows L2 StX
section
variable {prog : Program} {w : World} {A : Around} {E : Value → Shared → Prop} {s : Shared}
theorem rev_adjust (n : Nat) : Builtin.Slice.sliceAdjust none none (-1) (n : Int) = ((n : Int) - 1, -1) := by
  unfold Builtin.Slice.sliceAdjust
  rfl
theorem rev_places (n : Nat) : Builtin.Slice.slicePlaces ((n : Int) - 1) (-1) (-1) = n := by
  unfold Builtin.Slice.slicePlaces
  have h1 : ¬ ((-1 : Int) > 0) := by omega
  simp only [h1, if_false]
  by_cases h : (n : Int) - 1 > -1
  · rw [if_pos h, show (- -1 : Int) = 1 by decide, Int.ediv_one]
    omega
  · rw [if_neg h]
    omega
theorem rev_applied {sl : Addr} {vs : Value} {n : Nat} {Q : Int × Int × Nat → Shared → Prop} (hs : s.heap.IsSliceOf sl .none .none vs) (ps : IsPart vs (some (-1)))
    (h : Q ((n : Int) - 1, -1, n) s) : wpAny (model prog w) A (Builtin.Slice.sliceApplied (.ref sl) (pure (n : Int))) Q E s := by
  obtain ⟨os, hos, hcs, hds⟩ := id hs
  unfold Builtin.Slice.sliceApplied Builtin.Slice.sliceFields
  refine wpAny_bind (wpAny_bind (wpAny_field hos hds (x := .none) rfl (wpAny_bind (wpAny_field hos hds (x := .none) rfl (wpAny_bind (wpAny_field hos hds (x := vs) rfl (wpAny_pure ?_)))))))
  refine wpAny_bind (HT.slicePart_ ps ?_)
  show wpAny _ _ (if ((-1 : Int) == 0) = true then _ else _) _ _ s
  rw [if_neg (by decide)]
  refine wpAny_bind (HT.slicePart_ .none (wpAny_bind (HT.slicePart_ .none (wpAny_bind (wpAny_pure ?_)))))
  show wpAny _ _ (match Builtin.Slice.sliceAdjust none none (-1) (n : Int) with | (lo, hi) => pure (lo, (-1 : Int), Builtin.Slice.slicePlaces lo hi (-1))) _ _ s
  rw [rev_adjust n]
  show wpAny _ _ (pure ((n : Int) - 1, (-1 : Int), Builtin.Slice.slicePlaces ((n : Int) - 1) (-1) (-1))) _ _ s
  rw [rev_places]
  exact wpAny_pure h
theorem fmap_congr {α β : Type} {f g : α → Option β} : ∀ l : List α, (∀ x ∈ l, f x = g x) → l.filterMap f = l.filterMap g
  | [], _ => rfl
  | x :: l, h => by
    rw [List.filterMap_cons, List.filterMap_cons, h x (List.mem_cons_self ..), fmap_congr l fun y hy => h y (List.mem_cons_of_mem _ hy)]
theorem rev_pick (xs : Array Value) : ((List.range xs.size).filterMap fun (m : Nat) => xs[((xs.size : Int) - 1 + (m : Int) * -1).toNat]?).toArray = xs.toList.reverse.toArray := by
  have e : (List.range xs.size).filterMap (fun (m : Nat) => xs[((xs.size : Int) - 1 + (m : Int) * -1).toNat]?) = ((List.range xs.size).map (fun k => xs.size - 1 - k)).filterMap (xs[·]?) := by
    rw [List.filterMap_map]
    refine fmap_congr _ fun m hm => ?_
    have := List.mem_range.mp hm
    have ei : ((xs.size : Int) - 1 + (m : Int) * -1).toNat = xs.size - 1 - m := by omega
    show xs[((xs.size : Int) - 1 + (m : Int) * -1).toNat]? = xs[xs.size - 1 - m]?
    rw [ei]
  rw [e, PySem.W.krv_range, List.filterMap_reverse, PySem.W.krv_all]
theorem getItem_revT {t sl : Addr} {items : Array Value} {vs : Value} {Q : Value → Shared → Prop} (ht : IsTup s.heap t items) (hs : s.heap.IsSliceOf sl .none .none vs) (ps : IsPart vs (some (-1)))
    (h : Q (.ref s.heap.objs.size) { s with heap := s.heap.push { cls := .type "tuple", data := .seq items.toList.reverse.toArray } }) (hsz : items.size ≤ sizeLine) : wpAny (model prog w) A (getItem (.ref t) (.ref sl)) Q E s := by
  have htake : sizeOk (.seq items.toList.reverse.toArray) := by
    show items.toList.reverse.toArray.size ≤ sizeLine
    rw [List.size_toArray, List.length_reverse, Array.length_toList]
    exact hsz
  obtain ⟨os, hos, hcs, hds⟩ := id hs
  have hTs : s.TypeIs (.ref sl) "slice" := ⟨os, hos, hcs⟩
  unfold getItem
  try with_reducible refine wpAny_holding ?_
  first | refine wpAny_bind (wpAny_pure ?_) | skip
  refine wpAny_bind (wpAny_sequenceKey ht.typeIs (by decide) ?_)
  refine wpAny_bind (wpAny_callSpecial?_slot (name := Str.ofString "__getitem__") ht.typeIs PyProof.Rows.slot_tuple_getitem
    (wpAny_call_entry PyProof.Rows.slot_tuple_getitem ht.typeIs entry_tuple_getitem ?_ (args_tuple_getitem _ _)))
  show wpAny _ _ (Builtin.Tuple.tupleItemsOf (.ref t) >>= _) _ _ s
  refine wpAny_bind (tupleItemsOf_ ht ?_)
  refine wpAny_bind (wpAny_typeOf hTs ?_)
  rw [if_pos (by decide)]
  refine wpAny_bind (rev_applied hs ps ?_)
  show wpAny _ _ (if (((items.size : Int) - 1) == 0 && (-1 : Int) == 1 && items.size == items.size) = true then _ else _) _ _ s
  rw [if_neg (by simp), rev_pick]
  first
    | exact wpAny_bind (m := Builtin.Tuple.tupleExact _) (wpAny_newObj_type (wpAny_pure ⟨_, rfl, wpAny_pure h⟩) htake)
    | exact wpAny_bind (m := Builtin.Tuple.tupleExact _) (wpAny_newObj_type (wpAny_bind (wpAny_pure (wpAny_pure ⟨_, rfl, wpAny_pure h⟩))) htake)
    | exact wpAny_bind (wpAny_bind (m := Builtin.Tuple.tupleExact _) (wpAny_newObj_type (wpAny_pure (wpAny_pure ⟨_, rfl, wpAny_pure h⟩)) htake))
    | exact wpAny_bind (wpAny_bind (m := Builtin.Tuple.tupleExact _) (wpAny_newObj_type (wpAny_pure ⟨_, rfl, wpAny_pure h⟩) htake))
end
section
variable {X : Cx}
def tRevT (K : PySem.W.Frag) (te : TE) : TE := fun σ H Q => te σ H fun x H1 => ∃ a xs, x = .ref a ∧ SqT K H1 a xs ∧ ∀ p, H1 p = none → Q (.ref p) (upd H1 p (.tup xs.reverse))
theorem pe_revT {e : Expr} {te : TE} {k : Nat} {p1 p2 p3 pos : Pos} (he : PE X e te) : PE X (.Subscript e (.Slice none none (some (.UnaryOp .USub (.Constant (.int 1) k p1) p2)) p3) pos) (tRevT X.K te) := by
  refine ⟨fun pins s σ H Q I h => ?_⟩
  refine Subscript_ (thn (he.run pins s σ H _ I h) fun v s1 ⟨x, H1, I1, r1, q1⟩ => ?_)
  obtain ⟨a, xs, ex, hx, q⟩ := q1
  subst ex
  cases r1
  have hst : PO X (some (.UnaryOp .USub (.Constant (.int 1) k p1) p2)) (tPart (tUn (rU fun i => .int (-i)) (tC (.int 1)))) := po_some (pe_un un_neg pe_int)
  refine wpAny_Slice (thn (po_none.run pins s1 σ H1 (fun o H2 => o = none ∧ H2 = H1) I1 ⟨rfl, rfl⟩) fun vl s2 ⟨l, H2, I2, pl, el, e2⟩ => ?_)
  subst el e2
  refine thn (po_none.run pins s2 σ H2 (fun o H3 => o = none ∧ H3 = H2) I2 ⟨rfl, rfl⟩) fun vu s3 ⟨u, H3, I3, pu, eu, e3⟩ => ?_
  subst eu e3
  refine thn (hst.run pins s3 σ H3 (fun o H4 => o = some (-1) ∧ H4 = H3) I3 ⟨1, rfl, -1, rfl, rfl, rfl⟩) fun vs s4 ⟨o, H4, I4, ps, eo, e4⟩ => ?_
  subst eo e4
  cases pl
  cases pu
  have I5 : Inv X pins σ H4 { s4 with heap := s4.heap.push { cls := .type "slice", data := .fields #[.none, .none, vs] } } := I4.kept (t' := s4.toks) fun b ob q => Heap.get?_push_of_some _ q
  obtain ⟨its, r, ht, hz⟩ := I5.tuple hx
  have hlen := r.length
  show wpAny (model X.prog X.w) X.A (subscriptTail e (.Slice none none (some (.UnaryOp .USub (.Constant (.int 1) k p1) p2)) p3) (.ref a) (.ref s4.heap.objs.size)) (EP X pins σ Q) X.xe { s4 with heap := s4.heap.push { cls := .type "slice", data := .fields #[.none, .none, vs] } }
  refine tail_any (ops := [.ref a, .ref s4.heap.objs.size]) ht.typeIs (PyProof.Rows.slot_tuple_getitem.lookup) ?_ (by with_unfolding_all rfl)
  refine getItem_revT ht (Heap.IsSliceOf.new _ .none .none vs) ps ?_ (by rw [List.size_toArray]; omega)
  refine ⟨.ref _, _, I5.laid (t' := s4.toks) (o := .tup xs.reverse) (fun b ob q => Heap.get?_push_of_some _ q) (Nat.le_refl _) ?_, rfl, q _ (I5.hok.fresh (Nat.le_refl _))⟩
  exact ⟨by rw [List.length_reverse]; exact hz, _, r.reverse, IsTup.new _ _⟩
end
/-- a dict comprehension over a Walk -/
theorem dc_it {J : It} {n : Nat} {G : Hp → Prop} {Y : Nat → Hp → V → Hp → Prop} (w : Walk J n G Y) {g : TG} {tt : TT} {tk tv : TE} {vs : List Nat} {σ : L2.St} {H1 : Hp} {D : Addr} {Qd : Hp → Prop} (Pv : Nat → Hp → Prop) (h0 : Pv 0 (upd H1 D (.dK []))) (hG : ∀ i H, i ≤ n → Pv i H → G H)
    (hs : ∀ i x H H', i < n → Pv i H → Y i H x H' → g x (wipe σ vs) H' fun σ2 H2 => wipe σ2 vs = wipe σ vs ∧ tt σ2 H2 fun b H3 =>
      if b = true then tk σ2 H3 fun y H4 => tv σ2 H4 fun z H5 => ∃ kvs k, y = kV k ∧ H5 D = some (.dK kvs) ∧ kvs.length < sizeLine ∧ Pv (i + 1) (upd H5 D (.dK (putK kvs k z))) else Pv (i + 1) H3) (hd : ∀ H, Pv n H → Qd H) :
    ∃ W : Nat → Nat → Hp → Prop, (∃ m, W 0 m (upd H1 D (.dK []))) ∧ ∀ i m H, W i m H →
      (J.stop i H ∧ Qd H) ∨ (J.go i H ∧ ∃ Nx : Hp → Prop, (∀ H', Nx H' → ∃ m', m' < m ∧ W (i + 1) m' H') ∧ ∀ x H', J.yld i H x H' → g x (wipe σ vs) H' fun σ2 H2 => wipe σ2 vs = wipe σ vs ∧ tt σ2 H2 fun b H3 =>
        if b = true then tk σ2 H3 fun y H4 => tv σ2 H4 fun z H5 => ∃ kvs k, y = kV k ∧ H5 D = some (.dK kvs) ∧ kvs.length < sizeLine ∧ Nx (upd H5 D (.dK (putK kvs k z))) else Nx H3) := by
  refine ⟨fun i m H => m = n - i ∧ i ≤ n ∧ Pv i H, ⟨n, by simp, Nat.zero_le _, h0⟩, ?_⟩
  rintro i m H ⟨rfl, hi, p⟩
  have q := hG i H hi p
  by_cases hlt : i < n
  · exact .inr ⟨w.goes i H hlt q, Pv (i + 1), fun H' p' => ⟨n - (i + 1), by omega, rfl, hlt, p'⟩, fun x H' y => hs i x H H' hlt p (w.yields i H x H' hlt q y)⟩
  · have e : i = n := by omega
    subst e
    exact .inl ⟨w.stops H q, hd H p⟩
/-- a set comprehension over a Walk -/
theorem sc_it {wd : World} {J : It} {n : Nat} {G : Hp → Prop} {Y : Nat → Hp → V → Hp → Prop} (w : Walk J n G Y) {g : TG} {tt : TT} {te : TE} {vs : List Nat} {σ : L2.St} {H1 : Hp} {D : Addr} {Qd : Hp → Prop} (Pv : Nat → Hp → Prop) (h0 : Pv 0 (upd H1 D (SetTx wd D []))) (hG : ∀ i H, i ≤ n → Pv i H → G H)
    (hs : ∀ i x H H', i < n → Pv i H → Y i H x H' → g x (wipe σ vs) H' fun σ2 H2 => wipe σ2 vs = wipe σ vs ∧ tt σ2 H2 fun b H3 =>
      if b = true then te σ2 H3 fun y H4 => ∃ L k, y = .str k ∧ H4 D = some (SetTx wd D L) ∧ L.length < 1000 ∧ ∀ L', (k ∈ L → L' = L) → (k ∉ L → L' = k :: L) → Pv (i + 1) (upd H4 D (SetTx wd D L')) else Pv (i + 1) H3) (hd : ∀ H, Pv n H → Qd H) :
    ∃ W : Nat → Nat → Hp → Prop, (∃ m, W 0 m (upd H1 D (SetTx wd D []))) ∧ ∀ i m H, W i m H →
      (J.stop i H ∧ Qd H) ∨ (J.go i H ∧ ∃ Nx : Hp → Prop, (∀ H', Nx H' → ∃ m', m' < m ∧ W (i + 1) m' H') ∧ ∀ x H', J.yld i H x H' → g x (wipe σ vs) H' fun σ2 H2 => wipe σ2 vs = wipe σ vs ∧ tt σ2 H2 fun b H3 =>
        if b = true then te σ2 H3 fun y H4 => ∃ L k, y = .str k ∧ H4 D = some (SetTx wd D L) ∧ L.length < 1000 ∧ ∀ L', (k ∈ L → L' = L) → (k ∉ L → L' = k :: L) → Nx (upd H4 D (SetTx wd D L')) else Nx H3) := by
  refine ⟨fun i m H => m = n - i ∧ i ≤ n ∧ Pv i H, ⟨n, by simp, Nat.zero_le _, h0⟩, ?_⟩
  rintro i m H ⟨rfl, hi, p⟩
  have q := hG i H hi p
  by_cases hlt : i < n
  · exact .inr ⟨w.goes i H hlt q, Pv (i + 1), fun H' p' => ⟨n - (i + 1), by omega, rfl, hlt, p'⟩, fun x H' y => hs i x H H' hlt p (w.yields i H x H' hlt q y)⟩
  · have e : i = n := by omega
    subst e
    exact .inl ⟨w.stops H q, hd H p⟩
/-! == of data -/
theorem eqv_str (x y : Str) : PyData.eqv (.str x) (.str y) = decide (x = y) := by
  show PyData.eqv (.str x) (.str y) = _
  rw [PyData.eqv]
  by_cases e : x = y
  · subst e
    simp
  · have : (x == y) = false := by simpa using e
    rw [this, decide_eq_false e]
theorem eqv_int (x y : Int) : PyData.eqv (.int x) (.int y) = decide (x = y) := by
  rw [PyData.eqv]
  by_cases e : x = y
  · subst e
    simp
  · have : (x == y) = false := by simpa using e
    rw [this, decide_eq_false e]
theorem eqvAll_map {α : Type} [DecidableEq α] (enc : α → PyData) (h : ∀ x y, PyData.eqv (enc x) (enc y) = decide (x = y)) : ∀ xs ys : List α, PyData.eqvAll (xs.map enc) (ys.map enc) = decide (xs = ys)
  | [], [] => by simp [PyData.eqvAll]
  | [], y :: ys => by simp [PyData.eqvAll]
  | x :: xs, [] => by simp [PyData.eqvAll]
  | x :: xs, y :: ys => by
    show PyData.eqvAll (enc x :: xs.map enc) (enc y :: ys.map enc) = _
    rw [PyData.eqvAll, h, eqvAll_map enc h xs ys]
    by_cases e : x = y
    · subst e
      by_cases e2 : xs = ys
      · subst e2
        simp
      · simp [e2]
    · simp [e]
abbrev encS (s : Str × Int) : PyData := .tuple [.str s.1, .int s.2]
abbrev encP (s : Str × Str) : PyData := .tuple [.str s.1, .str s.2]
theorem eqv_syl (x y : Str × Int) : PyData.eqv (encS x) (encS y) = decide (x = y) := by
  obtain ⟨a, b⟩ := x
  obtain ⟨c, d⟩ := y
  show PyData.eqv (.tuple [.str a, .int b]) (.tuple [.str c, .int d]) = _
  rw [PyData.eqv, PyData.eqvAll, PyData.eqvAll, PyData.eqvAll, eqv_str, eqv_int]
  by_cases e : a = c <;> by_cases e2 : b = d <;> simp [e, e2]
theorem eqv_pair (x y : Str × Str) : PyData.eqv (encP x) (encP y) = decide (x = y) := by
  obtain ⟨a, b⟩ := x
  obtain ⟨c, d⟩ := y
  show PyData.eqv (.tuple [.str a, .str b]) (.tuple [.str c, .str d]) = _
  rw [PyData.eqv, PyData.eqvAll, PyData.eqvAll, PyData.eqvAll, eqv_str, eqv_str]
  by_cases e : a = c <;> by_cases e2 : b = d <;> simp [e, e2]
theorem dpAll_map {K : PySem.W.Frag} {H : Hp} {α : Type} (f : α → V) (enc : α → PyData) : ∀ xs : List α, (∀ x ∈ xs, Dp K H (f x) (enc x)) → DpAll K H (xs.map f) (xs.map enc)
  | [], _ => .nil
  | x :: xs, h => .cons (h x (List.mem_cons_self ..)) (dpAll_map f enc xs fun y hy => h y (List.mem_cons_of_mem _ hy))
theorem dpAll_str {K : PySem.W.Frag} {H : Hp} (xs : List Str) : DpAll K H (xs.map V.str) (xs.map PyData.str) := dpAll_map _ _ xs fun x _ => .str x
theorem dpAll_int {K : PySem.W.Frag} {H : Hp} (xs : List Int) : DpAll K H (xs.map V.int) (xs.map PyData.int) := dpAll_map _ _ xs fun x _ => .int x
theorem dp_syl {K : PySem.W.Frag} {H : Hp} {v : V} {s : Str × Int} (h : SylV H v s) : Dp K H v (encS s) := by
  obtain ⟨a, rfl, ha⟩ := h
  exact .tup (SqT.of ha) (.cons (.str _) (.cons (.int _) .nil))
theorem dp_pair {K : PySem.W.Frag} {H : Hp} {v : V} {s : Str × Str} (h : PrV H v s) : Dp K H v (encP s) := by
  obtain ⟨a, rfl, ha⟩ := h
  exact .tup (SqT.of ha) (.cons (.str _) (.cons (.str _) .nil))
theorem dpAll_syl {K : PySem.W.Frag} {H : Hp} : ∀ {vs : List V} {ss : List (Str × Int)}, Syls H vs ss → DpAll K H vs (ss.map encS)
  | _, _, .nil => .nil
  | _, _, .cons h t => .cons (dp_syl h) (dpAll_syl t)
theorem dpAll_pair {K : PySem.W.Frag} {H : Hp} : ∀ {vs : List V} {ss : List (Str × Str)}, Prs H vs ss → DpAll K H vs (ss.map encP)
  | _, _, .nil => .nil
  | _, _, .cons h t => .cons (dp_pair h) (dpAll_pair t)
theorem shaped_of (ds : List PyData) (h : ∀ d ∈ ds, d.canLay0 = true ∧ d.depth ≤ 8) : SeqAt.shaped (.tuple ds) = true ∧ SeqAt.shaped (.list ds) = true := by
  have hd : ∀ ys : List PyData, (∀ d ∈ ys, d.canLay0 = true ∧ d.depth ≤ 8) → PyData.depthAll ys ≤ 8 ∧ PyData.canLayAll0 ys = true := by
    intro ys
    induction ys with
    | nil => intro _; simp [PyData.depthAll, PyData.canLayAll0]
    | cons y ys ih =>
      intro hy
      have h1 := hy y (List.mem_cons_self ..)
      have h2 := ih fun d hd => hy d (List.mem_cons_of_mem _ hd)
      rw [PyData.depthAll, PyData.canLayAll0, h1.1, h2.2]
      exact ⟨by have := h1.2; have := h2.1; omega, rfl⟩
  obtain ⟨h1, h2⟩ := hd ds h
  unfold SeqAt.shaped
  constructor
  · rw [PyData.canLay0, PyData.depth, h2]
    exact Bool.and_eq_true_iff.mpr ⟨rfl, decide_eq_true (by omega)⟩
  · rw [PyData.canLay0, PyData.depth, h2]
    exact Bool.and_eq_true_iff.mpr ⟨rfl, decide_eq_true (by omega)⟩
theorem lay_int (i : Int) : (PyData.int i).canLay0 = true ∧ (PyData.int i).depth ≤ 8 := by simp [PyData.canLay0, PyData.depth]
theorem lay_str {x : Str} (h : PyData.strOk x = true) : (PyData.str x).canLay0 = true ∧ (PyData.str x).depth ≤ 8 := by simp [PyData.canLay0, PyData.depth, h]
theorem lay_syl {s : Str × Int} (h : PyData.strOk s.1 = true) : (encS s).canLay0 = true ∧ (encS s).depth ≤ 8 := by simp [PyData.canLay0, PyData.canLayAll0, PyData.depth, PyData.depthAll, h]
theorem lay_pair {s : Str × Str} (h : PyData.strOk s.1 = true) (h2 : PyData.strOk s.2 = true) : (encP s).canLay0 = true ∧ (encP s).depth ≤ 8 := by simp [PyData.canLay0, PyData.canLayAll0, PyData.depth, PyData.depthAll, h, h2]
end Un

/-! ## B10 -/
set_option Elab.async false
set_option linter.all false
set_option maxRecDepth 100000
set_option maxHeartbeats 4000000
namespace Un
open PySem PySem.Spec PyProof.Rows L2 StX
def ItsB (K : PySem.W.Frag) (k : Bool) (a : Addr) : It := match k with
  | true => Itl K a
  | false => Itt K a
def iSeqB (K : PySem.W.Frag) (te : TE) : TI := fun σ H R => te σ H fun v H1 => ∃ a k, v = .ref a ∧ (∃ xs, SqB K k H1 a xs) ∧ R (ItsB K k a) H1
section
variable {X : Cx} {tg l : Expr} {tl : TE}
theorem pi_seqB (hl : PE X l tl) : PI X tg l (iSeqB X.K tl) := by
  refine ⟨fun pins s σ H R I h => ?_⟩
  refine thn (hl.run pins s σ H _ I h) fun v s1 ⟨x, H1, I1, r1, q1⟩ => ?_
  obtain ⟨a, k, e, ⟨xs, hq⟩, q⟩ := q1
  subst e
  cases r1
  cases k with
  | true =>
    obtain ⟨its, rv, p, hz⟩ := I1.list hq
    refine wpAny_pyIter_list p.isList ?_
    refine ⟨s1.heap.objs.size, [s1.heap.objs.size], _, _, H1, rfl, I1.kept (t' := s1.toks) fun b o e => Heap.get?_push_of_some _ e, turn_list a _, ⟨_, Heap.get?_push_size _ rfl, rfl, rfl⟩, fun b hb => ?_, q⟩
    have e : b = s1.heap.objs.size := by simpa using hb
    subst e
    exact I1.fpOk (Nat.le_refl _) (I1.hok.fresh (Nat.le_refl _))
  | false =>
    obtain ⟨its, rv, p, hz⟩ := I1.tuple hq
    refine wpAny_pyIter_tuple (show s1.heap.IsTuple a its.toArray from p) ?_
    refine ⟨s1.heap.objs.size, [s1.heap.objs.size], _, _, H1, rfl, I1.kept (t' := s1.toks) fun b o e => Heap.get?_push_of_some _ e, turn_tuple a _, ⟨_, Heap.get?_push_size _ rfl, rfl, rfl⟩, fun b hb => ?_, q⟩
    have e : b = s1.heap.objs.size := by simpa using hb
    subst e
    exact I1.fpOk (Nat.le_refl _) (I1.hok.fresh (Nat.le_refl _))
end
theorem walk_seqB {K : PySem.W.Frag} {k : Bool} {a : Addr} {xs : List V} : Walk (ItsB K k a) xs.length (fun H => SqB K k H a xs) (YAt xs) := by
  cases k with
  | true => exact walk_list
  | false => exact walk_tup
section
variable {X : Cx} {K : PySem.W.Frag}
theorem call_tuple_of' (hK : X.K = K) : CallR X (.type "tuple") (fun xs H Q => ∃ p ys, xs = [V.ref p] ∧ ((SqL K H p ys ∧ ∀ l, H l = none → Q (.ref l) (upd H l (.tup ys))) ∨ (SqT K H p ys ∧ Q (.ref p) H))) := hK ▸ call_tuple_of
theorem call_list_of' (hK : X.K = K) : CallR X (.type "list") (fun xs H Q => ∃ p ys, xs = [V.ref p] ∧ (SqL K H p ys ∨ SqT K H p ys) ∧ ∀ l, H l = none → Q (.ref l) (upd H l (.lst ys))) := hK ▸ call_list_of
theorem cr_srtT' (hK : X.K = K) (hu : X.A.units + 65 < cLine) : CallR X (.builtin "sorted") (rSrtT K) := hK ▸ cr_srtT hu
theorem pi_seqB' (hK : X.K = K) {tg l : Expr} {tl : TE} (hl : PE X l tl) : PI X tg l (iSeqB K tl) := hK ▸ pi_seqB hl
theorem cr_sum' (hK : X.K = K) (hc : X.calm = true) : CallR X (.builtin "sum") (rSum K) := hK ▸ cr_sum hc
theorem pi_enum' (hK : X.K = K) {e : Expr} {ta : TA} {p pos tpos : Pos} {elts : List Expr} {kk : Nat} (hg : Gl X "enumerate") (hm : X.mg "enumerate" = none) (ha : PA X [e] ta) (hs : starEach [e] X.env = [(false, eval e X.env)] := by rfl) :
    PI X (.Tuple elts kk tpos) (.Call (.Name "enumerate" p) [e] [] pos) (iEnum K ta) := hK ▸ pi_enum hg hm ha hs
end
theorem rMaxD_of {K : PySem.W.Frag} {a : Addr} {ns : List Int} {H : Hp} {Q : VK} (h : SqL K H a (ns.map V.int)) (q : ∀ e : Int, ((ns = [] ∧ e = -1) ∨ (e ∈ ns ∧ ∀ y ∈ ns, y ≤ e)) → Q (.int e) H) : rMaxD K [.ref a] [.int (-1)] H Q :=
  ⟨a, ns, .int (-1), rfl, rfl, h, fun e => q _ (.inl ⟨e, rfl⟩), fun m h1 h2 => q m (.inr ⟨h1, h2⟩)⟩
theorem tyL {K : PySem.W.Frag} {p : Addr} {H : Hp} {xs : List V} (e : H p = some (.lst xs)) : tyV K "list" (.ref p) H := .inl ⟨rfl, xs, SqL.of e⟩
theorem line5 {n : Nat} (h : n ≤ 100000) : n < sizeLine := by
  have : (100000 : Nat) < sizeLine := by decide
  omega
theorem sIx_nat {n d i : Nat} (h : i ≤ n) : HT.sIx n d (some (i : Int)) = i := by
  show (if ((i : Nat) : Int) < 0 then (((i : Nat) : Int) + (n : Int)).toNat else min ((i : Nat) : Int).toNat n) = i
  rw [if_neg (by omega)]
  omega
theorem cutV_take {xs : List V} {i : Nat} (h : i ≤ xs.length) : cutV xs none (some (i : Int)) = xs.take i := by
  unfold cutV
  rw [sIx_nat h, show HT.sIx xs.length 0 none = 0 from rfl, List.drop_zero, Nat.sub_zero]
theorem cutV_drop {xs : List V} {i : Nat} (h : i ≤ xs.length) : cutV xs (some (i : Int)) none = xs.drop i := by
  unfold cutV
  rw [sIx_nat h, show HT.sIx xs.length xs.length none = xs.length from rfl]
  exact List.take_of_length_le (by rw [List.length_drop]; exact Nat.le_refl _)
theorem g2 {K : PySem.W.Frag} {n i j : Nat} {t : Addr} {x y : V} {σ : L2.St} {H : Hp} {Q : L2.St → Hp → Prop} (h : SqT K H t [x, y]) (q : Q ((σ.set i (some x)).set j (some y)) H) (hn : 2 = n := by rfl) :
    gTup K n (gCons (gName i) (gCons (gName j) gNil)) (.ref t) σ H Q := ⟨t, [x, y], rfl, h, hn, _, _, rfl, _, _, rfl, rfl, q⟩
theorem yp_enum {α : Type} {f : α → V} {zs : List α} {i : Nat} {H H' : Hp} {x : V} (y : YPair (fun i => some (.int (i : Nat))) (fun i => (zs.map f)[i]?) i H x H') :
    ∃ t z, zs[i]? = some z ∧ x = .ref t ∧ H t = none ∧ H' = upd H t (.tup [.int (i : Nat), f z]) := by
  obtain ⟨t, x1, x2, rfl, ht, rfl, e1, e2⟩ := y
  have e1' : V.int (i : Nat) = x1 := Option.some.inj e1
  have e2' : (zs.map f)[i]? = some x2 := e2
  subst e1'
  rw [List.getElem?_map] at e2'
  obtain ⟨z, hz, rfl⟩ := Option.map_eq_some_iff.mp e2'
  exact ⟨t, z, hz, rfl, ht, rfl⟩
/-- .. where the items stand for zs -/
theorem yp_enumP {α : Type} {F : V → α → Prop} {vs : List V} {zs : List α} (hp : Paired F vs zs) {i : Nat} {H H' : Hp} {x : V} (y : YPair (fun i => some (.int (i : Nat))) (fun i => vs[i]?) i H x H') :
    ∃ t v z, vs[i]? = some v ∧ zs[i]? = some z ∧ F v z ∧ x = .ref t ∧ H t = none ∧ H' = upd H t (.tup [.int (i : Nat), v]) := by
  obtain ⟨t, x1, x2, rfl, ht, rfl, e1, e2⟩ := y
  have e1' : V.int (i : Nat) = x1 := Option.some.inj e1
  have e2' : vs[i]? = some x2 := e2
  subst e1'
  obtain ⟨z, hz, r⟩ := Pr.get hp e2'
  exact ⟨t, x2, z, e2', hz, r, rfl, ht, rfl⟩
theorem yrng {i : Nat} {H H' : Hp} {x : V} (y : YFn (fun i => .int ((0 : Int) + (i : Nat))) i H x H') : H' = H ∧ x = .int ((i : Nat) : Int) := by
  obtain ⟨h, e⟩ := y
  exact ⟨h, by rw [e]; show V.int (0 + (i : Int)) = _; rw [Int.zero_add]⟩
theorem yat_map {α : Type} {f : α → V} {zs : List α} {i : Nat} {H H' : Hp} {x : V} (y : YAt (zs.map f) i H x H') : ∃ z, zs[i]? = some z ∧ x = f z ∧ H' = H := by
  obtain ⟨rfl, e⟩ := y
  rw [List.getElem?_map] at e
  obtain ⟨z, hz, rfl⟩ := Option.map_eq_some_iff.mp e
  exact ⟨z, hz, rfl, rfl⟩
theorem yat_pair {α : Type} {F : V → α → Prop} {vs : List V} {zs : List α} (hp : Paired F vs zs) {i : Nat} {H H' : Hp} {x : V} (y : YAt vs i H x H') : ∃ z, zs[i]? = some z ∧ F x z ∧ H' = H := by
  obtain ⟨rfl, e⟩ := y
  obtain ⟨z, hz, r⟩ := Pr.get hp e
  exact ⟨z, hz, r, rfl⟩
theorem SqB.mono {K : PySem.W.Frag} {k : Bool} {H H' : Hp} {a : Addr} {xs : List V} (s : Same H H') (h : SqB K k H a xs) : SqB K k H' a xs := by
  cases k with
  | true =>
    rcases h with h | h
    · refine .inl ?_
      rcases h with h | ⟨o, h⟩
      · exact .inl (s _ _ h)
      · exact .inr ⟨o, s _ _ h⟩
    · exact .inr h
  | false =>
    rcases h with h | h
    · refine .inl ?_
      rcases h with h | ⟨o, h⟩
      · exact .inl (s _ _ h)
      · exact .inr ⟨o, s _ _ h⟩
    · exact .inr h
end Un

/-! ## M1 -/
set_option Elab.async false
set_option linter.all false
/-! Rows of syllables up to melting and change of places. -/
namespace Un
section
variable {κ : Type} {fr : κ → κ → Bool}
inductive Eqv (fr : κ → κ → Bool) : List (κ × Int) → List (κ × Int) → Prop
  | refl (l) : Eqv fr l l
  | symm {a b} : Eqv fr a b → Eqv fr b a
  | trans {a b c} : Eqv fr a b → Eqv fr b c → Eqv fr a c
  | swap (p a b q) : fr a.1 b.1 = true → Eqv fr (p ++ a :: b :: q) (p ++ b :: a :: q)
  | merge (p k i j q) : Eqv fr (p ++ (k, i) :: (k, j) :: q) (p ++ (k, i + j) :: q)
  | zero (p k q) : Eqv fr (p ++ (k, 0) :: q) (p ++ q)
theorem Eqv.ctx {a b : List (κ × Int)} (x y : List (κ × Int)) (h : Eqv fr a b) : Eqv fr (x ++ a ++ y) (x ++ b ++ y) := by
  induction h with
  | refl l => exact .refl _
  | symm _ ih => exact ih.symm
  | trans _ _ i1 i2 => exact i1.trans i2
  | swap p a b q h =>
    have := Eqv.swap (x ++ p) a b (q ++ y) h
    simpa [List.append_assoc] using this
  | merge p k i j q =>
    have := Eqv.merge (fr := fr) (x ++ p) k i j (q ++ y)
    simpa [List.append_assoc] using this
  | zero p k q =>
    have := Eqv.zero (fr := fr) (x ++ p) k (q ++ y)
    simpa [List.append_assoc] using this
theorem Eqv.left {a b : List (κ × Int)} (x : List (κ × Int)) (h : Eqv fr a b) : Eqv fr (x ++ a) (x ++ b) := by
  have := h.ctx x []
  simpa using this
theorem Eqv.right {a b : List (κ × Int)} (y : List (κ × Int)) (h : Eqv fr a b) : Eqv fr (a ++ y) (b ++ y) := by
  have := h.ctx [] y
  simpa using this
/-- s goes behind b -/
theorem Eqv.over (s : κ × Int) : ∀ (b p q : List (κ × Int)), (∀ y ∈ b, fr s.1 y.1 = true) → Eqv fr (p ++ s :: (b ++ q)) (p ++ (b ++ s :: q))
  | [], p, q, _ => .refl _
  | y :: b, p, q, h => by
    have h1 : Eqv fr (p ++ s :: y :: (b ++ q)) (p ++ y :: s :: (b ++ q)) := .swap p s y _ (h y (List.mem_cons_self ..))
    have h2 := Eqv.over s b (p ++ [y]) q fun z hz => h z (List.mem_cons_of_mem _ hz)
    simp only [List.append_assoc, List.singleton_append, List.cons_append, List.nil_append] at h2
    exact h1.trans h2
/-- a new syllable melts into an old one -/
theorem Eqv.melt {a b : List (κ × Int)} {k : κ} {c d : Int} (h : ∀ y ∈ b, fr k y.1 = true) : Eqv fr (a ++ (k, c) :: b ++ [(k, d)]) (a ++ (k, c + d) :: b) := by
  have h1 := Eqv.over (k, c) b a [(k, d)] h
  have h2 : Eqv fr (a ++ (b ++ (k, c) :: [(k, d)])) (a ++ (b ++ [(k, c + d)])) := by
    have := Eqv.merge (fr := fr) (a ++ b) k c d []
    simpa [List.append_assoc] using this
  have h3 := (Eqv.over (k, c + d) b a [] h).symm
  have e1 : a ++ (k, c) :: b ++ [(k, d)] = a ++ (k, c) :: (b ++ [(k, d)]) := by simp
  have e2 : a ++ (k, c + d) :: (b ++ []) = a ++ (k, c + d) :: b := by simp
  rw [e1]
  rw [e2] at h3
  exact (h1.trans h2).trans h3
/-! ### sorted by a key -/
/-- what isn't free stands in the order of the keys -/
def KeyOk (fr : κ → κ → Bool) (l : List (Nat × (κ × Int))) : Prop := l.Pairwise fun x y => fr x.2.1 y.2.1 = true ∨ x.1 < y.1
theorem Eqv.sorted (hs : ∀ a b, fr a b = fr b a) : ∀ (l' l : List (Nat × (κ × Int))), l'.Perm l → l'.Pairwise (fun x y => x.1 ≤ y.1) → KeyOk fr l → Eqv fr (l.map (·.2)) (l'.map (·.2))
  | [], l, p, _, _ => by
    have : l = [] := List.Perm.nil_eq p |>.symm
    subst this
    exact .refl _
  | x :: r, l, p, s, k => by
    have hx : x ∈ l := p.mem_iff.mp (List.mem_cons_self ..)
    obtain ⟨a, b, rfl⟩ := List.append_of_mem hx
    have pr : r.Perm (a ++ b) := by
      have h1 : (a ++ x :: b).Perm (x :: (a ++ b)) := List.perm_middle
      exact List.Perm.cons_inv (p.trans h1)
    obtain ⟨s1, s2⟩ := List.pairwise_cons.mp s
    have ka : ∀ y ∈ a, fr x.2.1 y.2.1 = true := fun y hy => by
      have h1 := (List.pairwise_append.mp k).2.2 y hy x (List.mem_cons_self ..)
      have h2 := s1 y (pr.mem_iff.mpr (List.mem_append_left _ hy))
      rcases h1 with h1 | h1
      · rw [hs]; exact h1
      · omega
    have k2 : KeyOk fr (a ++ b) := List.Pairwise.sublist (by simp) k
    have ih := Eqv.sorted hs r (a ++ b) pr s2 k2
    have h1 : Eqv fr ((a ++ x :: b).map (·.2)) (x.2 :: (a ++ b).map (·.2)) := by
      have := Eqv.over (fr := fr) x.2 (a.map (·.2)) [] (b.map (·.2)) fun y hy => by
        obtain ⟨z, hz, rfl⟩ := List.mem_map.mp hy
        exact ka z hz
      have := this.symm
      simpa using this
    have h2 : Eqv fr (x.2 :: (a ++ b).map (·.2)) (x.2 :: r.map (·.2)) := ih.left [x.2]
    exact h1.trans h2
/-! ### what a row does -/
def runL {β : Type} (act : κ → Int → β → β) (l : List (κ × Int)) (x : β) : β := l.foldl (fun x s => act s.1 s.2 x) x
theorem runL_app {β : Type} (act : κ → Int → β → β) (a b : List (κ × Int)) (x : β) : runL act (a ++ b) x = runL act b (runL act a x) := List.foldl_append ..
/-- P: the things that are acted on; Ok: the kinds that may come -/
theorem Eqv.run {β : Type} {act : κ → Int → β → β} (h0 : ∀ k x, act k 0 x = x) (h1 : ∀ k i j x, act k j (act k i x) = act k (i + j) x) (hc : ∀ a b i j x, fr a b = true → act b j (act a i x) = act a i (act b j x))
    {l m : List (κ × Int)} (h : Eqv fr l m) : ∀ x, runL act l x = runL act m x := by
  induction h with
  | refl l => intro x; rfl
  | symm _ ih => intro x; exact (ih x).symm
  | trans _ _ i1 i2 => intro x; exact (i1 x).trans (i2 x)
  | swap p a b q h =>
    intro x
    rw [runL_app, runL_app]
    show runL act q (act b.1 b.2 (act a.1 a.2 (runL act p x))) = runL act q (act a.1 a.2 (act b.1 b.2 (runL act p x)))
    rw [hc _ _ _ _ _ h]
  | merge p k i j q =>
    intro x
    rw [runL_app, runL_app]
    show runL act q (act k j (act k i (runL act p x))) = runL act q (act k (i + j) (runL act p x))
    rw [h1]
  | zero p k q =>
    intro x
    rw [runL_app, runL_app]
    show runL act q (act k 0 (runL act p x)) = runL act q (runL act p x)
    rw [h0]
end
/-! ### depths -/
section
variable {κ : Type} {fr : κ → κ → Bool}
/-- depths of a row: what isn't free lies deeper than what stands before; no depth is left out -/
structure DepOk (fr : κ → κ → Bool) (ss : List (κ × Int)) (ds : List Nat) : Prop where
  len : ds.length = ss.length
  ord : ∀ (i j : Nat) x y, i < j → ss[i]? = some x → ss[j]? = some y → fr x.1 y.1 = false → ∀ d e, ds[i]? = some d → ds[j]? = some e → d < e
  full : ∀ d, d + 1 ∈ ds → d ∈ ds
theorem DepOk.nil : DepOk fr [] [] := ⟨rfl, fun i j x y _ h => by simp at h, fun d h => by simp at h⟩
theorem DepOk.snoc {ss : List (κ × Int)} {ds : List Nat} (D : DepOk fr ss ds) {s : κ × Int} {d : Nat} (h1 : ∀ (i : Nat) x e, ss[i]? = some x → fr x.1 s.1 = false → ds[i]? = some e → e < d) (h2 : ∀ e, d = e + 1 → e ∈ ds) : DepOk fr (ss ++ [s]) (ds ++ [d]) := by
  refine ⟨by rw [List.length_append, List.length_append, D.len]; rfl, fun i j x y hij hx hy hf a b ha hb => ?_, fun e he => ?_⟩
  · have hj : j ≤ ss.length := by
      have := (List.getElem?_eq_some_iff.mp hy).1
      rw [List.length_append] at this
      simp at this
      omega
    have hi : i < ss.length := by omega
    rw [List.getElem?_append_left hi] at hx
    rw [List.getElem?_append_left (by rw [D.len]; exact hi)] at ha
    by_cases c : j < ss.length
    · rw [List.getElem?_append_left c] at hy
      rw [List.getElem?_append_left (by rw [D.len]; exact c)] at hb
      exact D.ord i j x y hij hx hy hf a b ha hb
    · have ej : j = ss.length := by omega
      subst ej
      rw [List.getElem?_append_right (Nat.le_refl _), Nat.sub_self] at hy
      rw [List.getElem?_append_right (by rw [D.len]; exact Nat.le_refl _), D.len, Nat.sub_self] at hb
      have e1 : s = y := by simpa using hy
      have e2 : d = b := by simpa using hb
      subst e1 e2
      exact h1 i x a hx hf ha
  · rcases List.mem_append.mp he with h | h
    · exact List.mem_append_left _ (D.full e h)
    · have : e + 1 = d := by simpa using h
      exact List.mem_append_left _ (h2 e this.symm)
/-- the layers, each in some order, one behind the other -/
theorem DepOk.layers (hs : ∀ a b, fr a b = fr b a) {ss : List (κ × Int)} {ds : List Nat} (D : DepOk fr ss ds) {n : Nat} (hn : ∀ d ∈ ds, d < n) (LL : Nat → List (κ × Int))
    (hL : ∀ d, d < n → (LL d).Perm (((ds.zip ss).filter fun p => p.1 == d).map (·.2))) : Eqv fr ss (((List.range n).map LL).flatten) ∧ (((List.range n).map LL).flatten).Perm ss := by
  have ex : ∀ d, d < n → ∃ M : List (Nat × (κ × Int)), M.Perm ((ds.zip ss).filter fun p => p.1 == d) ∧ M.map (·.2) = LL d ∧ ∀ p ∈ M, p.1 = d := by
    intro d hd
    refine ⟨(LL d).map fun s => (d, s), ?_, by rw [List.map_map]; exact List.map_id' _, fun p hp => ?_⟩
    · have := (hL d hd).map fun s => (d, s)
      refine this.trans ?_
      rw [List.map_map]
      have : ∀ l : List (Nat × (κ × Int)), (∀ p ∈ l, p.1 = d) → l.map ((fun s => (d, s)) ∘ fun x => x.2) = l := by
        intro l
        induction l with
        | nil => intro _; rfl
        | cons p l ih =>
          intro h
          rw [List.map_cons, ih fun q hq => h q (List.mem_cons_of_mem _ hq)]
          have := h p (List.mem_cons_self ..)
          obtain ⟨a, b⟩ := p
          dsimp only at this
          subst this
          rfl
      rw [this _ fun p hp => by simpa using (List.mem_filter.mp hp).2]
    · obtain ⟨s, _, rfl⟩ := List.mem_map.mp hp
      rfl
  -- the keyed list
  have key : ∀ m, m ≤ n → ∃ M : List (Nat × (κ × Int)), M.Perm ((ds.zip ss).filter fun p => decide (p.1 < m)) ∧ M.map (·.2) = ((List.range m).map LL).flatten ∧ M.Pairwise fun x y => x.1 ≤ y.1 := by
    intro m
    induction m with
    | zero => intro _; exact ⟨[], by simp, by simp, .nil⟩
    | succ m ih =>
      intro hm
      obtain ⟨M, p1, p2, p3⟩ := ih (by omega)
      obtain ⟨N, q1, q2, q3⟩ := ex m hm
      refine ⟨M ++ N, ?_, ?_, ?_⟩
      · have h1 : ((ds.zip ss).filter fun p => decide (p.1 < m)) = (((ds.zip ss).filter fun p => decide (p.1 < m + 1)).filter fun p => decide (p.1 < m)) := by
          rw [List.filter_filter]
          congr 1
          funext p
          by_cases c : p.1 < m
          · simp [c]; omega
          · simp [c]
        have h2 : ((ds.zip ss).filter fun p => p.1 == m) = (((ds.zip ss).filter fun p => decide (p.1 < m + 1)).filter fun p => !decide (p.1 < m)) := by
          rw [List.filter_filter]
          congr 1
          funext p
          by_cases c : p.1 = m
          · simp [c]
          · have : (p.1 == m) = false := by simpa using c
            rw [this]
            by_cases c2 : p.1 < m
            · simp [c2]
            · simp; omega
        have h3 := List.filter_append_perm (fun p => decide (p.1 < m)) ((ds.zip ss).filter fun p => decide (p.1 < m + 1))
        refine (p1.append q1).trans ?_
        rw [h1, h2]
        exact h3
      · rw [List.map_append, p2, q2, List.range_succ, List.map_append, List.flatten_append]
        simp
      · refine List.pairwise_append.mpr ⟨p3, ?_, fun x hx y hy => ?_⟩
        · refine List.pairwise_of_forall_mem_list fun x hx y hy => ?_
          rw [q3 x hx, q3 y hy]
          exact Nat.le_refl _
        · have h1 := p1.mem_iff.mp hx
          have h2 := (List.mem_filter.mp h1).2
          have h3 := q3 y hy
          simp at h2
          omega
  obtain ⟨M, p1, p2, p3⟩ := key n (Nat.le_refl _)
  have hall : ((ds.zip ss).filter fun p => decide (p.1 < n)) = ds.zip ss := List.filter_eq_self.mpr fun p hp => by
    have := (List.of_mem_zip hp).1
    exact decide_eq_true (hn _ this)
  rw [hall] at p1
  have e2 : (ds.zip ss).map (·.2) = ss := by
    rw [show (fun x : Nat × (κ × Int) => x.2) = Prod.snd from rfl, List.map_snd_zip (by rw [D.len]; exact Nat.le_refl _)]
  have ko : KeyOk fr (ds.zip ss) := by
    unfold KeyOk
    rw [List.pairwise_iff_getElem]
    intro i j hi hj hij
    have hi1 : i < ds.length := by rw [List.length_zip] at hi; omega
    have hj1 : j < ds.length := by rw [List.length_zip] at hj; omega
    have hi2 : i < ss.length := by rw [List.length_zip] at hi; omega
    have hj2 : j < ss.length := by rw [List.length_zip] at hj; omega
    rw [List.getElem_zip, List.getElem_zip]
    by_cases c : fr ss[i].1 ss[j].1 = true
    · exact .inl c
    · refine .inr ?_
      exact D.ord i j ss[i] ss[j] hij (List.getElem?_eq_getElem hi2) (List.getElem?_eq_getElem hj2) (by simpa using c) _ _ (List.getElem?_eq_getElem hi1) (List.getElem?_eq_getElem hj1)
  have h := Eqv.sorted hs M (ds.zip ss) p1 p3 ko
  rw [e2, p2] at h
  have h2 := p1.map fun x : Nat × (κ × Int) => x.2
  rw [p2, e2] at h2
  exact ⟨h, h2⟩
end
end Un

/-! ## B11 -/
set_option Elab.async false
set_option linter.all false
set_option maxRecDepth 100000
set_option maxHeartbeats 4000000
namespace Un
open PySem PySem.Spec PyProof.Rows L2 StX
theorem paired_perm {α β : Type} {F : α → β → Prop} : ∀ {vs' vs : List α}, vs'.Perm vs → ∀ {l : List β}, Paired F vs l → ∃ l' : List β, l'.Perm l ∧ Paired F vs' l' := by
  intro vs' vs p
  induction p with
  | nil => intro l r; exact ⟨l, List.Perm.refl _, r⟩
  | cons x p ih =>
    intro l r
    cases r with
    | cons r1 r2 =>
      obtain ⟨l', h1, h2⟩ := ih r2
      exact ⟨_ :: l', h1.cons _, .cons r1 h2⟩
  | swap x y t =>
    intro l r
    cases r with
    | cons r1 r2 =>
      cases r2 with
      | cons r3 r4 => exact ⟨_ :: _ :: _, List.Perm.swap _ _ _, .cons r3 (.cons r1 r4)⟩
  | trans p1 p2 i1 i2 =>
    intro l r
    obtain ⟨l1, a1, a2⟩ := i2 r
    obtain ⟨l2, b1, b2⟩ := i1 a2
    exact ⟨l2, b1.trans a1, b2⟩
theorem srtIn_map {α : Type} {H : Hp} {R : V → α → Prop} (enc : α → PyData) (hr : ∀ v z, R v z → RdV H v (enc z)) (hal : ∀ a b, PySem.W.alike (enc a) (enc b) = true) (hso : ∀ bs : List α, PySem.W.Sortable (bs.map enc)) (hd : ∀ a, (enc a).depth ≤ 8) :
    ∀ {vs : List V} {zs : List α}, Paired R vs zs → zs.length ≤ 100000 → ∃ bs, SrtIn H vs bs := by
  intro vs zs p hl
  have key : ∀ {vs : List V} {zs : List α}, Paired R vs zs → ∃ bs : List (V × PyData), vs = bs.map Prod.fst ∧ (∀ b ∈ bs, RdV H b.1 b.2) ∧ bs.map Prod.snd = zs.map enc := by
    intro vs zs p
    induction p with
    | nil => exact ⟨[], rfl, fun b hb => (by cases hb), rfl⟩
    | cons r t ih =>
      obtain ⟨bs, e1, e2, e3⟩ := ih
      refine ⟨(_, _) :: bs, by rw [List.map_cons, e1], fun b hb => ?_, by rw [List.map_cons, List.map_cons, e3]⟩
      rcases List.mem_cons.mp hb with e | hb
      · rw [e]
        exact hr _ _ r
      · exact e2 b hb
  obtain ⟨bs, e1, e2, e3⟩ := key p
  refine ⟨bs, e1, e2, by rw [e3]; exact PySem.W.AllAlike.of hal, by rw [e3]; exact hso zs, fun b hb => ?_, ?_⟩
  · have : b.2 ∈ bs.map Prod.snd := List.mem_map.mpr ⟨b, hb, rfl⟩
    rw [e3] at this
    obtain ⟨z, _, e⟩ := List.mem_map.mp this
    rw [← e]
    exact hd z
  · have h1 := congrArg List.length e3
    rw [List.length_map, List.length_map] at h1
    omega
theorem srtIn_syl {H : Hp} {vs : List V} {ss : List (Str × Int)} (p : Syls H vs ss) (hl : ss.length ≤ 100000) : ∃ bs, SrtIn H vs bs :=
  srtIn_map (R := SylV H) encS (fun v z ⟨a, e, h⟩ => by subst e; exact .two h (.str _) (.int _)) (fun a b => by simp [PySem.W.alike, PySem.W.alikeAll]) (fun bs => PySem.W.Sortable.tuples fun b => ⟨_, _, rfl⟩) (fun a => by simp [PyData.depth, PyData.depthAll]) p hl
theorem srt_syl {H : Hp} {vs : List V} {ss : List (Str × Int)} {bs : List (V × PyData)} (p : Syls H vs ss) (B : SrtIn H vs bs) : ∃ ss', ss'.Perm ss ∧ Syls H (srt bs) ss' := by
  have := srt_perm bs
  rw [← B.eq] at this
  exact paired_perm this p
/-- a layer: a tuple of syllables -/
def LayAt (H : Hp) (v : V) (l : List (Str × Int)) : Prop := ∃ b vs, v = .ref b ∧ H b = some (.tup vs) ∧ Syls H vs l
theorem LayAt.mono {H H' : Hp} (t : TupS H H') {v : V} {l : List (Str × Int)} (h : LayAt H v l) : LayAt H' v l := by
  obtain ⟨b, vs, e, h1, h2⟩ := h
  exact ⟨b, vs, e, t _ _ h1, h2.mono t⟩
/-- a set of numbers without gaps -/
theorem no_gap {ks : List Nat} (nd : ks.Nodup) (h : ∀ d, d + 1 ∈ ks → d ∈ ks) : ∀ d, d ∈ ks ↔ d < ks.length := by
  have down : ∀ n d, n + d ∈ ks → d ∈ ks := by
    intro n
    induction n with
    | zero => intro d hd; rw [Nat.zero_add] at hd; exact hd
    | succ n ih =>
      intro d hd
      refine ih d (h _ ?_)
      rw [show n + d + 1 = n + 1 + d by omega]
      exact hd
  have lt : ∀ d, d ∈ ks → d < ks.length := fun d hd => by
    have := nat_nodup_len (List.range (d + 1)) ks List.nodup_range fun x hx => by
      have hx' := List.mem_range.mp hx
      exact down (d - x) x (by rw [show d - x + x = d by omega]; exact hd)
    rw [List.length_range] at this
    omega
  intro d
  refine ⟨lt d, fun hd => ?_⟩
  by_cases c : d ∈ ks
  · exact c
  · exfalso
    have := nat_nodup_len (d :: ks) (List.range ks.length) (List.nodup_cons.mpr ⟨c, nd⟩) fun x hx => by
      rcases List.mem_cons.mp hx with e | hx
      · rw [e]; exact List.mem_range.mpr hd
      · exact List.mem_range.mpr (lt x hx)
    rw [List.length_cons, List.length_range] at this
    omega
abbrev kD (d : Nat) : Key := Sum.inl ((d : Nat) : Int)
theorem kD_inj {a b : Nat} (h : kD a = kD b) : a = b := by
  have := Sum.inl.inj h
  omega
/-- the dict of the layers while it is made -/
structure Fnd (H : Hp) (kvs : List (Key × V)) (ps : List (Nat × (Str × Int))) : Prop where
  keys : ∃ ks : List Nat, kvs.map Prod.fst = ks.map kD ∧ ks.Nodup ∧ ∀ d, d ∈ ks ↔ d ∈ ps.map Prod.fst
  get : ∀ d, d ∈ ps.map Prod.fst → ∃ v, valV kvs (kD d) = some v ∧ LayAt H v ((ps.filter fun p => p.1 == d).map Prod.snd)
  len : kvs.length ≤ ps.length
theorem Fnd.nil (H : Hp) : Fnd H [] [] := ⟨⟨[], rfl, .nil, fun d => Iff.rfl⟩, fun d h => by simp at h, Nat.le_refl _⟩
theorem Fnd.mono {H H' : Hp} {kvs : List (Key × V)} {ps : List (Nat × (Str × Int))} (t : TupS H H') (F : Fnd H kvs ps) : Fnd H' kvs ps :=
  ⟨F.keys, fun d hd => let ⟨v, h1, h2⟩ := F.get d hd; ⟨v, h1, h2.mono t⟩, F.len⟩
theorem Fnd.none {H : Hp} {kvs : List (Key × V)} {ps : List (Nat × (Str × Int))} (F : Fnd H kvs ps) {d : Nat} (h : d ∉ ps.map Prod.fst) : valV kvs (kD d) = Option.none := by
  obtain ⟨ks, e, nd, hk⟩ := F.keys
  cases q : valV kvs (kD d) with
  | none => rfl
  | some v =>
    have := valV_in q
    rw [e] at this
    obtain ⟨d', hd', e'⟩ := List.mem_map.mp this
    rw [kD_inj e'] at hd'
    exact absurd ((hk d).mp hd') h
theorem map_putK {κ : Type} [DecidableEq κ] {kvs : List (κ × V)} {k : κ} {v v' : V} (h : valV kvs k = some v') : (putK kvs k v).map Prod.fst = kvs.map Prod.fst := by
  have ha : (kvs.any fun kv => decide (kv.1 = k)) = true := by rw [valV_any, h]; rfl
  unfold putK
  rw [if_pos ha, List.map_map]
  refine List.map_congr_left fun p _ => ?_
  show (if p.1 = k then (p.1, v) else p).1 = p.1
  split <;> rfl
theorem Fnd.put {H : Hp} {kvs : List (Key × V)} {ps : List (Nat × (Str × Int))} (F : Fnd H kvs ps) {d : Nat} {s : Str × Int} {v : V} (h : LayAt H v ((ps.filter fun p => p.1 == d).map Prod.snd ++ [s])) : Fnd H (putK kvs (kD d) v) (ps ++ [(d, s)]) := by
  obtain ⟨ks, e, nd, hk⟩ := F.keys
  refine ⟨?_, fun d' hd' => ?_, ?_⟩
  · by_cases c : d ∈ ps.map Prod.fst
    · obtain ⟨v', h1, _⟩ := F.get d c
      refine ⟨ks, by rw [map_putK h1, e], nd, fun d' => ?_⟩
      rw [List.map_append, List.mem_append, hk d']
      constructor
      · exact .inl
      · rintro (h | h)
        · exact h
        · rw [show d' = d by simpa using h]; exact c
    · refine ⟨ks ++ [d], by rw [putK_new _ (F.none c), List.map_append, List.map_append, e]; rfl, List.nodup_append.mpr ⟨nd, by simp, fun x hx y hy => ?_⟩, fun d' => ?_⟩
      · have : y = d := by simpa using hy
        rw [this]
        intro z
        rw [z] at hx
        exact c ((hk d).mp hx)
      · rw [List.map_append, List.mem_append, List.mem_append, hk d']
        rfl
  · rw [valV_put]
    by_cases c : kD d' = kD d
    · rw [if_pos c]
      have e' := kD_inj c
      subst e'
      refine ⟨v, rfl, ?_⟩
      rw [List.filter_append, List.map_append]
      have : ([(d', s)].filter fun p : Nat × (Str × Int) => p.1 == d') = [(d', s)] := by simp
      rw [this]
      exact h
    · rw [if_neg c]
      have ne : d' ≠ d := fun z => c (by rw [z])
      have hd2 : d' ∈ ps.map Prod.fst := by
        rw [List.map_append, List.mem_append] at hd'
        rcases hd' with h | h
        · exact h
        · exact absurd (by simpa using h) ne
      obtain ⟨v', h1, h2⟩ := F.get d' hd2
      refine ⟨v', h1, ?_⟩
      rw [List.filter_append]
      have : ([(d, s)].filter fun p : Nat × (Str × Int) => p.1 == d') = [] := by simp [Ne.symm ne]
      rw [this, List.append_nil]
      exact h2
  · have := length_putK kvs (kD d) v
    have := F.len
    rw [List.length_append]
    simp
    omega
theorem Fnd.gap {H : Hp} {kvs : List (Key × V)} {fr : Str → Str → Bool} {ss : List (Str × Int)} {ds : List Nat} (D : DepOk fr ss ds) (F : Fnd H kvs (ds.zip ss)) : (∀ d, d ∈ ds ↔ d < kvs.length) := by
  obtain ⟨ks, e, nd, hk⟩ := F.keys
  have e2 : (ds.zip ss).map Prod.fst = ds := by rw [List.map_fst_zip (by rw [D.len]; exact Nat.le_refl _)]
  rw [e2] at hk
  have hl : kvs.length = ks.length := by
    have := congrArg List.length e
    rw [List.length_map, List.length_map] at this
    exact this
  intro d
  rw [hl, ← no_gap nd (fun d hd => (hk d).mpr (D.full d ((hk _).mp hd))) d]
  exact (hk d).symm
/-- from the layers' classes to the layers -/
theorem pick_layers {H : Hp} {n : Nat} {C : Nat → List (Str × Int)} : ∀ {vs : List V} {ns : List Nat}, Paired (fun v d => ∃ l, l.Perm (C d) ∧ LayAt H v l) vs ns → ∃ LL : List (List (Str × Int)), Paired (LayAt H) vs LL ∧ Paired (fun (l : List (Str × Int)) d => l.Perm (C d)) LL ns
  | _, _, .nil => ⟨[], .nil, .nil⟩
  | _, _, .cons ⟨l, h1, h2⟩ t => by
    obtain ⟨LL, a, b⟩ := pick_layers (n := n) t
    exact ⟨l :: LL, .cons h2 a, .cons h1 b⟩
theorem layers_fn {C : Nat → List (Str × Int)} {n : Nat} {LL : List (List (Str × Int))} (h : Paired (fun (l : List (Str × Int)) d => l.Perm (C d)) LL (List.range n)) : LL = (List.range n).map (fun d => LL.getD d []) ∧ ∀ d, d < n → (LL.getD d []).Perm (C d) := by
  have hl : LL.length = n := by rw [Pr.len h, List.length_range]
  constructor
  · apply List.ext_getElem
    · rw [hl, List.length_map, List.length_range]
    · intro i h1 h2
      simp [h1]
  · intro d hd
    obtain ⟨l, h1, h2⟩ := Pr.get2 h (i := d) (y := d) (by rw [List.getElem?_range hd])
    rw [List.getD_eq_getElem?_getD, h1]
    exact h2
end Un

/-! ## D1 -/
set_option Elab.async false
set_option linter.all false
set_option maxRecDepth 100000
set_option maxHeartbeats 4000000
namespace Un
open PySem PySem.Spec PyProof.Rows L2 StX
section
variable {P : Program} {w : World} {K : PySem.W.Frag} {mg : Str → Option Value} {base : Heap}
/-! Table.links -/
abbrev s_Table_links : Stmt := (inClass (top 26) 3)
abbrev N_Table_links : List Str := ["self", "kind"]
abbrev P_Table_links : List Str := ["self", "kind"]
theorem sc_Table_links : FnScope N_Table_links P_Table_links (defScope s_Table_links) := ⟨rfl, rfl, rfl, by decide +kernel, rfl, by decide +kernel, by decide +kernel⟩

def spLinks (K : PySem.W.Frag) : Sp := fun vs H Q _ => ∃ t k T, vs = [.ref t, .str k] ∧ TabAt K H t T ∧ k ∈ T.kinds ∧ ∀ la, H la = some (.tup ((T.links k).map V.str)) → Q (.ref la) H
theorem ok_Table_links (T : Txt K mg) {f : Addr} (F : FnT K "links" "Table.links" s_Table_links f) : FnR P w K mg base CX0 1 f (spLinks K) := by
  refine F.ok sc_Table_links (fun _ _ _ _ _ _ us hl => match us, hl with | [_, _], _ => rfl) (fun vs H Q E h => ?_) (fun cdv A outer s H vs Q E hr h => ?_)
  · obtain ⟨t, k, T', rfl, _⟩ := h
    rfl
  · obtain ⟨t, k, Tb, rfl, hT, hk, q⟩ := h
    obtain ⟨dx, fs, ks, ps, ln, kvs, pvs, h1, h2, h3, h4, h5, h6, h7, h8, h9, h10⟩ := hT.ex
    obtain ⟨la, q1, q2⟩ := h10 k hk
    refine ⟨_, (pss_one (ps_ret (pe_dget (hu_of hr) (pe_fld (pv 0) rfl) (pv 1) (fun _ _ => rfl)))), ?_⟩
    refine ⟨_, rfl, t, _, dx, fs, _, rfl, h1, T.cl_Table, T.na_Table_linked, h8, _, rfl, ln, .ref la, rfl, ?_, q la q2⟩
    rw [← q1]
    exact DGet.k (k := Sum.inr k) h9
/-! melting_at -/
abbrev s_melting_at : Stmt := (top 28)
abbrev N_melting_at : List Str := ["table", "short", "kind", "links", "at"]
abbrev P_melting_at : List Str := ["table", "short", "kind"]
theorem sc_melting_at : FnScope N_melting_at P_melting_at (defScope s_melting_at) := ⟨rfl, rfl, rfl, by decide +kernel, rfl, by decide +kernel, by decide +kernel⟩

/-- every answer that may come: a place at which it melts, or none -/
def spMelt (K : PySem.W.Frag) : Sp := fun vs H Q _ => ∃ t l k T xs ss, vs = [.ref t, .ref l, .str k] ∧ TabAt K H t T ∧ k ∈ T.kinds ∧ H l = some (.lst xs) ∧ Syls H xs ss ∧ ss.length ≤ 1000 ∧
  (∀ a c b, ss = a ++ (k, c) :: b → (∀ x ∈ b, x.1 ≠ k ∧ x.1 ∉ T.links k) → Q (.int a.length) H) ∧ Q .non H
theorem ok_melting_at (T : Txt K mg) {f : Addr} (F : FnT K "melting_at" "melting_at" s_melting_at f) (F_Table_links : FnR P w K mg base CX0 1 (He.ma K (He.ga K "Table") "links") (spLinks K)) : FnR P w K mg base CX0 2 f (spMelt K) := by
  refine F.ok sc_melting_at (fun _ _ _ _ _ _ us hl => match us, hl with | [_, _, _], _ => rfl) (fun vs H Q E h => ?_) (fun cdv A outer s H vs Q E hr h => ?_)
  · obtain ⟨t, l, k, T', xs, ss, rfl, _⟩ := h
    rfl
  · obtain ⟨t, l, k, Tb, xs, ss, rfl, hT, hk, hl, hS, hlen, q1, q2⟩ := h
    refine ⟨_, (pss_cons (ps_set (i := 3) sc_melting_at.nd rfl (Or.inl rfl) (pe_methR (pv 0) T.cl_Table T.me_Table_links F_Table_links (hr.mono (by decide)) pass0 (pa_cons (pv 2) pa_nil)))
      (pss_cons (ps_for PassesOwn.never rfl (pi_range3 rfl T.f_range (pa_cons (pe_op op_sub (pe_callB call_len rfl T.f_len boot_len (pa_cons (pv 1) pa_nil)) pe_int) (pa_cons (pe_un un_neg pe_int) (pa_cons (pe_un un_neg pe_int) pa_nil)))) (pg_name (i := 4) sc_melting_at.nd rfl (Or.inl rfl)) (pss_cons (ps_if (pt_cmpR op_eq (pe_ix ix_tup (pe_ix ix_list (pv 1) (pv 4) (fun _ _ => rfl)) pe_int (fun _ _ => rfl)) (pv 2) (nomark _)) (pss_one (ps_ret (pv 4))) pss_nil)
      (pss_one (ps_if (pt_cmpR op_in_seq (pe_ix ix_tup (pe_ix ix_list (pv 1) (pv 4) (fun _ _ => rfl)) pe_int (fun _ _ => rfl)) (pv 3) (by rfl)) (pss_one (ps_ret pe_non)) pss_nil))))
      (pss_one (ps_ret pe_non)))), ?_⟩
    obtain ⟨dx, fs, ks, ps, ln, kvs, pvs, h1, h2, _⟩ := hT.ex
    refine ⟨_, rfl, t, dx, fs, rfl, h1, h2, _, rfl, t, k, Tb, rfl, hT, hk, fun la hla => ?_⟩
    have exs : xs.length = ss.length := Pr.len hS
    refine ⟨_, rfl, _, xs.length, rfl, .inl ⟨_, SqL.of hl, rfl⟩, _, _, rfl, rfl, _, rfl, _, rfl, _, _, _, _, rfl, RgC.neg (by omega) (by omega) (by decide) (by decide), ?_⟩
    refine for_it walk_rangeC (fun i σ H' => H' = H ∧ (∃ v, σ = [some (.ref t), some (.ref l), some (.str k), some (.ref la), v]) ∧ ∀ x ∈ ss.drop (ss.length - i), x.1 ≠ k ∧ x.1 ∉ Tb.links k)
      ⟨rfl, ⟨none, rfl⟩, by simp⟩ (fun _ _ _ _ _ => trivial) ?_ ?_
    · rintro i y σ _ H' hi ⟨rfl, ⟨v, rfl⟩, hd⟩ ⟨rfl, rfl⟩
      have hi' : i < ss.length := by omega
      have hp : ss.length - 1 - i < ss.length := by omega
      obtain ⟨z, hz⟩ : ∃ z, ss[ss.length - 1 - i]? = some z := ⟨_, List.getElem?_eq_getElem hp⟩
      obtain ⟨u, hu, a, rfl, ha⟩ := Pr.get2 hS hz
      have ei : ((xs.length : Nat) : Int) - 1 + ((i : Nat) : Int) * -1 = ((ss.length - 1 - i : Nat) : Int) := by omega
      have esp : ss = ss.take (ss.length - 1 - i) ++ z :: ss.drop (ss.length - i) := by
        have e1 := List.drop_eq_getElem_cons hp
        have e2 : ss[ss.length - 1 - i] = z := by
          rw [List.getElem?_eq_getElem hp] at hz
          exact Option.some.inj hz
        rw [e2, show ss.length - 1 - i + 1 = ss.length - i by omega] at e1
        rw [← e1, List.take_append_drop]
      refine ⟨_, rfl, _, rfl, l, xs, _, _, rfl, rfl, SqL.of hl, at_of ei hu, a, _, 0, .str z.1, rfl, rfl, SqT.of ha, rfl, _, rfl, rfl, _, rfl, ?_⟩
      refine ite2 (fun c => ?_) (fun c => ?_)
      · have ez : z.1 = k := V.str.inj (of_decide_eq_true c)
        refine ⟨_, rfl, ?_⟩
        have q := q1 (ss.take (ss.length - 1 - i)) z.2 (ss.drop (ss.length - i)) (by rw [← ez]; exact esp) hd
        rw [List.length_take, Nat.min_eq_left (by omega)] at q
        show Q (V.int _) H'
        rw [ei]
        exact q
      · have nz : z.1 ≠ k := fun e => c (decide_eq_true (by rw [e]))
        refine ⟨_, rfl, _, rfl, l, xs, _, _, rfl, rfl, SqL.of hl, at_of ei hu, a, _, 0, .str z.1, rfl, rfl, SqT.of ha, rfl, _, rfl, la, _, rfl, .inr (SqT.of hla), rfl, ?_, _, rfl, ?_⟩
        · exact flatS _
        · show (if inV (.str z.1) ((Tb.links k).map V.str) = true then _ else _)
          rw [inV_str]
          refine ite2 (fun c2 => ?_) (fun c2 => ?_)
          · exact q2
          · have nl : z.1 ∉ Tb.links k := fun m => c2 (decide_eq_true m)
            refine ⟨rfl, ⟨_, rfl⟩, fun x hx => ?_⟩
            have e1 : ss.drop (ss.length - (i + 1)) = z :: ss.drop (ss.length - i) := by
              have e1 := List.drop_eq_getElem_cons hp
              rw [List.getElem?_eq_getElem hp] at hz
              rw [Option.some.inj hz, show ss.length - 1 - i + 1 = ss.length - i by omega] at e1
              rw [show ss.length - (i + 1) = ss.length - 1 - i by omega]
              exact e1
            rw [e1] at hx
            rcases List.mem_cons.mp hx with e | hx
            · rw [e]
              exact ⟨nz, nl⟩
            · exact hd x hx
    · rintro σ H' ⟨rfl, ⟨v, rfl⟩, hd⟩
      exact q2
end
end Un

/-! ## D2 -/
set_option Elab.async false
set_option linter.all false
set_option maxRecDepth 100000
set_option maxHeartbeats 4000000
namespace Un
open PySem PySem.Spec PyProof.Rows L2 StX
section
variable {P : Program} {w : World} {K : PySem.W.Frag} {mg : Str → Option Value} {base : Heap}
/-! in_pair -/
abbrev s_in_pair : Stmt := (top 21)
abbrev N_in_pair : List Str := ["one", "other"]
abbrev P_in_pair : List Str := ["one", "other"]
theorem sc_in_pair : FnScope N_in_pair P_in_pair (defScope s_in_pair) := ⟨rfl, rfl, rfl, by decide +kernel, rfl, by decide +kernel, by decide +kernel⟩

def spPair : Sp := fun vs H Q _ => ∃ a b, vs = [.str a, .str b] ∧ ∀ p, H p = none → Q (.ref p) (upd H p (.tup [.str (ip a b).1, .str (ip a b).2]))
theorem ok_in_pair {f : Addr} (F : FnT K "in_pair" "in_pair" s_in_pair f) : FnR P w K mg base CX0 1 f spPair := by
  refine F.ok sc_in_pair (fun _ _ _ _ _ _ us hl => match us, hl with | [_, _], _ => rfl) (fun vs H Q E h => ?_) (fun cdv A outer s H vs Q E hr h => ?_)
  · obtain ⟨a, b, rfl, _⟩ := h
    rfl
  · obtain ⟨a, b, rfl, q⟩ := h
    refine ⟨_, (pss_one (ps_ret (pe_ifExp (pt_cmpR op_lt_str (pv 0) (pv 1) (nomark _)) (pe_tup (pa_cons (pv 0) (pa_cons (pv 1) pa_nil))) (pe_tup (pa_cons (pv 1) (pa_cons (pv 0) pa_nil)))))), ?_⟩
    refine ⟨_, rfl, _, rfl, _, _, rfl, rfl, _, rfl, ?_⟩
    have e : ip a b = if slt a b = true then (a, b) else (b, a) := rfl
    rw [e] at q
    unfold slt at q
    cases c : decide (a.cps.toList < b.cps.toList) with
    | true =>
      rw [c] at q
      exact ⟨_, rfl, _, rfl, by show 2 ≤ sizeLine; decide, q⟩
    | false =>
      rw [c] at q
      exact ⟨_, rfl, _, rfl, by show 2 ≤ sizeLine; decide, q⟩
/-! check_index -/
abbrev s_check_index : Stmt := (top 45)
abbrev N_check_index : List Str := ["at", "many"]
abbrev P_check_index : List Str := ["at", "many"]
theorem sc_check_index : FnScope N_check_index P_check_index (defScope s_check_index) := ⟨rfl, rfl, rfl, by decide +kernel, rfl, by decide +kernel, by decide +kernel⟩

def spCkIx : Sp := fun vs H Q _ => ∃ i n : Int, vs = [.int i, .int n] ∧ 0 ≤ i ∧ i < n ∧ Q .non H
theorem ok_check_index {f : Addr} (F : FnT K "check_index" "check_index" s_check_index f) : FnR P w K mg base CX0 1 f spCkIx := by
  refine F.ok sc_check_index (fun _ _ _ _ _ _ us hl => match us, hl with | [_, _], _ => rfl) (fun vs H Q E h => ?_) (fun cdv A outer s H vs Q E hr h => ?_)
  · obtain ⟨a, b, rfl, _⟩ := h
    rfl
  · obtain ⟨i, n, rfl, h0, h1, q⟩ := h
    refine ⟨_, (pss_one (ps_if (pt_not (pt_chain op_le op_lt pe_int (pv 0) (pv 1))) (pss_one ps_never) pss_nil)), ?_⟩
    refine ⟨_, rfl, _, _, rfl, rfl, _, rfl, ?_⟩
    rw [decide_eq_true h0]
    refine iteT ⟨_, rfl, _, _, rfl, rfl, _, rfl, ?_⟩
    rw [decide_eq_true h1]
    exact iteF q
/-! limited -/
abbrev s_limited : Stmt := (top 51)
abbrev N_limited : List Str := ["form"]
abbrev P_limited : List Str := ["form"]
theorem sc_limited : FnScope N_limited P_limited (defScope s_limited) := ⟨rfl, rfl, rfl, by decide +kernel, rfl, by decide +kernel, by decide +kernel⟩

def spLim (K : PySem.W.Frag) : Sp := fun vs H Q _ => ∃ p xs, vs = [.ref p] ∧ H p = some (.tup xs) ∧ xs.length ≤ 1000 ∧ Q (.ref p) H
theorem ok_limited (T : Txt K mg) {f : Addr} (F : FnT K "limited" "limited" s_limited f) : FnR P w K mg base CX0 1 f (spLim K) := by
  refine F.ok sc_limited (fun _ _ _ _ _ _ us hl => match us, hl with | [_], _ => rfl) (fun vs H Q E h => ?_) (fun cdv A outer s H vs Q E hr h => ?_)
  · obtain ⟨a, b, rfl, _⟩ := h
    rfl
  · obtain ⟨p, xs, rfl, hp, hl, q⟩ := h
    refine ⟨_, (pss_cons (ps_if (pt_cmpR op_gt (pe_callB call_len rfl T.f_len boot_len (pa_cons (pv 0) pa_nil)) (pe_globI rfl T.c_LIMIT) (nomark _)) (pss_one ps_never) pss_nil)
      (pss_one (ps_ret (pv 0)))), ?_⟩
    refine ⟨_, rfl, _, xs.length, rfl, .inr ⟨_, SqT.of hp, rfl⟩, _, _, rfl, rfl, _, rfl, ?_⟩
    rw [decide_eq_false (by omega)]
    exact iteF ⟨_, rfl, q⟩
/-! meet -/
abbrev s_meet : Stmt := (top 23)
abbrev N_meet : List Str := ["one", "other", "item"]
abbrev P_meet : List Str := ["one", "other"]
theorem sc_meet : FnScope N_meet P_meet (defScope s_meet) := ⟨rfl, rfl, rfl, by decide +kernel, rfl, by decide +kernel, by decide +kernel⟩

def spMeet (K : PySem.W.Frag) : Sp := fun vs H Q _ => ∃ (a b : Addr) (xs ys : List Str), vs = [.ref a, .ref b] ∧ H a = some (.tup (xs.map V.str)) ∧ H b = some (.lst (ys.map V.str)) ∧ xs.length ≤ 1000 ∧
  ∀ H', Same H H' → Q (.bl (xs.any fun x => decide (x ∈ ys))) H'
theorem ok_meet (T : Txt K mg) {f : Addr} (F : FnT K "meet" "meet" s_meet f) : FnR P w K mg base CX0 1 f (spMeet K) := by
  refine F.ok sc_meet (fun _ _ _ _ _ _ us hl => match us, hl with | [_, _], _ => rfl) (fun vs H Q E h => ?_) (fun cdv A outer s H vs Q E hr h => ?_)
  · obtain ⟨a, b, xs, ys, rfl, _⟩ := h
    rfl
  · obtain ⟨a, b, xs, ys, rfl, ha, hb, hl, q⟩ := h
    refine ⟨_, (pss_one (ps_ret (pe_callB (cr_any rfl) rfl T.f_any boot_any (pa_cons (pe_lc rfl sc_meet.nd (pi_tup (pv 0)) (blkOk_by (own := [("item", 2)]) (N := N_meet) (sc := defScope s_meet) (by decide +kernel)) (fun _ _ _ _ _ => (pg_name (i := 2) sc_meet.nd rfl (Or.inl rfl))) (fun _ _ _ _ _ => pts_nil) (fun _ _ _ _ _ => (pe_cmpR (op_in_seq' (K := K) rfl) (pv 2) (pv 1) (by rfl)))) pa_nil)))), ?_⟩
    refine ⟨_, rfl, a, rfl, ⟨_, SqT.of ha⟩, fun D hD => ?_⟩
    refine lcV (walk_tup (K := K) (a := a) (xs := xs.map V.str)) xs (by simp) (fun _ => true) (fun x => .bl (decide (x ∈ ys))) hD (by omega) (fun H' S => SqT.of (S _ _ ha)) ?_ ?_
    · rintro i z x H1 H' K4 K3 hz S hA ⟨rfl, hx⟩ k1 k2
      rw [List.getElem?_map, hz] at hx
      cases hx
      refine ⟨rfl, ?_⟩
      refine ⟨_, rfl, _, rfl, b, _, rfl, .inl (SqL.of (S _ _ hb)), rfl, flatS _, ?_⟩
      show K4 (V.bl (inV (.str z) (ys.map V.str))) H'
      rw [inV_str]
      exact k1 rfl _ (Same.refl _)
    · intro H' S hD'
      rw [filter_all] at hD'
      refine ⟨D, xs.map fun x => decide (x ∈ ys), rfl, SqL.of (by rw [hD', List.map_map]; rfl), ?_⟩
      rw [List.any_map]
      exact q H' S
/-! check_known -/
abbrev s_check_known : Stmt := (top 22)
abbrev N_check_known : List Str := ["kinds", "names", "name"]
abbrev P_check_known : List Str := ["kinds", "names"]
theorem sc_check_known : FnScope N_check_known P_check_known (defScope s_check_known) := ⟨rfl, rfl, rfl, by decide +kernel, rfl, by decide +kernel, by decide +kernel⟩

def spKnown (K : PySem.W.Frag) : Sp := fun vs H Q _ => ∃ (a b : Addr) (ks ns : List Str), vs = [.ref a, .ref b] ∧ H a = some (.tup (ks.map V.str)) ∧ H b = some (.lst (ns.map V.str)) ∧ (∀ n ∈ ns, n ∈ ks) ∧ Q .non H
theorem ok_check_known (T : Txt K mg) {f : Addr} (F : FnT K "check_known" "check_known" s_check_known f) : FnR P w K mg base CX0 1 f (spKnown K) := by
  refine F.ok sc_check_known (fun _ _ _ _ _ _ us hl => match us, hl with | [_, _], _ => rfl) (fun vs H Q E h => ?_) (fun cdv A outer s H vs Q E hr h => ?_)
  · obtain ⟨a, b, xs, ys, rfl, _⟩ := h
    rfl
  · obtain ⟨a, b, ks, ns, rfl, ha, hb, hm, q⟩ := h
    refine ⟨_, (pss_one (ps_for PassesOwn.never rfl (pi_list (pv 1)) (pg_name (i := 2) sc_check_known.nd rfl (Or.inl rfl)) (pss_one (ps_if (pt_cmpR op_notIn_seq (pv 2) (pv 0) (by rfl)) (pss_one ps_never) pss_nil)))), ?_⟩
    refine ⟨_, rfl, b, rfl, ⟨_, SqL.of hb⟩, ?_⟩
    refine for_it (walk_list (K := K) (a := b) (xs := ns.map V.str)) (fun i σ H' => H' = H ∧ ∃ v, σ = [some (.ref a), some (.ref b), v]) ⟨rfl, none, rfl⟩ (fun i σ H' _ p => by rw [p.1]; exact SqL.of hb) ?_ ?_
    · rintro i x σ _ H' hi ⟨rfl, v, rfl⟩ ⟨rfl, hx⟩
      rw [List.getElem?_map] at hx
      obtain ⟨z, hz, rfl⟩ := Option.map_eq_some_iff.mp hx
      refine ⟨_, rfl, _, rfl, a, _, rfl, .inr (SqT.of ha), rfl, flatS _, _, rfl, ?_⟩
      show (if (!inV (.str z) (ks.map V.str)) = true then _ else _)
      rw [inV_str, decide_eq_true (hm z (List.mem_of_getElem? hz))]
      exact iteF ⟨rfl, _, rfl⟩
    · rintro σ H' ⟨rfl, v, rfl⟩
      exact q
/-! is_name -/
abbrev s_is_name : Stmt := (top 16)
abbrev N_is_name : List Str := ["value", "letter"]
abbrev P_is_name : List Str := ["value"]
theorem sc_is_name : FnScope N_is_name P_is_name (defScope s_is_name) := ⟨rfl, rfl, rfl, by decide +kernel, rfl, by decide +kernel, by decide +kernel⟩

def spName : Sp := fun vs H Q _ => ∃ z, vs = [.str z] ∧ nameOk z ∧ ∀ H', Same H H' → Q (.bl true) H'
theorem ok_is_name (T : Txt K mg) {f : Addr} (F : FnT K "is_name" "is_name" s_is_name f) : FnR P w K mg base CX0 1 f spName := by
  refine F.ok sc_is_name (fun _ _ _ _ _ _ us hl => match us, hl with | [_], _ => rfl) (fun vs H Q E h => ?_) (fun cdv A outer s H vs Q E hr h => ?_)
  · obtain ⟨z, rfl, _⟩ := h
    rfl
  · obtain ⟨z, rfl, ⟨h1, h2, h3⟩, q⟩ := h
    refine ⟨_, (pss_cons (ps_if (PW.pt (pw_or (pt_not (pt_val (pe_callB call_isi rfl T.f_isinstance boot_isinstance (pa_cons (pv 0) (pa_cons (pe_bltn (v := .ty "str") (by rfl) T.f_str boot_str rfl) pa_nil))))) (pw_or1 (pt_not (pt_chain op_lt op_le pe_int (pe_callB call_len rfl T.f_len boot_len (pa_cons (pv 0) pa_nil)) (pe_globI rfl T.c_LONGEST)))))) (pss_one (ps_ret pe_bl)) pss_nil)
      (pss_one (ps_ret (pe_callB (cr_all rfl) rfl T.f_all boot_all (pa_cons (pe_lc rfl sc_is_name.nd (pi_str (pv 0)) (blkOk_by (own := [("letter", 1)]) (N := N_is_name) (sc := defScope s_is_name) (by decide +kernel)) (fun _ _ _ _ _ => (pg_name (i := 1) sc_is_name.nd rfl (Or.inl rfl))) (fun _ _ _ _ _ => pts_nil) (fun _ _ _ _ _ => (pe_cmpR op_in_sign (pv 1) (pe_globS rfl T.c_LETTERS) (by rfl)))) pa_nil))))), ?_⟩
    have line : (6 : Nat) ≤ sizeLine := by decide
    refine ⟨_, rfl, _, _, _, _, true, rfl, .ty "str", .base (.str z), kit_ty (by decide +kernel), _, rfl, ?_⟩
    refine iteF ⟨_, rfl, _, z.length, rfl, ⟨Nat.le_trans h2 line, rfl⟩, _, _, rfl, rfl, _, rfl, ?_⟩
    rw [decide_eq_true (by omega)]
    refine iteT ⟨_, _, rfl, rfl, _, rfl, ?_⟩
    rw [decide_eq_true (by omega)]
    refine iteF ?_
    refine ⟨_, rfl, z, rfl, fun D hD => ?_⟩
    refine lcV (walk_str (z := z)) z.cps.toList (by simp) (fun _ => true) (fun _ => .bl true) hD (by
      have e : z.cps.toList.length = z.length := rfl
      omega) (fun H' S => trivial) ?_ ?_
    · rintro i c x H1 H' K4 K3 hz S hA ⟨rfl, c', hc, rfl⟩ k1 k2
      have ec : c' = c := by
        rw [← Array.getElem?_toList, hz] at hc
        exact (Option.some.inj hc).symm
      subst ec
      refine ⟨rfl, ?_⟩
      refine ⟨_, rfl, _, _, rfl, rfl, ?_⟩
      rw [decide_eq_true (show c' ∈ ("abcdefghijklmnopqrstuvwxyz" : Str).cps.toList from h3 _ (List.mem_of_getElem? hz))]
      exact k1 rfl _ (Same.refl _)
    · intro H' S hD'
      rw [filter_all] at hD'
      refine ⟨D, z.cps.toList.map fun _ => true, rfl, SqL.of (by rw [hD', List.map_map]; rfl), ?_⟩
      have e : (z.cps.toList.map fun _ => true).all id = true := by
        rw [List.all_map]
        exact List.all_eq_true.mpr fun _ _ => rfl
      rw [e]
      exact q H' S
end
end Un

/-! ## D3 -/
set_option Elab.async false
set_option linter.all false
set_option maxRecDepth 100000
set_option maxHeartbeats 4000000
namespace Un
open PySem PySem.Spec PyProof.Rows L2 StX
section
variable {P : Program} {w : World} {K : PySem.W.Frag} {mg : Str → Option Value} {base : Heap}
/-! check_kinds -/
abbrev s_check_kinds : Stmt := (top 20)
abbrev N_check_kinds : List Str := ["kinds", "at", "kind"]
abbrev P_check_kinds : List Str := ["kinds"]
theorem sc_check_kinds : FnScope N_check_kinds P_check_kinds (defScope s_check_kinds) := ⟨rfl, rfl, rfl, by decide +kernel, rfl, by decide +kernel, by decide +kernel⟩

def spCkKinds (K : PySem.W.Frag) : Sp := fun vs H Q _ => ∃ (a : Addr) (ks : List Str), vs = [.ref a] ∧ SqL K H a (ks.map V.str) ∧ ks.Nodup ∧ (∀ k ∈ ks, nameOk k) ∧ 0 < ks.length ∧ ks.length ≤ 12 ∧ ∀ H', Same H H' → Q .non H'
theorem SqL.mono {K : PySem.W.Frag} {H H' : Hp} {a : Addr} {xs : List V} (s : Same H H') (h : SqL K H a xs) : SqL K H' a xs := SqB.mono (k := true) s h
theorem SqT.mono {K : PySem.W.Frag} {H H' : Hp} {a : Addr} {xs : List V} (s : Same H H') (h : SqT K H a xs) : SqT K H' a xs := SqB.mono (k := false) s h
theorem ok_check_kinds (T : Txt K mg) {f : Addr} (F : FnT K "check_kinds" "check_kinds" s_check_kinds f) (F_is_name : FnR P w K mg base CX0 1 (He.ga K "is_name") spName) : FnR P w K mg base CX0 2 f (spCkKinds K) := by
  refine F.ok sc_check_kinds (fun _ _ _ _ _ _ us hl => match us, hl with | [_], _ => rfl) (fun vs H Q E h => ?_) (fun cdv A outer s H vs Q E hr h => ?_)
  · obtain ⟨a, ks, rfl, _⟩ := h
    rfl
  · obtain ⟨a, ks, rfl, ha, nd, hn, h0, h12, q⟩ := h
    refine ⟨_, (pss_cons (ps_if (pt_not (pt_chain op_lt op_le pe_int (pe_callB call_len rfl T.f_len boot_len (pa_cons (pv 0) pa_nil)) (pe_globI rfl T.c_MOST_KINDS))) (pss_one ps_never) pss_nil)
      (pss_one (ps_for PassesOwn.never rfl (pi_enum rfl T.f_enumerate (pa_cons (pv 0) pa_nil)) (pg_tup (n := 2) rfl (pgs_cons (pg_name (i := 1) sc_check_kinds.nd rfl (Or.inl rfl)) (pgs_cons (pg_name (i := 2) sc_check_kinds.nd rfl (Or.inl rfl)) pgs_nil))) (pss_one (ps_if (PW.pt (pw_or (pt_not (pt_val (pe_callR F_is_name (hr.mono (by decide)) rfl T.m_is_name T.k_is_name pass0 (pa_cons (pv 2) pa_nil)))) (pw_or1 (pt_cmpR op_in_seq (pv 2) (pe_slice sl_list (pv 0) po_none (po_some (pv 1))) (by rfl))))) (pss_one ps_never) pss_nil))))), ?_⟩
    refine ⟨_, rfl, _, ks.length, rfl, .inl ⟨_, ha, by simp⟩, _, _, rfl, rfl, _, rfl, ?_⟩
    rw [decide_eq_true (by omega)]
    refine iteT ⟨_, _, rfl, rfl, _, rfl, ?_⟩
    rw [decide_eq_true (by omega)]
    refine iteF ⟨_, rfl, _, ks.map V.str, rfl, ha, ?_⟩
    refine for_it (walk_enum (K := K) (a := a) (xs := ks.map V.str)) (fun i σ H' => Same H H' ∧ ∃ u v, σ = [some (.ref a), u, v]) ⟨Same.refl _, none, none, rfl⟩ (fun i σ H' _ p => SqL.mono p.1 ha) ?_ ?_
    · rintro i x σ H1 H' hi ⟨S, u, v, rfl⟩ y
      obtain ⟨t, k, hk, rfl, ht, rfl⟩ := yp_enum y
      have hik : i < ks.length := by simpa using hi
      have hkm : k ∈ ks := List.mem_of_getElem? hk
      have S1 : Same H (upd H1 t (.tup [.int (i : Nat), .str k])) := S.trans (Smn ht)
      refine g2 (SqT.of upd_same) ?_
      refine ⟨_, rfl, k, rfl, hn k hkm, fun H2 S2 => ⟨true, rfl, ?_⟩⟩
      refine iteF ⟨_, rfl, _, rfl, _, rfl, _, rfl, a, _, rfl, SqL.mono (S1.trans S2) ha, fun p hp => ?_⟩
      have ct : cutV (ks.map V.str) none (some (i : Nat)) = (ks.take i).map V.str := by
        rw [cutV_take (by rw [List.length_map]; omega), List.map_take]
      rw [ct]
      have nin : k ∉ ks.take i := fun hm => by
        obtain ⟨j, hj, e⟩ := List.getElem_of_mem hm
        rw [List.length_take] at hj
        rw [List.getElem_take] at e
        have e2 : ks[i] = k := by
          rw [List.getElem?_eq_getElem hik] at hk
          exact Option.some.inj hk
        have := (List.getElem_inj nd).mp (e.trans e2.symm)
        omega
      refine ⟨p, _, rfl, .inl (SqL.of upd_same), rfl, flatS _, false, ?_, ?_⟩
      · show V.bl (inV (.str k) ((ks.take i).map V.str)) = V.bl false
        rw [inV_str, decide_eq_false nin]
      · refine iteF ⟨(S1.trans S2).trans (Smn hp), _, _, rfl⟩
    · rintro σ H' ⟨S, u, v, rfl⟩
      exact q H' S
end
end Un

/-! ## D4 -/
set_option Elab.async false
set_option linter.all false
set_option maxRecDepth 100000
set_option maxHeartbeats 4000000
namespace Un
open PySem PySem.Spec PyProof.Rows L2 StX
section
variable {P : Program} {w : World} {K : PySem.W.Frag} {mg : Str → Option Value} {base : Heap}
abbrev inK (T : Tb) (ss : List (Str × Int)) : Prop := ∀ s ∈ ss, s.1 ∈ T.kinds
/-! depths -/
abbrev s_depths : Stmt := (top 29)
abbrev N_depths : List Str := ["table", "syllables", "latest", "found", "kind", "count", "depth", "other"]
abbrev P_depths : List Str := ["table", "syllables"]
theorem sc_depths : FnScope N_depths P_depths (defScope s_depths) := ⟨rfl, rfl, rfl, by decide +kernel, rfl, by decide +kernel, by decide +kernel⟩

abbrev dsV (ds : List Nat) : List V := ds.map fun d => V.int (d : Nat)
def spDepths (K : PySem.W.Frag) : Sp := fun vs H Q _ => ∃ t a k T xs ss, vs = [.ref t, .ref a] ∧ TabAt K H t T ∧ SqB K k H a xs ∧ Syls H xs ss ∧ inK T ss ∧ ss.length ≤ 1000 ∧
  ∀ H' p ds, Same H H' → H' p = some (.lst (dsV ds)) → DepOk T.fr ss ds → Q (.ref p) H'
/-- what the dict of the latest depths tells -/
structure Lat (kvs : List (Key × V)) (ss : List (Str × Int)) (ds : List Nat) : Prop where
  len : kvs.length ≤ ss.length
  num : ∀ k v, valV kvs (.inr k) = some v → ∃ m : Nat, v = .int (m : Nat) ∧ m ∈ ds
  top : ∀ k (m : Nat), valV kvs (.inr k) = some (.int (m : Nat)) → ∀ (j : Nat) x e, ss[j]? = some x → x.1 = k → ds[j]? = some e → e ≤ m
  has : ∀ (j : Nat) x, ss[j]? = some x → ∃ v, valV kvs (.inr x.1) = some v
def latN (kvs : List (Key × V)) (k : Str) : Nat := match valV kvs (.inr k) with
  | some (.int m) => m.toNat
  | _ => 0
theorem Lat.nil : Lat [] [] [] := ⟨Nat.le_refl _, fun k v h => (by rw [valV_nil] at h; cases h), fun k m h => (by rw [valV_nil] at h; cases h), fun j x h => by simp at h⟩
theorem Lat.put {fr : Str → Str → Bool} {kvs : List (Key × V)} {ss : List (Str × Int)} {ds : List Nat} (L : Lat kvs ss ds) (D : DepOk fr ss ds) {s : Str × Int} {d : Nat} (hi : fr s.1 s.1 = false)
    (h1 : ∀ (i : Nat) x e, ss[i]? = some x → fr x.1 s.1 = false → ds[i]? = some e → e < d) : Lat (putK kvs (.inr s.1) (.int (d : Nat))) (ss ++ [s]) (ds ++ [d]) := by
  have inj : ∀ {a b : Str}, (Sum.inr a : Key) = Sum.inr b → a = b := fun h => Sum.inr.inj h
  refine ⟨?_, fun k v h => ?_, fun k m h j x e hx hk he => ?_, fun j x hx => ?_⟩
  · have := length_putK kvs (.inr s.1) (.int (d : Nat))
    have := L.len
    rw [List.length_append]
    simp
    omega
  · rw [valV_put] at h
    by_cases c : (Sum.inr k : Key) = Sum.inr s.1
    · rw [if_pos c] at h
      exact ⟨d, (Option.some.inj h).symm, by simp⟩
    · rw [if_neg c] at h
      obtain ⟨m, e, hm⟩ := L.num k v h
      exact ⟨m, e, List.mem_append_left _ hm⟩
  · rw [valV_put] at h
    have hj : j ≤ ss.length := by
      have := (List.getElem?_eq_some_iff.mp hx).1
      rw [List.length_append] at this
      simp at this
      omega
    by_cases c : (Sum.inr k : Key) = Sum.inr s.1
    · rw [if_pos c] at h
      have em : d = m := by
        have := V.int.inj (Option.some.inj h)
        omega
      subst em
      by_cases cj : j < ss.length
      · rw [List.getElem?_append_left cj] at hx
        rw [List.getElem?_append_left (by rw [D.len]; exact cj)] at he
        have := h1 j x e hx (by rw [hk, inj c]; exact hi) he
        omega
      · have ej : j = ds.length := by rw [D.len]; omega
        subst ej
        rw [List.getElem?_append_right (Nat.le_refl _), Nat.sub_self] at he
        have : d = e := by simpa using he
        omega
    · rw [if_neg c] at h
      by_cases cj : j < ss.length
      · rw [List.getElem?_append_left cj] at hx
        rw [List.getElem?_append_left (by rw [D.len]; exact cj)] at he
        exact L.top k m h j x e hx hk he
      · have ej : j = ss.length := by omega
        subst ej
        rw [List.getElem?_append_right (Nat.le_refl _), Nat.sub_self] at hx
        have : s = x := by simpa using hx
        subst this
        exact absurd (congrArg Sum.inr hk.symm) c
  · rw [valV_put]
    by_cases c : (Sum.inr x.1 : Key) = Sum.inr s.1
    · rw [if_pos c]
      exact ⟨_, rfl⟩
    · rw [if_neg c]
      by_cases cj : j < ss.length
      · rw [List.getElem?_append_left cj] at hx
        exact L.has j x hx
      · have hj : j ≤ ss.length := by
          have := (List.getElem?_eq_some_iff.mp hx).1
          rw [List.length_append] at this
          simp at this
          omega
        have ej : j = ss.length := by omega
        subst ej
        rw [List.getElem?_append_right (Nat.le_refl _), Nat.sub_self] at hx
        have : s = x := by simpa using hx
        subst this
        exact absurd rfl c
theorem ok_depths (T : Txt K mg) {f : Addr} (F : FnT K "depths" "depths" s_depths f) (F_Table_links : FnR P w K mg base CX0 1 (He.ma K (He.ga K "Table") "links") (spLinks K)) : FnR P w K mg base CX0 2 f (spDepths K) := by
  refine F.ok sc_depths (fun _ _ _ _ _ _ us hl => match us, hl with | [_, _], _ => rfl) (fun vs H Q E h => ?_) (fun cdv A outer s H vs Q E hr h => ?_)
  · obtain ⟨t, a, k, T', xs, ss, rfl, _⟩ := h
    rfl
  · obtain ⟨t, a, k, Tb, xs, ss, rfl, hT, ha, hS, hk, hl, q⟩ := h
    have exs : xs.length = ss.length := Pr.len hS
    obtain ⟨dx, fs, ks, ps, ln, kvs0, pvs, h1, h2, _⟩ := hT.ex
    refine ⟨_, (pss_cons (ps_set (i := 2) sc_depths.nd rfl (Or.inr rfl) pe_dnewK)
      (pss_cons (ps_set (i := 3) sc_depths.nd rfl (Or.inl rfl) (pe_lst pa_nil))
      (pss_cons (ps_for PassesOwn.never rfl (pi_seqB (pv 1)) (pg_tup (n := 2) rfl (pgs_cons (pg_name (i := 4) sc_depths.nd rfl (Or.inl rfl)) (pgs_cons (pg_name (i := 5) sc_depths.nd rfl (Or.inl rfl)) pgs_nil))) (pss_cons (ps_set (i := 6) sc_depths.nd rfl (Or.inl rfl) (pe_op op_add pe_int (pe_callBK (cr_maxD rfl) rfl T.f_max boot_max (pa_cons (pe_lc rfl sc_depths.nd (pi_tup (pe_methR (pv 0) T.cl_Table T.me_Table_links F_Table_links (hr.mono (by decide)) pass0 (pa_cons (pv 4) pa_nil))) (blkOk_by (own := [("other", 7)]) (N := N_depths) (sc := defScope s_depths) (by decide +kernel)) (fun _ _ _ _ _ => (pg_name (i := 7) sc_depths.nd rfl (Or.inl rfl))) (fun _ _ _ _ _ => pts_one (pt_cmp (pc_din (hu_of hr) (pv 7) (pv 2)))) (fun _ _ _ _ _ => (pe_dget (hu_of hr) (pv 2) (pv 7) (fun _ _ => rfl)))) pa_nil) (pk_cons (pe_un un_neg pe_int) pk_nil))))
      (pss_cons (ps_dput (hu_of hr) (pv 2) (pv 4) (pv 6) rfl)
      (pss_one (ps_expr (pe_bm PySem.F.plainAttrs_list PySem.F.slot_list_append PySem.F.type_list_append mt_append (pv 3) (pa_cons (pv 6) pa_nil)))))))
      (pss_one (ps_ret (pv 3)))))), ?_⟩
    intro L hL
    refine ⟨Nat.zero_le _, fun G hG => ?_⟩
    have hLG : L ≠ G := ne_of_none upd_same hG
    have hG0 : H G = none := by
      rw [upd_ne (Ne.symm hLG)] at hG
      exact hG
    refine ⟨_, rfl, a, k, rfl, ⟨xs, SqB.mono ((Smn hL).trans (Smn hG)) ha⟩, ?_⟩
    refine for_it (walk_seqB (K := K) (k := k) (a := a) (xs := xs)) (fun i σ H' => Same H H' ∧ ∃ v4 v5 v6 kvs ds, σ = [some (.ref t), some (.ref a), some (.ref L), some (.ref G), v4, v5, v6, none] ∧ H' L = some (.dK kvs) ∧ H' G = some (.lst (dsV ds)) ∧ DepOk Tb.fr (ss.take i) ds ∧ Lat kvs (ss.take i) ds)
      ⟨(Smn hL).trans (Smn hG), none, none, none, [], [], rfl, by rw [upd_ne hLG]; exact upd_same, upd_same, DepOk.nil, Lat.nil⟩ (fun i σ H' _ p => SqB.mono p.1 ha) ?_ ?_
    · rintro i x σ H1 H' hi ⟨S, v4, v5, v6, kvs, ds, rfl, eL, eG, D, La⟩ y
      obtain ⟨z, hz, ⟨b, rfl, hb⟩, rfl⟩ := yat_pair hS y
      refine g2 (SqT.of (S _ _ hb)) ?_
      have hzm : z ∈ ss := List.mem_of_getElem? hz
      have hT1 := hT.mono S
      refine ⟨_, rfl, t, dx, fs, rfl, S _ _ h1, h2, _, rfl, t, z.1, Tb, rfl, hT1, hk z hzm, fun la hla => ?_⟩
      refine ⟨la, rfl, ⟨_, SqT.of hla⟩, fun C hC => ?_⟩
      refine lcV (walk_tup (K := K) (a := la) (xs := (Tb.links z.1).map V.str)) (Tb.links z.1) (by simp) (fun o => (valV kvs (.inr o)).isSome) (fun o => .int ((latN kvs o : Nat) : Int)) hC ?_ (fun H2 S2 => SqT.of (S2 _ _ hla)) ?_ ?_
      · have := hT.ok.few
        have : (Tb.links z.1).length ≤ Tb.kinds.length := List.length_filter_le _ _
        omega
      · rintro j o x2 H2 H3 K4 K3 ho S2 hA y2 k1 k2
        obtain ⟨o', ho', rfl, rfl⟩ := yat_map y2
        have : o' = o := Option.some.inj (ho'.symm.trans ho)
        subst this
        refine ⟨rfl, ?_⟩
        have e2 := S2 _ _ eL
        refine ⟨_, rfl, _, rfl, L, _, rfl, DGet.k (k := Sum.inr o') e2, _, rfl, ?_⟩
        cases hv : valV kvs (Sum.inr o') with
        | none => exact k2 (by rw [hv]; rfl) _ (Same.refl _)
        | some v =>
          obtain ⟨m, em, _⟩ := La.num o' v hv
          refine ⟨_, rfl, _, rfl, L, v, rfl, by rw [← hv]; exact DGet.k (k := Sum.inr o') e2, ?_⟩
          have : v = .int ((latN kvs o' : Nat) : Int) := by
            unfold latN
            rw [hv, em]
            simp
          rw [this]
          exact k1 (by rw [hv]; rfl) _ (Same.refl _)
      · intro H2 S2 eC
        have SS := S.trans S2
        have e2 := S2 _ _ eL
        have e3 := S2 _ _ eG
        have hi' : i < ss.length := by omega
        have tk : ss.take (i + 1) = ss.take i ++ [z] := take_snoc hz
        have eC' : H2 C = some (.lst ((((Tb.links z.1).filter fun o => (valV kvs (.inr o)).isSome).map fun o => ((latN kvs o : Nat) : Int)).map V.int)) := by
          rw [eC, List.map_map]
          rfl
        have lv : ∀ k v, valV kvs (.inr k) = some v → v = .int ((latN kvs k : Nat) : Int) ∧ latN kvs k ∈ ds := fun k v hv => by
          obtain ⟨m, em, hm⟩ := La.num k v hv
          have : latN kvs k = m := by
            unfold latN
            rw [hv, em]
            simp
          rw [this]
          exact ⟨em, hm⟩
        have key : ∀ e : Int, (((((Tb.links z.1).filter fun o => (valV kvs (.inr o)).isSome).map fun o => ((latN kvs o : Nat) : Int)) = [] ∧ e = -1) ∨ (e ∈ (((Tb.links z.1).filter fun o => (valV kvs (.inr o)).isSome).map fun o => ((latN kvs o : Nat) : Int)) ∧ ∀ y ∈ (((Tb.links z.1).filter fun o => (valV kvs (.inr o)).isSome).map fun o => ((latN kvs o : Nat) : Int)), y ≤ e)) → ∃ d : Nat, 1 + e = (d : Int) ∧ (∀ (i' : Nat) x e, (ss.take i)[i']? = some x → Tb.fr x.1 z.1 = false → ds[i']? = some e → e < d) ∧ ∀ e, d = e + 1 → e ∈ ds := fun e he => by
          have low : ∀ (i' : Nat) x e', (ss.take i)[i']? = some x → Tb.fr x.1 z.1 = false → ds[i']? = some e' → ((latN kvs x.1 : Nat) : Int) ∈ (((Tb.links z.1).filter fun o => (valV kvs (.inr o)).isSome).map fun o => ((latN kvs o : Nat) : Int)) ∧ e' ≤ latN kvs x.1 := fun i' x e' hx hf he' => by
            obtain ⟨v, hv⟩ := La.has i' x hx
            have hxm : x.1 ∈ Tb.kinds := hk x (List.mem_of_mem_take (List.mem_of_getElem? hx))
            refine ⟨List.mem_map.mpr ⟨x.1, List.mem_filter.mpr ⟨Tb.mem_links.mpr ⟨hxm, by rw [Tb.fr_comm]; exact hf⟩, by rw [hv]; rfl⟩, rfl⟩, ?_⟩
            exact La.top x.1 (latN kvs x.1) (by rw [hv, ← (lv _ _ hv).1]) i' x e' hx rfl he'
          rcases he with ⟨h0, rfl⟩ | ⟨hm, hmax⟩
          · refine ⟨0, rfl, fun i' x e' hx hf he' => ?_, fun e h => by omega⟩
            have := (low i' x e' hx hf he').1
            rw [h0] at this
            cases this
          · obtain ⟨o, ho, rfl⟩ := List.mem_map.mp hm
            refine ⟨latN kvs o + 1, by omega, fun i' x e' hx hf he' => ?_, fun e h => ?_⟩
            · obtain ⟨l1, l2⟩ := low i' x e' hx hf he'
              have := hmax _ l1
              omega
            · have he2 : e = latN kvs o := by omega
              rw [he2]
              obtain ⟨v, hv⟩ := Option.isSome_iff_exists.mp (List.mem_filter.mp ho).2
              exact (lv o v hv).2
        refine ⟨1, rfl, C, _, .int (-1), rfl, rfl, SqL.of eC', fun e0 => ?_, fun e h1 h2 => ?_⟩
        · obtain ⟨d, ed, c1, c2⟩ := key _ (.inl ⟨e0, rfl⟩)
          refine ⟨1, _, rfl, rfl, ?_⟩
          show gName 6 (V.int (1 + _)) _ _ _
          rw [ed]
          have dlen : ds.length = i := by
            rw [D.len, List.length_take]
            omega
          have klen : kvs.length ≤ i := by
            have := La.len
            rw [List.length_take] at this
            omega
          have e4 : (upd H2 L (.dK (putK kvs (.inr z.1) (.int (d : Int))))) G = some (.lst (dsV ds)) := by
            rw [upd_ne (Ne.symm hLG)]
            exact e3
          refine ⟨_, rfl, _, rfl, _, rfl, L, _, rfl, DPut.k (k := Sum.inr z.1) e2 (line5 (by omega)), ?_⟩
          refine ⟨_, rfl, tyL e4, _, rfl, G, dsV ds, _, rfl, rfl, e4, line5 (by rw [List.length_map]; omega), ?_⟩
          refine ⟨fun b' o' e' => ?_, _, _, _, putK kvs (.inr z.1) (.int (d : Nat)), ds ++ [d], rfl, ?_, ?_, ?_, ?_⟩
          · have n1 : b' ≠ L := ne_of_none e' hL
            have n2 : b' ≠ G := ne_of_none e' hG0
            rw [upd_ne n2, upd_ne n1]
            exact SS _ _ e'
          · rw [upd_ne hLG]
            exact upd_same
          · rw [upd_same]
            unfold dsV
            rw [List.map_append]
            rfl
          · rw [tk]
            exact D.snoc c1 c2
          · rw [tk]
            exact La.put D (hT.ok.irr _) c1
        · obtain ⟨d, ed, c1, c2⟩ := key _ (.inr ⟨h1, h2⟩)
          refine ⟨1, _, rfl, rfl, ?_⟩
          show gName 6 (V.int (1 + _)) _ _ _
          rw [ed]
          have dlen : ds.length = i := by
            rw [D.len, List.length_take]
            omega
          have klen : kvs.length ≤ i := by
            have := La.len
            rw [List.length_take] at this
            omega
          have e4 : (upd H2 L (.dK (putK kvs (.inr z.1) (.int (d : Int))))) G = some (.lst (dsV ds)) := by
            rw [upd_ne (Ne.symm hLG)]
            exact e3
          refine ⟨_, rfl, _, rfl, _, rfl, L, _, rfl, DPut.k (k := Sum.inr z.1) e2 (line5 (by omega)), ?_⟩
          refine ⟨_, rfl, tyL e4, _, rfl, G, dsV ds, _, rfl, rfl, e4, line5 (by rw [List.length_map]; omega), ?_⟩
          refine ⟨fun b' o' e' => ?_, _, _, _, putK kvs (.inr z.1) (.int (d : Nat)), ds ++ [d], rfl, ?_, ?_, ?_, ?_⟩
          · have n1 : b' ≠ L := ne_of_none e' hL
            have n2 : b' ≠ G := ne_of_none e' hG0
            rw [upd_ne n2, upd_ne n1]
            exact SS _ _ e'
          · rw [upd_ne hLG]
            exact upd_same
          · rw [upd_same]
            unfold dsV
            rw [List.map_append]
            rfl
          · rw [tk]
            exact D.snoc c1 c2
          · rw [tk]
            exact La.put D (hT.ok.irr _) c1
    · rintro σ H' ⟨S, v4, v5, v6, kvs, ds, rfl, eL, eG, D, La⟩
      rw [exs, List.take_length] at D
      exact ⟨_, rfl, q H' G ds S eG D⟩
end
end Un

/-! ## D5 -/
set_option Elab.async false
set_option linter.all false
set_option maxRecDepth 100000
set_option maxHeartbeats 4000000
namespace Un
open PySem PySem.Spec PyProof.Rows L2 StX
section
variable {P : Program} {w : World} {K : PySem.W.Frag} {mg : Str → Option Value} {base : Heap}
/-! layers_of -/
abbrev s_layers_of : Stmt := (top 30)
abbrev N_layers_of : List Str := ["table", "syllables", "found", "depth", "syllable"]
abbrev P_layers_of : List Str := ["table", "syllables"]
theorem sc_layers_of : FnScope N_layers_of P_layers_of (defScope s_layers_of) := ⟨rfl, rfl, rfl, by decide +kernel, rfl, by decide +kernel, by decide +kernel⟩

def spLayers (K : PySem.W.Frag) : Sp := fun vs H Q _ => ∃ t a k T xs ss, vs = [.ref t, .ref a] ∧ TabAt K H t T ∧ SqB K k H a xs ∧ Syls H xs ss ∧ inK T ss ∧ ss.length ≤ 1000 ∧
  ∀ H' p ls LL, Same H H' → H' p = some (.tup ls) → Paired (LayAt H') ls LL → LL.length ≤ 1000 → Eqv T.fr ss LL.flatten → LL.flatten.Perm ss → Q (.ref p) H'
theorem ok_layers_of (T : Txt K mg) {f : Addr} (F : FnT K "layers_of" "layers_of" s_layers_of f) (F_depths : FnR P w K mg base CX0 2 (He.ga K "depths") (spDepths K)) : FnR P w K mg base CX0 3 f (spLayers K) := by
  refine F.ok sc_layers_of (fun _ _ _ _ _ _ us hl => match us, hl with | [_, _], _ => rfl) (fun vs H Q E h => ?_) (fun cdv A outer s H vs Q E hr h => ?_)
  · obtain ⟨t, a, k, T', xs, ss, rfl, _⟩ := h
    rfl
  · obtain ⟨t, a, k, Tb, xs, ss, rfl, hT, ha, hS, hk, hl, q⟩ := h
    have exs : xs.length = ss.length := Pr.len hS
    refine ⟨_, (pss_cons (ps_set (i := 2) sc_layers_of.nd rfl (Or.inr rfl) pe_dnewK)
      (pss_cons (ps_for PassesOwn.never rfl (pi_zipB rfl T.f_zip (pa_cons (pe_callR F_depths (hr.mono (by decide)) rfl T.m_depths T.k_depths pass0 (pa_cons (pv 0) (pa_cons (pv 1) pa_nil))) (pa_cons (pv 1) pa_nil))) (pg_tup (n := 2) rfl (pgs_cons (pg_name (i := 3) sc_layers_of.nd rfl (Or.inl rfl)) (pgs_cons (pg_name (i := 4) sc_layers_of.nd rfl (Or.inl rfl)) pgs_nil))) (pss_one (ps_dput (hu_of hr) (pv 2) (pv 3) (pe_tup (pa_star (pe_dget2 (hu_of hr) (pv 2) (pv 3) (pe_tup pa_nil) (by exact ⟨rfl, rfl, rfl, rfl⟩)) (pa_cons (pv 4) pa_nil))) rfl)))
      (pss_one (ps_ret (pe_callTy call_tuple_of rfl T.f_tuple boot_tuple (pa_cons (pe_lc rfl sc_layers_of.nd (pi_range1 rfl T.f_range (pa_cons (pe_callB call_lenD rfl T.f_len boot_len (pa_cons (pv 2) pa_nil)) pa_nil)) (blkOk_by (own := [("depth", 3)]) (N := N_layers_of) (sc := defScope s_layers_of) (by decide +kernel)) (fun _ _ _ _ _ => (pg_name (i := 3) sc_layers_of.nd rfl (Or.inl rfl))) (fun _ _ _ _ _ => pts_nil) (fun _ _ _ _ _ => (pe_callTy (call_tuple_of' (K := K) rfl) rfl T.f_tuple boot_tuple (pa_cons (pe_callB (cr_srtT' (K := K) rfl hr.units65) rfl T.f_sorted boot_sorted (pa_cons (pe_dget (hu_of hr) (pv 2) (pv 3) (fun _ _ => rfl)) pa_nil)) pa_nil)))) pa_nil)))))), ?_⟩
    intro L hL
    refine ⟨_, rfl, _, rfl, t, a, k, Tb, xs, ss, rfl, hT.mono (Smn hL), SqB.mono (Smn hL) ha, hS.mono (Smt (Smn hL)), hk, hl, fun H1 G ds S1 eG D => ?_⟩
    have S0 : Same H H1 := (Smn hL).trans S1
    have dlen := D.len
    have eL1 : H1 L = some (.dK []) := S1 _ _ upd_same
    refine ⟨_, rfl, true, k, G, a, dsV ds, xs, rfl, SqL.of eG, SqB.mono S0 ha, ?_⟩
    refine for_it (walk_zipB (K := K) (k1 := true) (k2 := k) (a := G) (b := a) (xs := dsV ds) (ys := xs) (by rw [List.length_map]; omega)) (fun i σ H' => Same H H' ∧ H' G = some (.lst (dsV ds)) ∧ ∃ v3 v4 kvs, σ = [some (.ref t), some (.ref a), some (.ref L), v3, v4] ∧ H' L = some (.dK kvs) ∧ Fnd H' kvs ((ds.zip ss).take i))
      ⟨S0, eG, none, none, [], rfl, eL1, by rw [List.take_zero]; exact Fnd.nil _⟩ (fun i σ H' _ p => ⟨SqL.of p.2.1, SqB.mono p.1 ha⟩) ?_ ?_
    · rintro i x σ H2 H3 hi ⟨S, eG2, v3, v4, kvs, rfl, eL, Fd⟩ ⟨b, x1, x2, rfl, hb, rfl, e1, e2⟩
      have hi2 : i < ds.length := by
        rw [List.length_map] at hi
        exact hi
      have hi3 : i < ss.length := by omega
      have e1' : (dsV ds)[i]? = some x1 := e1
      have e2' : xs[i]? = some x2 := e2
      rw [List.getElem?_map, List.getElem?_eq_getElem hi2] at e1'
      have ex1 : V.int ((ds[i] : Nat) : Int) = x1 := Option.some.inj e1'
      subst ex1
      obtain ⟨z, hz, hzv⟩ := Pr.get hS e2'
      have ez : ss[i] = z := by
        rw [List.getElem?_eq_getElem hi3] at hz
        exact Option.some.inj hz
      have Sb := Smn (o := .tup [.int ((ds[i] : Nat) : Int), x2]) hb
      generalize hd : ds[i] = d at *
      refine g2 (SqT.of upd_same) ?_
      have eLb := Sb _ _ eL
      refine ⟨_, rfl, L, rfl, .inl ⟨kvs, .inl eLb⟩, _, rfl, Nat.zero_le _, fun p0 hp0 => ?_⟩
      have S3 := Sb.trans (Smn (o := .tup []) hp0)
      have Fd3 := Fd.mono (Smt S3)
      have eL3 := S3 _ _ eL
      -- what stands under d
      obtain ⟨o, ho, b0, vs0, eo, eb0, hs0⟩ : ∃ o, DGet (upd (upd H2 b (.tup [.int (d : Nat), x2])) p0 (.tup [])) L (.int (d : Nat)) o ∧ ∃ b0 vs0, o.getD (.ref p0) = .ref b0 ∧ (upd (upd H2 b (.tup [.int (d : Nat), x2])) p0 (.tup [])) b0 = some (.tup vs0) ∧
          Syls (upd (upd H2 b (.tup [.int (d : Nat), x2])) p0 (.tup [])) vs0 ((((ds.zip ss).take i).filter fun p => p.1 == d).map Prod.snd) := by
        refine ⟨_, DGet.k (k := kD d) eL3, ?_⟩
        by_cases c : d ∈ ((ds.zip ss).take i).map Prod.fst
        · obtain ⟨v, h1, b0, vs0, rfl, h2, h3⟩ := Fd3.get d c
          exact ⟨b0, vs0, by rw [h1]; rfl, h2, h3⟩
        · refine ⟨p0, [], by rw [Fd3.none c]; rfl, upd_same, ?_⟩
          have : (((ds.zip ss).take i).filter fun p => p.1 == d) = [] := List.filter_eq_nil_iff.mpr fun p hp => by
            intro z
            have e : p.1 = d := by simpa using z
            exact c (List.mem_map.mpr ⟨p, hp, e⟩)
          rw [this]
          exact .nil
      refine ⟨o, ho, b0, vs0, eo, .inl (SqT.of eb0), _, rfl, ?_⟩
      have hvl : vs0.length ≤ 1000 := by
        have h1 := Pr.len hs0
        have h2 : ((((ds.zip ss).take i).filter fun p => p.1 == d).map Prod.snd).length ≤ i := by
          rw [List.length_map]
          exact Nat.le_trans (List.length_filter_le _ _) (by rw [List.length_take]; omega)
        omega
      refine ⟨by rw [List.length_append]; exact Nat.le_of_lt (line5 (by simp; omega)), fun r hr => ?_⟩
      have S4 := S3.trans (Smn (o := .tup (vs0 ++ [x2])) hr)
      have eL4 := S4 _ _ eL
      have Fd4 := Fd.mono (Smt S4)
      have S5 := S.trans S4
      have lay : LayAt (upd (upd (upd H2 b (.tup [.int (d : Nat), x2])) p0 (.tup [])) r (.tup (vs0 ++ [x2]))) (.ref r) ((((ds.zip ss).take i).filter fun p => p.1 == d).map Prod.snd ++ [z]) :=
        ⟨r, _, rfl, upd_same, Pr.app (hs0.mono (Smt (Smn hr))) (Pr.one (hzv.mono (Smt S5)))⟩
      have klen := Fd4.len
      rw [List.length_take] at klen
      refine ⟨_, rfl, _, rfl, L, _, rfl, DPut.k (k := kD d) eL4 (line5 (by omega)), ?_⟩
      have nt : ∀ {H'' : Hp} {kv : List (Key × V)} {u : HO}, H'' L = some (.dK kv) → TupS H'' (upd H'' L u) := fun {H'' kv u} e b' xs' e' => by
        rw [upd_ne (fun z => by rw [z, e] at e'; cases e')]
        exact e'
      refine ⟨fun b' o' e' => ?_, ?_, _, _, putK kvs (kD d) (.ref r), rfl, upd_same, ?_⟩
      · rw [upd_ne (ne_of_none e' hL)]
        exact S5 _ _ e'
      · have : G ≠ L := ne_of eG2 eL (fun z => nomatch z)
        rw [upd_ne this]
        exact S4 _ _ eG2
      · have tk : (ds.zip ss).take (i + 1) = (ds.zip ss).take i ++ [(d, z)] := take_snoc (by rw [List.getElem?_eq_getElem (by rw [List.length_zip]; omega), List.getElem_zip, hd, ez])
        rw [tk]
        exact (Fd4.put lay).mono (nt eL4)
    · rintro σ H2 ⟨S, eG2, v3, v4, kvs, rfl, eL, Fd⟩
      have zl : (ds.zip ss).take (dsV ds).length = ds.zip ss := List.take_of_length_le (by rw [List.length_zip, List.length_map]; omega)
      rw [zl] at Fd
      have gap := Fd.gap D
      have klen := Fd.len
      rw [List.length_zip] at klen
      refine ⟨_, rfl, L, _, rfl, eL, ((kvs.length : Nat) : Int), rfl, by omega, by omega, fun C hC => ?_⟩
      refine lcP (walk_range (lo := 0) (n := ((kvs.length : Nat) : Int).toNat)) (List.range kvs.length) (by rw [List.length_range]; omega) (fun _ => true)
        (fun d v H' => ∃ l, l.Perm (((ds.zip ss).filter fun p => p.1 == d).map Prod.snd) ∧ LayAt H' v l) hC (by rw [List.length_range]; omega) (fun _ _ => trivial)
        (fun d v H' H'' S' ⟨l, h1, h2⟩ => ⟨l, h1, h2.mono (Smt S')⟩) (fun d v H' acc ys eD S' ⟨l, h1, h2⟩ => ⟨l, h1, h2.mono fun b' xs' e' => by rw [upd_ne (fun z => by rw [z, eD] at e'; cases e')]; exact e'⟩) ?_ ?_
      · rintro j d x H3 H4 K4 K3 hd S3 hA y k1 k2
        have ej : d = j := by
          by_cases c : j < kvs.length
          · rw [List.getElem?_range c] at hd
            exact (Option.some.inj hd).symm
          · rw [List.getElem?_eq_none (by rw [List.length_range]; omega)] at hd
            cases hd
        subst ej
        have dl : d < kvs.length := by
          have := (List.getElem?_eq_some_iff.mp hd).1
          rw [List.length_range] at this
          exact this
        obtain ⟨rfl, rfl⟩ := yrng y
        have Fd3 := Fd.mono (Smt S3)
        have e2 : (ds.zip ss).map Prod.fst = ds := by rw [List.map_fst_zip (by rw [D.len]; exact Nat.le_refl _)]
        obtain ⟨v, hv, b0, vs0, rfl, hb0, hs0⟩ := Fd3.get d (by rw [e2]; exact (gap d).mpr dl)
        refine ⟨rfl, ?_⟩
        have hcl : (((ds.zip ss).filter fun p => p.1 == d).map Prod.snd).length ≤ 1000 := by
          rw [List.length_map]
          exact Nat.le_trans (List.length_filter_le _ _) (by rw [List.length_zip]; omega)
        obtain ⟨bs, B⟩ := srtIn_syl hs0 (by omega)
        refine ⟨_, rfl, _, rfl, L, .ref b0, rfl, by rw [← hv]; exact DGet.k (k := kD d) (S3 _ _ eL), b0, vs0, bs, rfl, SqT.of hb0, B, fun p hp => ?_⟩
        refine ⟨p, _, rfl, .inl ⟨SqL.of upd_same, fun r hr => ?_⟩⟩
        have S4 := (Smn (o := .lst (srt bs)) hp).trans (Smn (o := .tup (srt bs)) hr)
        obtain ⟨l', h1, h2⟩ := srt_syl hs0 B
        exact k1 rfl _ _ S4 ⟨l', h1, r, srt bs, rfl, upd_same, h2.mono (Smt S4)⟩
      · intro H3 acc S3 eC hP
        rw [filter_all] at hP
        refine ⟨C, acc, rfl, .inl ⟨SqL.of eC, fun p hp => ?_⟩⟩
        obtain ⟨LL, l1, l2⟩ := pick_layers (n := 0) hP
        obtain ⟨l3, l4⟩ := layers_fn l2
        have ev := D.layers Tb.fr_comm (n := kvs.length) (fun d hd => (gap d).mp hd) (fun d => LL.getD d []) l4
        rw [← l3] at ev
        have hlen : LL.length ≤ 1000 := by
          have := Pr.len l2
          rw [List.length_range] at this
          omega
        have S4 := S3.trans (Smn (o := .tup acc) hp)
        exact q _ p acc LL (S.trans S4) upd_same (Paired.mapP l1 fun v l h => h.mono (Smt (Smn hp))) hlen ev.1 ev.2
/-! formed -/
abbrev s_formed : Stmt := (top 31)
abbrev N_formed : List Str := ["table", "short", "layer", "syllable"]
abbrev P_formed : List Str := ["table", "short"]
theorem sc_formed : FnScope N_formed P_formed (defScope s_formed) := ⟨rfl, rfl, rfl, by decide +kernel, rfl, by decide +kernel, by decide +kernel⟩

/-- a new tuple of syllables, as good as the given row -/
structure Ev (T : Tb) (ss rs : List (Str × Int)) : Prop where
  eqv : Eqv T.fr ss rs
  len : rs.length ≤ ss.length
  kin : inK T rs
theorem Ev.trans {T : Tb} {a b c : List (Str × Int)} (x : Ev T a b) (y : Ev T b c) : Ev T a c := ⟨x.eqv.trans y.eqv, Nat.le_trans y.len x.len, y.kin⟩
def spFormed (K : PySem.W.Frag) : Sp := fun vs H Q _ => ∃ t a T xs ss, vs = [.ref t, .ref a] ∧ TabAt K H t T ∧ SqL K H a xs ∧ Syls H xs ss ∧ inK T ss ∧ ss.length ≤ 1000 ∧
  ∀ H' p ys rs, Same H H' → H' p = some (.tup ys) → Syls H' ys rs → Ev T ss rs → Q (.ref p) H'
theorem ok_formed (T : Txt K mg) {f : Addr} (F : FnT K "formed" "formed" s_formed f) (F_layers_of : FnR P w K mg base CX0 3 (He.ga K "layers_of") (spLayers K)) : FnR P w K mg base CX0 4 f (spFormed K) := by
  refine F.ok sc_formed (fun _ _ _ _ _ _ us hl => match us, hl with | [_, _], _ => rfl) (fun vs H Q E h => ?_) (fun cdv A outer s H vs Q E hr h => ?_)
  · obtain ⟨t, a, T', xs, ss, rfl, _⟩ := h
    rfl
  · obtain ⟨t, a, Tb, xs, ss, rfl, hT, ha, hS, hk, hl, q⟩ := h
    refine ⟨_, (pss_one (ps_ret (pe_callTy call_tuple_of rfl T.f_tuple boot_tuple (pa_cons (pe_lc2 (vs1 := [3]) rfl sc_formed.nd (pi_tup (pe_callR F_layers_of (hr.mono (by decide)) rfl T.m_layers_of T.k_layers_of pass0 (pa_cons (pv 0) (pa_cons (pv 1) pa_nil)))) (blkOk_by (own := [("layer", 2), ("syllable", 3)]) (N := N_formed) (sc := defScope s_formed) (by decide +kernel)) (by decide) (fun _ _ _ _ _ => (pg_name (i := 2) sc_formed.nd rfl (Or.inl rfl))) (fun _ _ _ _ _ => pts_nil) (fun _ _ _ _ _ => (pi_tup' (K := K) rfl (pv 2))) (fun _ _ _ _ _ => (pg_name (i := 3) sc_formed.nd rfl (Or.inl rfl))) (fun _ _ _ _ _ => pts_nil) (fun _ _ _ _ _ => (pv 3))) pa_nil)))), ?_⟩
    refine ⟨_, rfl, _, rfl, t, a, true, Tb, xs, ss, rfl, hT, ha, hS, hk, hl, fun H1 p ls LL S1 ep hL hLL ev pm => ?_⟩
    refine ⟨p, rfl, ⟨_, SqT.of ep⟩, fun D hD => ?_⟩
    have fl : LL.flatten.length = ss.length := pm.length_eq
    -- the layers' own items
    obtain ⟨vss, v1, v2, v3⟩ : ∃ vss : List (List V), (∀ (i : Nat) x, ls[i]? = some x → ∃ b vs, x = .ref b ∧ vss[i]? = some vs ∧ H1 b = some (.tup vs)) ∧ Syls H1 vss.flatten LL.flatten ∧ vss.length = ls.length := by
      have key : ∀ {ls : List V} {LL : List (List (Str × Int))}, Paired (LayAt H1) ls LL → ∃ vss : List (List V), (∀ (i : Nat) x, ls[i]? = some x → ∃ b vs, x = .ref b ∧ vss[i]? = some vs ∧ H1 b = some (.tup vs)) ∧ Syls H1 vss.flatten LL.flatten ∧ vss.length = ls.length := by
        intro ls LL h
        induction h with
        | nil => exact ⟨[], fun i x h => by simp at h, .nil, rfl⟩
        | cons r t ih =>
          obtain ⟨vss, a1, a2, a3⟩ := ih
          obtain ⟨b, vs, rfl, hb, hs⟩ := r
          refine ⟨vs :: vss, fun i x h => ?_, ?_, congrArg Nat.succ a3⟩
          · cases i with
            | zero => exact ⟨b, vs, (Option.some.inj h).symm, rfl, hb⟩
            | succ i => exact a1 i x h
          · rw [List.flatten_cons, List.flatten_cons]
            exact Pr.app hs a2
      exact key hL
    have vl : vss.flatten.length ≤ 1000 := by
      rw [Pr.len v2, fl]
      exact hl
    have tfl : ∀ i, (vss.take i).flatten.length ≤ vss.flatten.length := fun i => by
      have : vss.flatten = (vss.take i).flatten ++ (vss.drop i).flatten := by rw [← List.flatten_append, List.take_append_drop]
      rw [this, List.length_append]
      exact Nat.le_add_right _ _
    have W0 := walk_tup (K := K) (a := p) (xs := ls)
    refine ⟨fun i m H => m = ls.length - i ∧ i ≤ ls.length ∧ Same H1 H ∧ H D = some (.lst ((vss.take i).flatten)), ⟨ls.length, rfl, Nat.zero_le _, Smn hD, upd_same⟩, ?_⟩
    rintro i m H2 ⟨rfl, hi, S2, eD⟩
    by_cases hlt : i < ls.length
    · refine .inr ⟨W0.goes i H2 hlt (SqT.of (S2 _ _ ep)), fun H' => Same H1 H' ∧ H' D = some (.lst ((vss.take (i + 1)).flatten)), fun H' n => ⟨ls.length - (i + 1), by omega, rfl, hlt, n.1, n.2⟩, fun x H' y => ?_⟩
      obtain ⟨rfl, hx⟩ := W0.yields i H2 x H' hlt (SqT.of (S2 _ _ ep)) y
      obtain ⟨b, vs, rfl, hv, hb⟩ := v1 i x hx
      have tk : vss.take (i + 1) = vss.take i ++ [vs] := take_snoc hv
      have W1 := walk_tup (K := K) (a := b) (xs := vs)
      refine ⟨rfl, ?_⟩
      refine ⟨_, rfl, b, rfl, ⟨_, SqT.of (S2 _ _ hb)⟩, ?_⟩
      refine ⟨fun j k H => k = vs.length - j ∧ j ≤ vs.length ∧ Same H1 H ∧ H D = some (.lst ((vss.take i).flatten ++ vs.take j)), ⟨vs.length, rfl, Nat.zero_le _, S2, by rw [List.take_zero, List.append_nil]; exact eD⟩, ?_⟩
      rintro j k H3 ⟨rfl, hj, S3, eD3⟩
      by_cases hlt2 : j < vs.length
      · refine .inr ⟨W1.goes j H3 hlt2 (SqT.of (S3 _ _ hb)), fun H' => Same H1 H' ∧ H' D = some (.lst ((vss.take i).flatten ++ vs.take (j + 1))), fun H' n => ⟨vs.length - (j + 1), by omega, rfl, hlt2, n.1, n.2⟩, fun x2 H' y2 => ?_⟩
        obtain ⟨rfl, hx2⟩ := W1.yields j H3 x2 H' hlt2 (SqT.of (S3 _ _ hb)) y2
        refine ⟨rfl, ?_⟩
        have len1 : ((vss.take i).flatten ++ vs.take j).length < sizeLine := by
          have h1 := tfl (i + 1)
          rw [tk, List.flatten_append, List.length_append] at h1
          have h2 : [vs].flatten.length = vs.length := by simp
          rw [h2] at h1
          refine line5 ?_
          rw [List.length_append, List.length_take]
          omega
        refine ⟨_, rfl, _, eD3, len1, fun b' o' e' => ?_, ?_⟩
        · rw [upd_ne (ne_of_none e' hD)]
          exact S3 _ _ e'
        · rw [upd_same, take_snoc hx2, List.append_assoc]
      · have ej : j = vs.length := by omega
        subst ej
        refine .inl ⟨W1.stops H3 (SqT.of (S3 _ _ hb)), S3, ?_⟩
        rw [eD3, tk, List.take_length, List.flatten_append]
        simp
    · have ei : i = ls.length := by omega
      subst ei
      refine .inl ⟨W0.stops H2 (SqT.of (S2 _ _ ep)), ?_⟩
      have hvl : vss.length ≤ ls.length := Nat.le_of_eq v3
      rw [List.take_of_length_le hvl] at eD
      refine ⟨D, _, rfl, .inl ⟨SqL.of eD, fun r hr => ?_⟩⟩
      have S3 := S2.trans (Smn (o := .tup vss.flatten) hr)
      exact q _ r _ _ (S1.trans S3) upd_same (v2.mono (Smt S3)) ⟨ev, by omega, fun s hs => hk s (pm.mem_iff.mp hs)⟩
end
end Un

/-! ## D6 -/
set_option Elab.async false
set_option linter.all false
set_option maxRecDepth 100000
set_option maxHeartbeats 4000000
namespace Un
open PySem PySem.Spec PyProof.Rows L2 StX
section
variable {P : Program} {w : World} {K : PySem.W.Frag} {mg : Str → Option Value} {base : Heap}
theorem ite_f {c : Bool} {A B : Prop} (hc : c = false) (h : B) : (if c = true then A else B) := by rw [hc]; exact h
theorem ite_t {c : Bool} {A B : Prop} (hc : c = true) (h : A) : (if c = true then A else B) := by rw [hc]; exact h
theorem Pr.erase {α β : Type} {F : α → β → Prop} : ∀ {xs : List α} {ys : List β} (i : Nat), Paired F xs ys → Paired F (xs.eraseIdx i) (ys.eraseIdx i)
  | _, _, _, .nil => .nil
  | _, _, 0, .cons _ t => t
  | _, _, i + 1, .cons r t => .cons r (Pr.erase i t)
theorem Pr.set {α β : Type} {F : α → β → Prop} : ∀ {xs : List α} {ys : List β} (i : Nat) {x : α} {y : β}, F x y → Paired F xs ys → Paired F (xs.set i x) (ys.set i y)
  | _, _, _, _, _, _, .nil => .nil
  | _, _, 0, _, _, h, .cons _ t => .cons h t
  | _, _, i + 1, _, _, h, .cons r t => .cons r (Pr.set i h t)
/-- a new thing written anew -/
theorem Sup {H H' : Hp} {p : Addr} {o : HO} (s : Same H H') (h : H p = none) : Same H (upd H' p o) := fun b u e => by rw [upd_ne (ne_of_none e h)]; exact s _ _ e
theorem Tup_lst {H : Hp} {p : Addr} {xs ys : List V} (h : H p = some (.lst xs)) : TupS H (upd H p (.lst ys)) := fun b zs e => by rw [upd_ne (fun z => by rw [z, h] at e; cases e)]; exact e
theorem Tup_dK {H : Hp} {p : Addr} {xs : List (Key × V)} {u : HO} (h : H p = some (.dK xs)) : TupS H (upd H p u) := fun b zs e => by rw [upd_ne (fun z => by rw [z, h] at e; cases e)]; exact e
/-! shortened -/
abbrev s_shortened : Stmt := (top 32)
abbrev N_shortened : List Str := ["table", "short", "syllables", "found", "kind", "count", "at"]
abbrev P_shortened : List Str := ["table", "short", "syllables"]
theorem sc_shortened : FnScope N_shortened P_shortened (defScope s_shortened) := ⟨rfl, rfl, rfl, by decide +kernel, rfl, by decide +kernel, by decide +kernel⟩

def spShort (K : PySem.W.Frag) : Sp := fun vs H Q _ => ∃ t a b T xs ys ss zs, vs = [.ref t, .ref a, .ref b] ∧ TabAt K H t T ∧ H a = some (.tup xs) ∧ Syls H xs ss ∧ H b = some (.tup ys) ∧ Syls H ys zs ∧ inK T ss ∧ inK T zs ∧ ss.length + zs.length ≤ 1000 ∧
  ∀ H' p us rs, Same H H' → H' p = some (.lst us) → Syls H' us rs → Ev T (ss ++ zs) rs → Q (.ref p) H'
theorem getI_snoc {α : Type} {l : List α} {x : α} : (l ++ [x])[l.length]? = some x := by simp
theorem ok_shortened (T : Txt K mg) {f : Addr} (F : FnT K "shortened" "shortened" s_shortened f) (F_melting_at : FnR P w K mg base CX0 2 (He.ga K "melting_at") (spMelt K)) : FnR P w K mg base CX0 3 f (spShort K) := by
  refine F.ok sc_shortened (fun _ _ _ _ _ _ us hl => match us, hl with | [_, _, _], _ => rfl) (fun vs H Q E h => ?_) (fun cdv A outer s H vs Q E hr h => ?_)
  · obtain ⟨t, a, b, T', xs, ys, ss, zs, rfl, _⟩ := h
    rfl
  · obtain ⟨t, a, b, Tb, xs, ys, ss, zs, rfl, hT, ha, hS, hb, hZ, ks, kz, hl, q⟩ := h
    refine ⟨_, (pss_cons (ps_set (i := 3) sc_shortened.nd rfl (Or.inl rfl) (pe_callTy call_list_of rfl T.f_list boot_list (pa_cons (pv 1) pa_nil)))
      (pss_cons (ps_for PassesOwn.never rfl (pi_tup (pv 2)) (pg_tup (n := 2) rfl (pgs_cons (pg_name (i := 4) sc_shortened.nd rfl (Or.inl rfl)) (pgs_cons (pg_name (i := 5) sc_shortened.nd rfl (Or.inl rfl)) pgs_nil))) (pss_cons (ps_set (i := 6) sc_shortened.nd rfl (Or.inl rfl) (pe_callR F_melting_at (hr.mono (by decide)) rfl T.m_melting_at T.k_melting_at pass0 (pa_cons (pv 0) (pa_cons (pv 3) (pa_cons (pv 4) pa_nil)))))
      (pss_cons (ps_if (pt_cmpR op_isN (pv 6) pe_non (nomark _)) (pss_cons (ps_expr (pe_bm PySem.F.plainAttrs_list PySem.F.slot_list_append PySem.F.type_list_append mt_append (pv 3) (pa_cons (pe_tup (pa_cons (pv 4) (pa_cons (pv 5) pa_nil))) pa_nil)))
      (pss_one (ps_set (i := 6) sc_shortened.nd rfl (Or.inl rfl) (pe_op op_sub (pe_callB call_len rfl T.f_len boot_len (pa_cons (pv 3) pa_nil)) pe_int)))) (pss_one (ps_asg (pe_tup (pa_cons (pv 4) (pa_cons (pe_op op_add (pe_ix ix_tup (pe_ix ix_list (pv 3) (pv 6) (fun _ _ => rfl)) pe_int (fun _ _ => rfl)) (pv 5)) pa_nil))) (pg_sub (pv 3) (pv 6) set_list))))
      (pss_one (ps_if (pt_cmpR op_eq (pe_ix ix_tup (pe_ix ix_list (pv 3) (pv 6) (fun _ _ => rfl)) pe_int (fun _ _ => rfl)) pe_int (nomark _)) (pss_one (ps_delL (pv 3) (pv 6))) pss_nil)))))
      (pss_one (ps_ret (pv 3))))), ?_⟩
    refine ⟨_, rfl, a, xs, rfl, .inr (SqT.of ha), fun G hG => ?_⟩
    refine ⟨_, rfl, b, rfl, ⟨_, SqT.of (Smn hG _ _ hb)⟩, ?_⟩
    refine for_it (walk_tup (K := K) (a := b) (xs := ys)) (fun i σ H' => Same H H' ∧ ∃ v4 v5 v6 us rs, σ = [some (.ref t), some (.ref a), some (.ref b), some (.ref G), v4, v5, v6] ∧ H' G = some (.lst us) ∧ Syls H' us rs ∧ Ev Tb (ss ++ zs.take i) rs)
      ⟨Smn hG, none, none, none, xs, ss, rfl, upd_same, hS.mono (Smt (Smn hG)), by rw [List.take_zero, List.append_nil]; exact ⟨.refl _, Nat.le_refl _, ks⟩⟩ (fun i σ H' _ p => SqT.of (p.1 _ _ hb)) ?_ ?_
    · rintro i x σ H1 H' hi ⟨S, v4, v5, v6, us, rs, rfl, eG, hR, ev⟩ y
      obtain ⟨z, hz, ⟨qb, rfl, hqb⟩, rfl⟩ := yat_pair hZ y
      refine g2 (SqT.of (S _ _ hqb)) ?_
      have tk : ss ++ zs.take (i + 1) = (ss ++ zs.take i) ++ [z] := by rw [take_snoc hz, List.append_assoc]
      have hzk : z.1 ∈ Tb.kinds := kz z (List.mem_of_getElem? hz)
      have hi2 : i < zs.length := (List.getElem?_eq_some_iff.mp hz).1
      have evl := ev.len
      rw [List.length_append, List.length_take] at evl
      have ulen := Pr.len hR
      have line : (1000 : Nat) < sizeLine := line5 (by omega)
      have end_ : ∀ (H4 : Hp) (us' : List V) (rs' : List (Str × Int)), Same H H4 → H4 G = some (.lst us') → Syls H4 us' rs' → Eqv Tb.fr (rs ++ [z]) rs' → rs'.length ≤ rs.length + 1 → (∀ s ∈ rs', s ∈ rs ∨ s.1 = z.1) →
          ∃ us rs, H4 G = some (.lst us) ∧ Syls H4 us rs ∧ Ev Tb (ss ++ zs.take (i + 1)) rs := fun H4 us' rs' S4 e4 h4 q4 l4 m4 => by
        refine ⟨us', rs', e4, h4, ?_⟩
        rw [tk]
        refine ⟨(ev.eqv.right [z]).trans q4, ?_, fun s hs => ?_⟩
        · rw [List.length_append, List.length_append, List.length_take]
          simp
          omega
        · rcases m4 s hs with h | h
          · exact ev.kin s h
          · rw [h]
            exact hzk
      refine ⟨_, rfl, _, rfl, _, rfl, t, G, z.1, Tb, us, rs, rfl, hT.mono S, hzk, eG, hR, by omega, fun p1 c1 p2 esp hfree => ?_, ?_⟩
      · -- it melts into one that stands
        have frk : ∀ y ∈ p2, Tb.fr z.1 y.1 = true := fun y hy => by
          have h1 := (hfree y hy).2
          have h2 : y.1 ∈ Tb.kinds := ev.kin y (by rw [esp]; simp [hy])
          cases c : Tb.fr z.1 y.1 with
          | true => rfl
          | false => exact absurd (Tb.mem_links.mpr ⟨h2, c⟩) h1
        have hg : rs[p1.length]? = some (z.1, c1) := by rw [esp]; simp
        have hjl : p1.length < rs.length := (List.getElem?_eq_some_iff.mp hg).1
        obtain ⟨u, hu, qa, rfl, hqa⟩ := Pr.get2 hR hg
        refine ⟨_, rfl, rfl, _, rfl, ?_⟩
        refine ite_f (by simp) ?_
        refine ⟨_, rfl, _, rfl, _, rfl, G, us, _, _, rfl, rfl, SqL.of eG, at_of rfl hu, qa, _, 1, .int c1, rfl, rfl, SqT.of hqa, rfl, _, rfl, c1, z.2, rfl, rfl, ?_⟩
        refine ⟨(show 2 ≤ sizeLine by decide), fun r hr => ?_⟩
        have Sr := Smn (o := .tup [.str z.1, .int (c1 + z.2)]) hr
        refine ⟨_, rfl, _, rfl, G, us, _, p1.length, rfl, rfl, Sr _ _ eG, ?_, ?_⟩
        · unfold ixN
          rw [if_pos (by omega), if_pos (by omega)]
          simp
        obtain ⟨us', eus⟩ : ∃ us', us' = us.set p1.length (.ref r) := ⟨_, rfl⟩
        obtain ⟨rs', ers⟩ : ∃ rs', rs' = rs.set p1.length (z.1, c1 + z.2) := ⟨_, rfl⟩
        obtain ⟨j, ej⟩ : ∃ j, j = p1.length := ⟨_, rfl⟩
        obtain ⟨c', ec'⟩ : ∃ c', c' = c1 + z.2 := ⟨_, rfl⟩
        have eG4 : (upd (upd H' r (.tup [.str z.1, .int (c1 + z.2)])) G (.lst us')) G = some (.lst us') := upd_same
        have S4 : Same H (upd (upd H' r (.tup [.str z.1, .int (c1 + z.2)])) G (.lst us')) := Sup (S.trans Sr) hG
        have hS4 : Syls (upd (upd H' r (.tup [.str z.1, .int (c1 + z.2)])) G (.lst us')) us' rs' := by
          rw [eus, ers]
          exact Syls.mono (Tup_lst (Sr _ _ eG)) (Pr.set _ ⟨r, rfl, upd_same⟩ (hR.mono (Smt Sr)))
        have hrj : rs'[j]? = some (z.1, c') := by
          rw [ers, ej, ec']
          simp [hjl]
        have ers2 : rs' = p1 ++ (z.1, c1 + z.2) :: p2 := by
          rw [ers, esp]
          simp
        have q4 : Eqv Tb.fr (rs ++ [z]) rs' := by
          rw [ers2, esp]
          exact Eqv.melt frk
        have l4 : rs'.length ≤ rs.length + 1 := by
          rw [ers, List.length_set]
          omega
        have m4 : ∀ s ∈ rs', s ∈ rs ∨ s.1 = z.1 := fun s hs => by
          rw [ers2] at hs
          rcases List.mem_append.mp hs with h | h
          · exact .inl (by rw [esp]; simp [h])
          · rcases List.mem_cons.mp h with h | h
            · exact .inr (by rw [h])
            · exact .inl (by rw [esp]; simp [h])
        rw [← eus, ← ej]
        have hj : j < rs'.length := (List.getElem?_eq_some_iff.mp hrj).1
        have vlen := Pr.len hS4
        obtain ⟨u', hu', qa', rfl, hqa'⟩ := Pr.get2 hS4 hrj
        refine ⟨_, rfl, _, rfl, G, us', _, _, rfl, rfl, SqL.of eG4, at_of rfl hu', qa', [.str z.1, .int c'], 1, .int c', rfl, rfl, SqT.of hqa', rfl, rfl, _, rfl, ?_⟩
        refine ite2 (fun c0 => ?_) (fun c0 => ?_)
        · have ec : c' = 0 := V.int.inj (of_decide_eq_true c0)
          refine ⟨_, rfl, _, rfl, G, us', _, j, rfl, rfl, eG4, by omega, by omega, ?_, ?_⟩
          · unfold seqIndex?
            have h1 : ¬ ((j : Int) < 0) := by omega
            have h2 : j < us'.length := by omega
            first
              | (simp [h1, h2]; done)
              | (rw [if_neg h1]; simp [h2])
          · refine ⟨Sup S4 hG, _, _, _, end_ _ (us'.eraseIdx j) (rs'.eraseIdx j) (Sup S4 hG) upd_same (Syls.mono (Tup_lst eG4) (Pr.erase j hS4)) ?_ ?_ ?_ |>.imp fun us h => h.imp fun rs h => ⟨rfl, h⟩⟩
            · refine q4.trans ?_
              obtain ⟨h1, h2⟩ := List.getElem?_eq_some_iff.mp hrj
              have e1 : rs' = rs'.take j ++ (z.1, 0) :: rs'.drop (j + 1) := by
                have e2 : rs'[j] :: rs'.drop (j + 1) = rs'.drop j := (List.drop_eq_getElem_cons h1).symm
                rw [← ec, ← h2, e2, List.take_append_drop]
              have e3 : rs'.eraseIdx j = rs'.take j ++ rs'.drop (j + 1) := List.eraseIdx_eq_take_drop_succ ..
              rw [e3]
              have := Eqv.zero (fr := Tb.fr) (rs'.take j) z.1 (rs'.drop (j + 1))
              rw [← e1] at this
              exact this
            · have := List.length_eraseIdx_le rs' j
              omega
            · intro s hs
              exact m4 s (List.mem_of_mem_eraseIdx hs)
        · exact ⟨S4, _, _, _, end_ _ us' rs' S4 eG4 hS4 q4 l4 m4 |>.imp fun us h => h.imp fun rs h => ⟨rfl, h⟩⟩
      · -- it stands alone
        refine ⟨_, rfl, rfl, _, rfl, ?_⟩
        refine ite_t (by simp) ?_
        refine ⟨_, rfl, tyL eG, _, rfl, _, rfl, (show 2 ≤ sizeLine by decide), fun r hr => ?_⟩
        have Sr := Smn (o := .tup [.str z.1, .int z.2]) hr
        refine ⟨G, us, .ref r, rfl, rfl, Sr _ _ eG, line5 (by omega), ?_⟩
        obtain ⟨us', eus⟩ : ∃ us', us' = us ++ [.ref r] := ⟨_, rfl⟩
        obtain ⟨rs', ers⟩ : ∃ rs', rs' = rs ++ [z] := ⟨_, rfl⟩
        obtain ⟨j, ej⟩ : ∃ j, j = rs.length := ⟨_, rfl⟩
        obtain ⟨c', ec'⟩ : ∃ c', c' = z.2 := ⟨_, rfl⟩
        have eG4 : (upd (upd H' r (.tup [.str z.1, .int z.2])) G (.lst us')) G = some (.lst us') := upd_same
        have S4 : Same H (upd (upd H' r (.tup [.str z.1, .int z.2])) G (.lst us')) := Sup (S.trans Sr) hG
        have hS4 : Syls (upd (upd H' r (.tup [.str z.1, .int z.2])) G (.lst us')) us' rs' := by
          rw [eus, ers]
          exact Syls.mono (Tup_lst (Sr _ _ eG)) (Pr.app (hR.mono (Smt Sr)) (Pr.one ⟨r, rfl, upd_same⟩))
        have hrj : rs'[j]? = some (z.1, c') := by
          rw [ers, ej, ec']
          exact getI_snoc
        have q4 : Eqv Tb.fr (rs ++ [z]) rs' := by
          rw [ers]
          exact .refl _
        have l4 : rs'.length ≤ rs.length + 1 := by
          rw [ers, List.length_append]
          exact Nat.le_refl _
        have m4 : ∀ s ∈ rs', s ∈ rs ∨ s.1 = z.1 := fun s hs => by
          rw [ers] at hs
          rcases List.mem_append.mp hs with h | h
          · exact .inl h
          · exact .inr (by rw [List.mem_singleton.mp h])
        rw [← eus]
        refine ⟨_, rfl, _, us'.length, rfl, .inl ⟨_, SqL.of eG4, rfl⟩, _, _, rfl, rfl, ?_⟩
        have eI : ((us'.length : Nat) : Int) - 1 = ((j : Nat) : Int) := by
          rw [eus, List.length_append, ej]
          simp
          omega
        show gName 6 (V.int (((us'.length : Nat) : Int) - 1)) _ _ _
        rw [eI]
        have hj : j < rs'.length := (List.getElem?_eq_some_iff.mp hrj).1
        have vlen := Pr.len hS4
        obtain ⟨u', hu', qa', rfl, hqa'⟩ := Pr.get2 hS4 hrj
        refine ⟨_, rfl, _, rfl, G, us', _, _, rfl, rfl, SqL.of eG4, at_of rfl hu', qa', [.str z.1, .int c'], 1, .int c', rfl, rfl, SqT.of hqa', rfl, rfl, _, rfl, ?_⟩
        refine ite2 (fun c0 => ?_) (fun c0 => ?_)
        · have ec : c' = 0 := V.int.inj (of_decide_eq_true c0)
          refine ⟨_, rfl, _, rfl, G, us', _, j, rfl, rfl, eG4, by omega, by omega, ?_, ?_⟩
          · unfold seqIndex?
            have h1 : ¬ ((j : Int) < 0) := by omega
            have h2 : j < us'.length := by omega
            first
              | (simp [h1, h2]; done)
              | (rw [if_neg h1]; simp [h2])
          · refine ⟨Sup S4 hG, _, _, _, end_ _ (us'.eraseIdx j) (rs'.eraseIdx j) (Sup S4 hG) upd_same (Syls.mono (Tup_lst eG4) (Pr.erase j hS4)) ?_ ?_ ?_ |>.imp fun us h => h.imp fun rs h => ⟨rfl, h⟩⟩
            · refine q4.trans ?_
              obtain ⟨h1, h2⟩ := List.getElem?_eq_some_iff.mp hrj
              have e1 : rs' = rs'.take j ++ (z.1, 0) :: rs'.drop (j + 1) := by
                have e2 : rs'[j] :: rs'.drop (j + 1) = rs'.drop j := (List.drop_eq_getElem_cons h1).symm
                rw [← ec, ← h2, e2, List.take_append_drop]
              have e3 : rs'.eraseIdx j = rs'.take j ++ rs'.drop (j + 1) := List.eraseIdx_eq_take_drop_succ ..
              rw [e3]
              have := Eqv.zero (fr := Tb.fr) (rs'.take j) z.1 (rs'.drop (j + 1))
              rw [← e1] at this
              exact this
            · have := List.length_eraseIdx_le rs' j
              omega
            · intro s hs
              exact m4 s (List.mem_of_mem_eraseIdx hs)
        · exact ⟨S4, _, _, _, end_ _ us' rs' S4 eG4 hS4 q4 l4 m4 |>.imp fun us h => h.imp fun rs h => ⟨rfl, h⟩⟩
    · rintro σ H' ⟨S, v4, v5, v6, us, rs, rfl, eG, hR, ev⟩
      rw [Pr.len hZ, List.take_length] at ev
      exact ⟨_, rfl, q H' G us rs S eG hR ev⟩
end
end Un

/-! ## D7 -/
set_option Elab.async false
set_option linter.all false
set_option maxRecDepth 100000
set_option maxHeartbeats 4000000
namespace Un
open PySem PySem.Spec PyProof.Rows L2 StX
section
variable {P : Program} {w : World} {K : PySem.W.Frag} {mg : Str → Option Value} {base : Heap}
/-! appended -/
abbrev s_appended : Stmt := (top 33)
abbrev N_appended : List Str := ["table", "form", "syllables"]
abbrev P_appended : List Str := ["table", "form", "syllables"]
theorem sc_appended : FnScope N_appended P_appended (defScope s_appended) := ⟨rfl, rfl, rfl, by decide +kernel, rfl, by decide +kernel, by decide +kernel⟩

def spApp (K : PySem.W.Frag) : Sp := fun vs H Q _ => ∃ t a b T xs ys ss zs, vs = [.ref t, .ref a, .ref b] ∧ TabAt K H t T ∧ H a = some (.tup xs) ∧ Syls H xs ss ∧ H b = some (.tup ys) ∧ Syls H ys zs ∧ inK T ss ∧ inK T zs ∧ ss.length + zs.length ≤ 1000 ∧
  ∀ H' p us rs, Same H H' → H' p = some (.tup us) → Syls H' us rs → Ev T (ss ++ zs) rs → Q (.ref p) H'
theorem ok_appended (T : Txt K mg) {f : Addr} (F : FnT K "appended" "appended" s_appended f) (F_formed : FnR P w K mg base CX0 4 (He.ga K "formed") (spFormed K)) (F_shortened : FnR P w K mg base CX0 3 (He.ga K "shortened") (spShort K)) : FnR P w K mg base CX0 5 f (spApp K) := by
  refine F.ok sc_appended (fun _ _ _ _ _ _ us hl => match us, hl with | [_, _, _], _ => rfl) (fun vs H Q E h => ?_) (fun cdv A outer s H vs Q E hr h => ?_)
  · obtain ⟨t, a, b, T', xs, ys, ss, zs, rfl, _⟩ := h
    rfl
  · obtain ⟨t, a, b, Tb, xs, ys, ss, zs, rfl, hT, ha, hS, hb, hZ, ks, kz, hl, q⟩ := h
    refine ⟨_, (pss_one (ps_ret (pe_callR F_formed (hr.mono (by decide)) rfl T.m_formed T.k_formed pass0 (pa_cons (pv 0) (pa_cons (pe_callR F_shortened (hr.mono (by decide)) rfl T.m_shortened T.k_shortened pass0 (pa_cons (pv 0) (pa_cons (pv 1) (pa_cons (pv 2) pa_nil)))) pa_nil))))), ?_⟩
    refine ⟨_, rfl, _, rfl, _, rfl, _, rfl, t, a, b, Tb, xs, ys, ss, zs, rfl, hT, ha, hS, hb, hZ, ks, kz, hl, fun H1 p us rs S1 ep hU ev => ?_⟩
    refine ⟨t, p, Tb, us, rs, rfl, hT.mono S1, SqL.of ep, hU, ev.kin, ?_, fun H2 p2 us2 rs2 S2 ep2 hU2 ev2 => ?_⟩
    · have := ev.len
      rw [List.length_append] at this
      omega
    · exact q H2 p2 us2 rs2 (S1.trans S2) ep2 hU2 (ev.trans ev2)
/-! pressed -/
abbrev s_pressed : Stmt := (top 34)
abbrev N_pressed : List Str := ["table", "syllables"]
abbrev P_pressed : List Str := ["table", "syllables"]
theorem sc_pressed : FnScope N_pressed P_pressed (defScope s_pressed) := ⟨rfl, rfl, rfl, by decide +kernel, rfl, by decide +kernel, by decide +kernel⟩

def spPressed (K : PySem.W.Frag) : Sp := fun vs H Q _ => ∃ t b T ys zs, vs = [.ref t, .ref b] ∧ TabAt K H t T ∧ H b = some (.tup ys) ∧ Syls H ys zs ∧ inK T zs ∧ zs.length ≤ 1000 ∧
  ∀ H' p us rs, Same H H' → H' p = some (.tup us) → Syls H' us rs → Ev T zs rs → Q (.ref p) H'
theorem ok_pressed (T : Txt K mg) {f : Addr} (F : FnT K "pressed" "pressed" s_pressed f) (F_appended : FnR P w K mg base CX0 5 (He.ga K "appended") (spApp K)) : FnR P w K mg base CX0 6 f (spPressed K) := by
  refine F.ok sc_pressed (fun _ _ _ _ _ _ us hl => match us, hl with | [_, _], _ => rfl) (fun vs H Q E h => ?_) (fun cdv A outer s H vs Q E hr h => ?_)
  · obtain ⟨t, b, T', ys, zs, rfl, _⟩ := h
    rfl
  · obtain ⟨t, b, Tb, ys, zs, rfl, hT, hb, hZ, kz, hl, q⟩ := h
    refine ⟨_, (pss_one (ps_ret (pe_callR F_appended (hr.mono (by decide)) rfl T.m_appended T.k_appended pass0 (pa_cons (pv 0) (pa_cons (pe_tup pa_nil) (pa_cons (pv 1) pa_nil)))))), ?_⟩
    refine ⟨_, rfl, Nat.zero_le _, fun e he => ?_⟩
    have S0 := Smn (o := .tup []) he
    refine ⟨_, rfl, t, e, b, Tb, [], ys, [], zs, rfl, hT.mono S0, upd_same, .nil, S0 _ _ hb, hZ.mono (Smt S0), (fun s hs => by cases hs), kz, (by simp; exact hl), fun H1 p us rs S1 ep hU ev => ?_⟩
    exact q H1 p us rs (S0.trans S1) ep hU ev
/-! firsts -/
abbrev s_firsts : Stmt := (top 37)
abbrev N_firsts : List Str := ["table", "syllables", "found", "barred", "at", "kind", "count", "other"]
abbrev P_firsts : List Str := ["table", "syllables"]
theorem sc_firsts : FnScope N_firsts P_firsts (defScope s_firsts) := ⟨rfl, rfl, rfl, by decide +kernel, rfl, by decide +kernel, by decide +kernel⟩

/-- a dict of places below n -/
def Plc (kvs : List (Key × V)) (n : Nat) : Prop := ∀ kv ∈ kvs, (∃ k, kv.1 = .inr k) ∧ ∃ i : Nat, i < n ∧ kv.2 = .int (i : Nat)
theorem Plc.put {kvs : List (Key × V)} {n i : Nat} (p : Plc kvs n) (k : Str) (h : i < n) : Plc (putK kvs (.inr k) (.int (i : Nat))) n := by
  intro kv hkv
  unfold putK at hkv
  split at hkv
  · obtain ⟨x, hx, e⟩ := List.mem_map.mp hkv
    by_cases c : x.1 = .inr k
    · rw [if_pos c] at e
      subst e
      exact ⟨⟨k, c⟩, i, h, rfl⟩
    · rw [if_neg c] at e
      subst e
      exact p x hx
  · rcases List.mem_append.mp hkv with hx | hx
    · exact p kv hx
    · rw [List.mem_singleton.mp hx]
      exact ⟨⟨k, rfl⟩, i, h, rfl⟩
def spFirsts (K : PySem.W.Frag) : Sp := fun vs H Q _ => ∃ t a T xs ss, vs = [.ref t, .ref a] ∧ TabAt K H t T ∧ H a = some (.lst xs) ∧ Syls H xs ss ∧ inK T ss ∧ ss.length ≤ 1000 ∧
  ∀ H' p kvs, Same H H' → H p = none → H' p = some (.dK kvs) → Plc kvs ss.length → kvs.length ≤ ss.length → Q (.ref p) H'
theorem ok_firsts (T : Txt K mg) {f : Addr} (F : FnT K "firsts" "firsts" s_firsts f) (F_Table_links : FnR P w K mg base CX0 1 (He.ma K (He.ga K "Table") "links") (spLinks K)) : FnR P w K mg base CX0 2 f (spFirsts K) := by
  refine F.ok sc_firsts (fun _ _ _ _ _ _ us hl => match us, hl with | [_, _], _ => rfl) (fun vs H Q E h => ?_) (fun cdv A outer s H vs Q E hr h => ?_)
  · obtain ⟨t, a, T', xs, ss, rfl, _⟩ := h
    rfl
  · obtain ⟨t, a, Tb, xs, ss, rfl, hT, ha, hS, hk, hl, q⟩ := h
    obtain ⟨dx, fs, ks, ps, ln, kvs0, pvs, h1, h2, _⟩ := hT.ex
    refine ⟨_, (pss_cons (ps_set (i := 2) sc_firsts.nd rfl (Or.inl rfl) pe_dnewK)
      (pss_cons (ps_set (i := 3) sc_firsts.nd rfl (Or.inl rfl) pe_dnewK)
      (pss_cons (ps_for PassesOwn.never rfl (pi_enum rfl T.f_enumerate (pa_cons (pv 1) pa_nil)) (pg_tup (n := 2) rfl (pgs_cons (pg_name (i := 4) sc_firsts.nd rfl (Or.inl rfl)) (pgs_cons (pg_tup (n := 2) rfl (pgs_cons (pg_name (i := 5) sc_firsts.nd rfl (Or.inl rfl)) (pgs_cons (pg_name (i := 6) sc_firsts.nd rfl (Or.inl rfl)) pgs_nil))) pgs_nil))) (pss_cons (ps_if (pt_cmp (pc_dnotin (hu_of hr) (pv 5) (pv 3))) (pss_one (ps_dput (hu_of hr) (pv 2) (pv 5) (pv 4) rfl)) pss_nil)
      (pss_one (ps_for PassesOwn.never rfl (pi_tup (pe_methR (pv 0) T.cl_Table T.me_Table_links F_Table_links (hr.mono (by decide)) pass0 (pa_cons (pv 5) pa_nil))) (pg_name (i := 7) sc_firsts.nd rfl (Or.inl rfl)) (pss_one (ps_dput (hu_of hr) (pv 3) (pv 7) pe_bl rfl))))))
      (pss_one (ps_ret (pv 2)))))), ?_⟩
    intro L hL
    refine fun G hG => ?_
    have hLG : L ≠ G := ne_of_none upd_same hG
    have hG0 : H G = none := by
      rw [upd_ne (Ne.symm hLG)] at hG
      exact hG
    have S0 : Same H (upd (upd H L (.dK [])) G (.dK [])) := Sup (Smn hL) hG0
    refine ⟨_, rfl, a, xs, rfl, SqL.of (S0 _ _ ha), ?_⟩
    refine for_it (walk_enum (K := K) (a := a) (xs := xs)) (fun i σ H' => Same H H' ∧ ∃ v4 v5 v6 v7 kvs bvs, σ = [some (.ref t), some (.ref a), some (.ref L), some (.ref G), v4, v5, v6, v7] ∧ H' L = some (.dK kvs) ∧ H' G = some (.dK bvs) ∧ Plc kvs ss.length ∧ kvs.length ≤ i ∧ bvs.length ≤ i * 12)
      ⟨S0, none, none, none, none, [], [], rfl, by rw [upd_ne hLG]; exact upd_same, upd_same, (fun kv h => by cases h), Nat.le_refl _, Nat.zero_le _⟩ (fun i σ H' _ p => SqL.of (p.1 _ _ ha)) ?_ ?_
    · rintro i x σ H1 H' hi ⟨S, v4, v5, v6, v7, kvs, bvs, rfl, eL, eG, hP, l1, l2⟩ y
      obtain ⟨b, v, z, hv, hz, ⟨qb, rfl, hqb⟩, rfl, hb, rfl⟩ := yp_enumP hS y
      have Sb := Smn (o := .tup [.int ((i : Nat) : Int), .ref qb]) hb
      have exs := Pr.len hS
      have hzm : z ∈ ss := List.mem_of_getElem? hz
      refine ⟨b, [.int (i : Nat), .ref qb], rfl, SqT.of upd_same, rfl, _, _, rfl, _, _, rfl, ?_⟩
      refine ⟨qb, [.str z.1, .int z.2], rfl, SqT.of (Sb _ _ (S _ _ hqb)), rfl, _, _, rfl, _, _, rfl, rfl, rfl, ?_⟩
      have eL1 := Sb _ _ eL
      have eG1 := Sb _ _ eG
      refine ⟨_, rfl, _, rfl, G, _, rfl, DGet.k (k := Sum.inr z.1) eG1, _, rfl, ?_⟩
      -- behind the first
      have rest : ∀ (H2 : Hp) (kvs' : List (Key × V)), Same H H2 → H2 L = some (.dK kvs') → H2 G = some (.dK bvs) → Plc kvs' ss.length → kvs'.length ≤ i + 1 → True := fun _ _ _ _ _ _ _ => trivial
      refine ite2 (fun c => ?_) (fun c => ?_)
      · refine ⟨_, rfl, _, rfl, _, rfl, L, _, rfl, DPut.k (k := Sum.inr z.1) eL1 (line5 (by omega)), ?_⟩
        obtain ⟨kvs', ek⟩ : ∃ kvs', kvs' = putK kvs (Sum.inr z.1) (.int (i : Nat)) := ⟨_, rfl⟩
        have hP' : Plc kvs' ss.length := by
          rw [ek]
          exact hP.put z.1 (by omega)
        have l1' : kvs'.length ≤ i + 1 := by
          rw [ek]
          have := length_putK kvs (Sum.inr z.1) (.int ((i : Nat) : Int))
          omega
        have S2 : Same H (upd (upd H1 b (.tup [.int (i : Nat), .ref qb])) L (.dK kvs')) := Sup (S.trans Sb) hL
        have eL2 : (upd (upd H1 b (.tup [.int (i : Nat), .ref qb])) L (.dK kvs')) L = some (.dK kvs') := upd_same
        have eG2 : (upd (upd H1 b (.tup [.int (i : Nat), .ref qb])) L (.dK kvs')) G = some (.dK bvs) := by
          rw [upd_ne (Ne.symm hLG)]
          exact eG1
        rw [← ek]
        generalize (upd (upd H1 b (.tup [.int (i : Nat), .ref qb])) L (.dK kvs')) = H2 at *
        refine ⟨_, rfl, t, dx, fs, rfl, S2 _ _ h1, h2, _, rfl, t, z.1, Tb, rfl, hT.mono S2, hk z hzm, fun la hla => ?_⟩
        refine ⟨la, rfl, ⟨_, SqT.of hla⟩, ?_⟩
        refine for_it (walk_tup (K := K) (a := la) (xs := (Tb.links z.1).map V.str)) (fun j σ H' => Same H H' ∧ ∃ v7 bvs', σ = [some (.ref t), some (.ref a), some (.ref L), some (.ref G), some (.int (i : Nat)), some (.str z.1), some (.int z.2), v7] ∧ H' L = some (.dK kvs') ∧ H' G = some (.dK bvs') ∧ bvs'.length ≤ i * 12 + j ∧ H' la = some (.tup ((Tb.links z.1).map V.str)))
          ⟨S2, v7, bvs, rfl, eL2, eG2, by omega, hla⟩ (fun j σ H' _ p => by obtain ⟨_, _, _, _, _, _, _, h⟩ := p; exact SqT.of h) ?_ ?_
        · rintro j x2 σ H3 H4 hj ⟨S3, v7', bvs', rfl, eL3, eG3, l3, hla3⟩ y2
          obtain ⟨o, ho, rfl, rfl⟩ := yat_map y2
          refine ⟨_, rfl, _, rfl, G, _, rfl, DPut.k (k := Sum.inr o) eG3 (line5 (by rw [List.length_map] at hj; have := hT.ok.few; have : (Tb.links z.1).length ≤ Tb.kinds.length := List.length_filter_le _ _; omega)), ?_⟩
          refine ⟨Sup S3 hG0, _, _, rfl, by rw [upd_ne hLG]; exact eL3, upd_same, ?_, Tup_dK eG3 _ _ hla3⟩
          have := length_putK bvs' (Sum.inr o) (.bl true)
          omega
        · rintro σ H3 ⟨S3, v7', bvs', rfl, eL3, eG3, l3, hla3⟩
          refine ⟨S3, _, _, _, _, kvs', bvs', rfl, eL3, eG3, hP', l1', ?_⟩
          rw [List.length_map] at l3
          have := hT.ok.few
          have : (Tb.links z.1).length ≤ Tb.kinds.length := List.length_filter_le _ _
          omega
      · have S2 : Same H (upd H1 b (.tup [.int (i : Nat), .ref qb])) := S.trans Sb
        have hP' := hP
        have l1' : kvs.length ≤ i + 1 := by omega
        have eL2 := eL1
        have eG2 := eG1
        obtain ⟨kvs', ek⟩ : ∃ kvs', kvs' = kvs := ⟨_, rfl⟩
        rw [← ek] at hP' l1' eL2
        generalize (upd H1 b (.tup [.int (i : Nat), .ref qb])) = H2 at *
        refine ⟨_, rfl, t, dx, fs, rfl, S2 _ _ h1, h2, _, rfl, t, z.1, Tb, rfl, hT.mono S2, hk z hzm, fun la hla => ?_⟩
        refine ⟨la, rfl, ⟨_, SqT.of hla⟩, ?_⟩
        refine for_it (walk_tup (K := K) (a := la) (xs := (Tb.links z.1).map V.str)) (fun j σ H' => Same H H' ∧ ∃ v7 bvs', σ = [some (.ref t), some (.ref a), some (.ref L), some (.ref G), some (.int (i : Nat)), some (.str z.1), some (.int z.2), v7] ∧ H' L = some (.dK kvs') ∧ H' G = some (.dK bvs') ∧ bvs'.length ≤ i * 12 + j ∧ H' la = some (.tup ((Tb.links z.1).map V.str)))
          ⟨S2, v7, bvs, rfl, eL2, eG2, by omega, hla⟩ (fun j σ H' _ p => by obtain ⟨_, _, _, _, _, _, _, h⟩ := p; exact SqT.of h) ?_ ?_
        · rintro j x2 σ H3 H4 hj ⟨S3, v7', bvs', rfl, eL3, eG3, l3, hla3⟩ y2
          obtain ⟨o, ho, rfl, rfl⟩ := yat_map y2
          refine ⟨_, rfl, _, rfl, G, _, rfl, DPut.k (k := Sum.inr o) eG3 (line5 (by rw [List.length_map] at hj; have := hT.ok.few; have : (Tb.links z.1).length ≤ Tb.kinds.length := List.length_filter_le _ _; omega)), ?_⟩
          refine ⟨Sup S3 hG0, _, _, rfl, by rw [upd_ne hLG]; exact eL3, upd_same, ?_, Tup_dK eG3 _ _ hla3⟩
          have := length_putK bvs' (Sum.inr o) (.bl true)
          omega
        · rintro σ H3 ⟨S3, v7', bvs', rfl, eL3, eG3, l3, hla3⟩
          refine ⟨S3, _, _, _, _, kvs', bvs', rfl, eL3, eG3, hP', l1', ?_⟩
          rw [List.length_map] at l3
          have := hT.ok.few
          have : (Tb.links z.1).length ≤ Tb.kinds.length := List.length_filter_le _ _
          omega
    · rintro σ H' ⟨S, v4, v5, v6, v7, kvs, bvs, rfl, eL, eG, hP, l1, l2⟩
      exact ⟨_, rfl, q H' L kvs S hL eL hP (by rw [← Pr.len hS]; exact l1)⟩
/-! lasts -/
abbrev s_lasts : Stmt := (top 38)
abbrev N_lasts : List Str := ["table", "syllables", "turned", "kind", "at"]
abbrev P_lasts : List Str := ["table", "syllables"]
theorem sc_lasts : FnScope N_lasts P_lasts (defScope s_lasts) := ⟨rfl, rfl, rfl, by decide +kernel, rfl, by decide +kernel, by decide +kernel⟩

def spLasts (K : PySem.W.Frag) : Sp := fun vs H Q _ => ∃ t a T xs ss, vs = [.ref t, .ref a] ∧ TabAt K H t T ∧ H a = some (.tup xs) ∧ Syls H xs ss ∧ inK T ss ∧ ss.length ≤ 1000 ∧
  ∀ H' p kvs, Same H H' → H p = none → H' p = some (.dK kvs) → Plc kvs ss.length → kvs.length ≤ ss.length → Q (.ref p) H'
theorem Pr.rev {α β : Type} {F : α → β → Prop} : ∀ {xs : List α} {ys : List β}, Paired F xs ys → Paired F xs.reverse ys.reverse
  | _, _, .nil => .nil
  | _, _, .cons r t => by
    rw [List.reverse_cons, List.reverse_cons]
    exact Pr.app (Pr.rev t) (Pr.one r)
theorem ok_lasts (T : Txt K mg) {f : Addr} (F : FnT K "lasts" "lasts" s_lasts f) (F_firsts : FnR P w K mg base CX0 2 (He.ga K "firsts") (spFirsts K)) : FnR P w K mg base CX0 3 f (spLasts K) := by
  refine F.ok sc_lasts (fun _ _ _ _ _ _ us hl => match us, hl with | [_, _], _ => rfl) (fun vs H Q E h => ?_) (fun cdv A outer s H vs Q E hr h => ?_)
  · obtain ⟨t, a, T', xs, ss, rfl, _⟩ := h
    rfl
  · obtain ⟨t, a, Tb, xs, ss, rfl, hT, ha, hS, hk, hl, q⟩ := h
    refine ⟨_, (pss_cons (ps_set (i := 2) sc_lasts.nd rfl (Or.inl rfl) (pe_callR F_firsts (hr.mono (by decide)) rfl T.m_firsts T.k_firsts pass0 (pa_cons (pv 0) (pa_cons (pe_callTy call_list_of rfl T.f_list boot_list (pa_cons (pe_revT (pv 1)) pa_nil)) pa_nil))))
      (pss_one (ps_ret (pe_dc rfl sc_lasts.nd (pi_items (pe_frz (pv 2))) (blkOk_by (own := [("kind", 3), ("at", 4)]) (N := N_lasts) (sc := defScope s_lasts) (by decide +kernel)) (fun _ _ _ _ _ => (pg_tup' (K := K) rfl (n := 2) rfl (pgs_cons (pg_name (i := 3) sc_lasts.nd rfl (Or.inl rfl)) (pgs_cons (pg_name (i := 4) sc_lasts.nd rfl (Or.inl rfl)) pgs_nil)))) (fun _ _ _ _ _ => pts_nil) (fun _ _ _ _ _ => (pv 3)) (fun _ _ _ _ _ => (pe_op op_sub (pe_op op_sub (pe_callB (call_len' (K := K) rfl) rfl T.f_len boot_len (pa_cons (pv 1) pa_nil)) pe_int) (pv 4))))))), ?_⟩
    refine ⟨_, rfl, _, rfl, a, xs, rfl, SqT.of ha, fun p hp => ?_⟩
    have S1 := Smn (o := .tup xs.reverse) hp
    refine ⟨p, xs.reverse, rfl, .inr (SqT.of upd_same), fun l hl2 => ?_⟩
    have S2 := S1.trans (Smn (o := .lst xs.reverse) hl2)
    refine ⟨t, l, Tb, xs.reverse, ss.reverse, rfl, hT.mono S2, upd_same, Syls.mono (Smt S2) (Pr.rev hS), fun s hs => hk s (List.mem_reverse.mp hs), by rw [List.length_reverse]; exact hl, fun H1 d kvs S3 hd ed hP hk2 => ?_⟩
    have S4 := S2.trans S3
    rw [List.length_reverse] at hP hk2
    have hd0 : H d = none := by
      cases e : H d with
      | none => rfl
      | some u =>
        have := S2 _ _ e
        rw [hd] at this
        cases this
    refine ⟨_, rfl, d, kvs, rfl, ed, fun o => ⟨d, o, kvs, rfl, upd_same, fun D hD => ?_⟩⟩
    have S5 : Same H (upd H1 d (.frz o (.dK kvs))) := Sup S4 hd0
    have hD0 : H D = none := by
      cases e : H D with
      | none => rfl
      | some u =>
        have := S5 _ _ e
        rw [hD] at this
        cases this
    have nDd : d ≠ D := ne_of_none upd_same hD
    refine dc_it (walk_items (d := d) (o := o) (kvs := kvs)) (fun i H' => Same H H' ∧ H' d = some (.frz o (.dK kvs)) ∧ ∃ lv, H' D = some (.dK lv) ∧ Plc lv ss.length ∧ lv.length ≤ i) ⟨S5.trans (Smn hD), by rw [upd_ne nDd]; exact upd_same, [], upd_same, (fun kv h => by cases h), Nat.le_refl _⟩ (fun i H' _ p => p.2.1) ?_ ?_
    · rintro i x H2 H3 hi ⟨S6, ed2, lv, eD, hPl, hll⟩ ⟨b, x1, x2, rfl, hb, rfl, e1, e2⟩
      obtain ⟨kv, hkv⟩ : ∃ kv, kvs[i]? = some kv := ⟨_, List.getElem?_eq_getElem hi⟩
      have e1' : kvs[i]?.map (fun kv => kV kv.1) = some x1 := e1
      have e2' : kvs[i]?.map Prod.snd = some x2 := e2
      rw [hkv] at e1' e2'
      obtain ⟨⟨k, ek⟩, j, hj, ej⟩ := hP kv (List.mem_of_getElem? hkv)
      have ex1 : x1 = .str k := by
        have := Option.some.inj e1'
        rw [← this]
        show kV kv.1 = _
        rw [ek]
        rfl
      have ex2 : x2 = .int (j : Nat) := by
        have := Option.some.inj e2'
        rw [← this]
        exact ej
      subst ex1 ex2
      have Sb := Smn (o := .tup [.str k, .int ((j : Nat) : Int)]) hb
      refine g2 (SqT.of upd_same) ?_
      refine ⟨rfl, ?_⟩
      refine ⟨_, rfl, _, rfl, _, xs.length, rfl, .inr ⟨_, SqT.of (Sb _ _ (S6 _ _ ha)), rfl⟩, _, _, rfl, rfl, _, rfl, _, _, rfl, rfl, lv, Sum.inr k, rfl, Sb _ _ eD, line5 (by omega), ?_⟩
      have exs := Pr.len hS
      refine ⟨Sup (S6.trans Sb) hD0, by rw [upd_ne nDd]; exact Sb _ _ ed2, _, upd_same, ?_, ?_⟩
      · have : (((xs.length : Nat) : Int) - 1 - ((j : Nat) : Int)) = ((ss.length - 1 - j : Nat) : Int) := by omega
        show Plc (putK lv (Sum.inr k) (.int (((xs.length : Nat) : Int) - 1 - ((j : Nat) : Int)))) ss.length
        rw [this]
        exact hPl.put k (by omega)
      · have := length_putK lv (Sum.inr k) (.int (((xs.length : Nat) : Int) - 1 - ((j : Nat) : Int)))
        exact Nat.le_trans this (by omega)
    · rintro H2 ⟨S6, ed2, lv, eD, hPl, hll⟩
      exact q H2 D lv S6 hD0 eD hPl (by omega)
end
end Un

/-! ## D8 -/
set_option Elab.async false
set_option linter.all false
set_option maxRecDepth 100000
set_option maxHeartbeats 4000000
namespace Un
open PySem PySem.Spec PyProof.Rows L2 StX
section
variable {X : Cx}
theorem op_notInPS' {P : Program} {w : World} (hP : X.prog = P) (hw : X.w = w) (hu : X.A.units + 65 < cLine) : OpR X (compareOp .NotIn) (rInP P w true) := by
  subst hP hw
  exact op_notInPS hu
end
theorem lkf_same (f : Str) (v : V) (fs : List (Str × V)) : (putF f v fs).lookup f = some v := by rw [lookup_putF, if_pos rfl]
theorem lkf_other {f g : Str} (v : V) (fs : List (Str × V)) (h : g ≠ f) : (putF f v fs).lookup g = fs.lookup g := by rw [lookup_putF, if_neg h]
section
variable {P : Program} {w : World} {K : PySem.W.Frag} {mg : Str → Option Value} {base : Heap}
/-! Table.__init__ -/
abbrev s_Table___init__ : Stmt := (inClass (top 26) 0)
abbrev N_Table___init__ : List Str := ["self", "kinds", "pairs", "found", "at", "pair", "one", "other", "kind"]
abbrev P_Table___init__ : List Str := ["self", "kinds", "pairs"]
theorem sc_Table___init__ : FnScope N_Table___init__ P_Table___init__ (defScope s_Table___init__) := ⟨rfl, rfl, rfl, by decide +kernel, rfl, by decide +kernel, by decide +kernel⟩

def spTabInit (K : PySem.W.Frag) : Sp := fun vs H Q _ => ∃ x dx a b ks pvs ps, vs = [.ref x, .ref a, .ref b] ∧ H x = some (.ins (He.ga K "Table") dx []) ∧ H a = some (.lst (List.map V.str ks)) ∧ ks.Nodup ∧ (∀ k ∈ ks, nameOk k) ∧ 0 < ks.length ∧ ks.length ≤ 12 ∧
  H b = some (.lst pvs) ∧ Prs H pvs ps ∧ ps.length ≤ 50 ∧ (∀ p ∈ ps, p.1 ∈ ks ∧ p.2 ∈ ks ∧ p.1 ≠ p.2) ∧
  ∀ H' T, (∀ c u, c ≠ x → H c = some u → H' c = some u) → TabAt K H' x T → T.kinds.Perm ks → (∀ c d, T.fr c d = true ↔ ∃ p ∈ ps, ip p.1 p.2 = ip c d) → Q .non H'
/-- the set of pairs, from the pairs given so far -/
structure Fnp (P : Program) (w : World) (H : Hp) (S : Addr) (L : PL) (ps : List (Str × Str)) : Prop where
  set : PSet P w H S L
  two : ∀ p ∈ L, ∃ x y, p.2 = [x, y]
  all : ∀ k, k ∈ L.map (·.2) ↔ ∃ p ∈ ps, k = [(ip p.1 p.2).1, (ip p.1 p.2).2]
  len : L.length ≤ ps.length
theorem Fnp.mono {H H' : Hp} {S : Addr} {L : PL} {ps : List (Str × Str)} (F : Fnp P w H S L ps) (h : H S = some (SetPO P w S L) → H' S = some (SetPO P w S L)) (t : TupS H H') : Fnp P w H' S L ps :=
  ⟨⟨h F.set.1, fun p hp => t _ _ (F.set.2 p hp)⟩, F.two, F.all, F.len⟩
theorem ip_or (a b : Str) : ip a b = (a, b) ∨ ip a b = (b, a) := by
  unfold ip
  split
  · exact .inl rfl
  · exact .inr rfl
def prOf (q : Addr × List Str) : Str × Str := (q.2.getD 0 ⟨#[]⟩, q.2.getD 1 ⟨#[]⟩)
theorem prOf_mem {L : PL} (two : ∀ p ∈ L, ∃ x y, p.2 = [x, y]) (c : Str × Str) : c ∈ L.map prOf ↔ [c.1, c.2] ∈ L.map (·.2) := by
  constructor
  · intro h
    obtain ⟨q, hq, e⟩ := List.mem_map.mp h
    obtain ⟨x, y, exy⟩ := two q hq
    refine List.mem_map.mpr ⟨q, hq, ?_⟩
    rw [← e]
    unfold prOf
    rw [exy]
    rfl
  · intro h
    obtain ⟨q, hq, e⟩ := List.mem_map.mp h
    refine List.mem_map.mpr ⟨q, hq, ?_⟩
    have e' : q.2 = [c.1, c.2] := e
    unfold prOf
    rw [e']
    rfl
theorem prs_of {H : Hp} : ∀ {L : PL}, (∀ p ∈ L, ∃ x y, p.2 = [x, y]) → (∀ p ∈ L, H p.1 = some (.tup (p.2.map V.str))) → Prs H (L.map fun q => V.ref q.1) (L.map prOf)
  | [], _, _ => .nil
  | q :: L, h1, h2 => by
    obtain ⟨x, y, e⟩ := h1 q (List.mem_cons_self ..)
    refine .cons ⟨q.1, rfl, ?_⟩ (prs_of (fun p hp => h1 p (List.mem_cons_of_mem _ hp)) fun p hp => h2 p (List.mem_cons_of_mem _ hp))
    have := h2 q (List.mem_cons_self ..)
    unfold prOf
    rw [e] at this ⊢
    exact this
theorem ok_Table___init__ (T : Txt K mg) {f : Addr} (F : FnT1 K "__init__" "Table.__init__" s_Table___init__ f) (F_check_kinds : FnR P w K mg base CX0 2 (He.ga K "check_kinds") (spCkKinds K)) (F_in_pair : FnR P w K mg base CX0 1 (He.ga K "in_pair") spPair) : FnR P w K mg base CX0 3 f (spTabInit K) := by
  refine F.ok sc_Table___init__ (fun _ _ _ _ _ _ _ us d hl => match us, hl with | [_, _, _], _ => ⟨_, rfl, rfl⟩) (fun vs H Q E h => ?_) (fun cdv A outer s H vs Q E hr h => ?_)
  · obtain ⟨x, dx, a, b, ks, pvs, ps, rfl, _⟩ := h
    rfl
  · obtain ⟨x, dx, a, b, ks, pvs, ps, rfl, hx, ha, nd, hn, h0, h12, hb, hpv, pl, hps, q⟩ := h
    refine ⟨_, (pss_cons (ps_expr (pe_callR F_check_kinds (hr.mono (by decide)) rfl T.m_check_kinds T.k_check_kinds pass0 (pa_cons (pv 1) pa_nil)))
      (pss_cons (ps_set (i := 3) sc_Table___init__.nd rfl (Or.inr rfl) (pe_callTy0 cr_setPS0 rfl T.f_set boot_set))
      (pss_cons (ps_for PassesOwn.never rfl (pi_enum rfl T.f_enumerate (pa_cons (pv 2) pa_nil)) (pg_tup (n := 2) rfl (pgs_cons (pg_name (i := 4) sc_Table___init__.nd rfl (Or.inl rfl)) (pgs_cons (pg_name (i := 5) sc_Table___init__.nd rfl (Or.inl rfl)) pgs_nil))) (pss_cons (ps_asg (pv 5) (pg_tup (n := 2) rfl (pgs_cons (pg_name (i := 6) sc_Table___init__.nd rfl (Or.inl rfl)) (pgs_cons (pg_name (i := 7) sc_Table___init__.nd rfl (Or.inl rfl)) pgs_nil))))
      (pss_cons (ps_if (PW.pt (pw_or (pt_cmpR op_notIn_seq (pv 6) (pv 1) (by rfl)) (pw_or (pt_cmpR op_notIn_seq (pv 7) (pv 1) (by rfl)) (pw_or1 (pt_cmpR op_eq (pv 6) (pv 7) (nomark _)))))) (pss_one ps_never) pss_nil)
      (pss_one (ps_expr (pe_addPS hr.units65 (pv 3) (pa_cons (pe_callR F_in_pair (hr.mono (by decide)) rfl T.m_in_pair T.k_in_pair pass0 (pa_cons (pv 6) (pa_cons (pv 7) pa_nil))) pa_nil)))))))
      (pss_cons (ps_fld (pv 0) (pe_callTy call_tuple_of rfl T.f_tuple boot_tuple (pa_cons (pe_callB (cr_srtL hr.units65) rfl T.f_sorted boot_sorted (pa_cons (pv 1) pa_nil)) pa_nil)) rfl)
      (pss_cons (ps_fld (pv 0) (pe_callTy call_tuple_of rfl T.f_tuple boot_tuple (pa_cons (pe_callB (cr_srtPS rfl hr.units65) rfl T.f_sorted boot_sorted (pa_cons (pv 3) pa_nil)) pa_nil)) rfl)
      (pss_cons (ps_fld (pv 0) pe_dnewK rfl)
      (pss_one (ps_for PassesOwn.never rfl (pi_tup (pe_fld (pv 0) rfl)) (pg_name (i := 8) sc_Table___init__.nd rfl (Or.inr rfl)) (pss_one (ps_dput (hu_of hr) (pe_fld (pv 0) rfl) (pv 8) (pe_callTy call_tuple_of rfl T.f_tuple boot_tuple (pa_cons (pe_lc rfl sc_Table___init__.nd (pi_tup (pe_fld (pv 0) rfl)) (blkOk_by (own := [("other", 7)]) (N := N_Table___init__) (sc := defScope s_Table___init__) (by decide +kernel)) (fun _ _ _ _ _ => (pg_name (i := 7) sc_Table___init__.nd rfl (Or.inl rfl))) (fun _ _ _ _ _ => pts_one (pt_cmpR (op_notInPS' (P := P) (w := w) rfl rfl hr.units65) (pe_callR F_in_pair (hr.mono (by decide)) rfl T.m_in_pair T.k_in_pair pass0 (pa_cons (pv 8) (pa_cons (pv 7) pa_nil))) (pv 3) (by rfl))) (fun _ _ _ _ _ => (pv 7))) pa_nil)) rfl)))))))))), ?_⟩
    refine ⟨_, rfl, a, ks, rfl, SqL.of ha, nd, hn, h0, h12, fun H1 S1 => ?_⟩
    refine ⟨rfl, fun S hS => ?_⟩
    have S2 := S1.trans (Smn (o := SetPO P w S []) hS)
    have hS0 : H S = none := by
      cases e : H S with
      | none => rfl
      | some u =>
        have := S1 _ _ e
        rw [hS] at this
        cases this
    refine ⟨_, rfl, b, pvs, rfl, SqL.of (S2 _ _ hb), ?_⟩
    refine for_it (walk_enum (K := K) (a := b) (xs := pvs)) (fun i σ H' => Same H H' ∧ ∃ v4 v5 v6 v7 L, σ = [some (.ref x), some (.ref a), some (.ref b), some (.ref S), v4, v5, v6, v7, none] ∧ Fnp P w H' S L (ps.take i))
      ⟨S2, none, none, none, none, [], rfl, ⟨upd_same, fun p h => by cases h⟩, (fun p h => by cases h), fun k => (by simp), Nat.zero_le _⟩ (fun i σ H' _ p => SqL.of (p.1 _ _ hb)) ?_ ?_
    · rintro i y σ H2 H3 hi ⟨S3, v4, v5, v6, v7, L, rfl, Fn⟩ y'
      obtain ⟨t, v, z, hv, hz, ⟨qb, rfl, hqb⟩, rfl, ht, rfl⟩ := yp_enumP hpv y'
      have St := Smn (o := .tup [.int ((i : Nat) : Int), .ref qb]) ht
      have S4 := S3.trans St
      obtain ⟨z1, z2, z3⟩ := hps z (List.mem_of_getElem? hz)
      refine g2 (SqT.of upd_same) ?_
      refine ⟨_, rfl, g2 (SqT.of (S4 _ _ hqb)) ?_⟩
      refine ⟨_, rfl, _, rfl, a, _, rfl, .inl (SqL.of (S4 _ _ ha)), rfl, flatS _, _, rfl, ?_⟩
      refine ite_f (by rw [inV_str, decide_eq_true z1]; rfl) ?_
      refine ⟨_, rfl, _, rfl, a, _, rfl, .inl (SqL.of (S4 _ _ ha)), rfl, flatS _, _, rfl, ?_⟩
      refine ite_f (by rw [inV_str, decide_eq_true z2]; rfl) ?_
      refine ⟨_, rfl, _, rfl, rfl, _, rfl, ?_⟩
      refine ite_f (decide_eq_false fun e => z3 (V.str.inj e)) ?_
      have Fs := Fn.set
      refine ⟨_, rfl, ⟨S, L, rfl, St _ _ Fs.1⟩, _, rfl, _, rfl, z.1, z.2, rfl, fun p hp => ?_⟩
      have Sp := Smn (o := .tup [.str (ip z.1 z.2).1, .str (ip z.1 z.2).2]) hp
      have plen : i < ps.length := (List.getElem?_eq_some_iff.mp hz).1
      have Ll := Fn.len
      rw [List.length_take] at Ll
      refine ⟨S, L, p, [(ip z.1 z.2).1, (ip z.1 z.2).2], rfl, rfl, ⟨Sp _ _ (St _ _ Fs.1), fun p' h' => Sp _ _ (St _ _ (Fs.2 p' h'))⟩, upd_same, by omega, fun L' e1 e2 => ?_⟩
      refine ⟨Sup (S4.trans Sp) hS0, _, _, _, _, L', rfl, ?_⟩
      have ntup : ∀ c (us : List V), (upd (upd H2 t (.tup [.int ((i : Nat) : Int), .ref qb])) p (.tup [.str (ip z.1 z.2).1, .str (ip z.1 z.2).2])) c = some (.tup us) →
          (upd (upd (upd H2 t (.tup [.int ((i : Nat) : Int), .ref qb])) p (.tup [.str (ip z.1 z.2).1, .str (ip z.1 z.2).2])) S (SetPO P w S L')) c = some (.tup us) := fun c us e => by
        rw [upd_ne (fun h => by
          rw [h, Sp _ _ (St _ _ Fs.1)] at e
          cases e)]
        exact e
      have tk : ps.take (i + 1) = ps.take i ++ [z] := take_snoc hz
      by_cases hm : [(ip z.1 z.2).1, (ip z.1 z.2).2] ∈ L.map (·.2)
      · have eL := e1 hm
        subst eL
        refine ⟨⟨upd_same, fun p' h' => ntup _ _ (Sp _ _ (St _ _ (Fs.2 p' h')))⟩, Fn.two, fun k => ?_, ?_⟩
        · rw [Fn.all k, tk]
          constructor
          · rintro ⟨p', h1, h2⟩
            exact ⟨p', List.mem_append_left _ h1, h2⟩
          · rintro ⟨p', h1, h2⟩
            rcases List.mem_append.mp h1 with h1 | h1
            · exact ⟨p', h1, h2⟩
            · rw [List.mem_singleton.mp h1] at h2
              rw [h2]
              exact (Fn.all _).mp hm
        · rw [tk, List.length_append, List.length_take]
          omega
      · have pm := e2 hm
        refine ⟨⟨upd_same, fun p' h' => ?_⟩, fun p' h' => ?_, fun k => ?_, ?_⟩
        · rcases List.mem_cons.mp (pm.mem_iff.mp h') with h | h
          · rw [h]
            exact ntup _ _ upd_same
          · exact ntup _ _ (Sp _ _ (St _ _ (Fs.2 p' h)))
        · rcases List.mem_cons.mp (pm.mem_iff.mp h') with h | h
          · rw [h]
            exact ⟨_, _, rfl⟩
          · exact Fn.two p' h
        · rw [(pm.map (·.2)).mem_iff, List.map_cons, List.mem_cons, Fn.all k, tk]
          constructor
          · rintro (h | ⟨p', h1, h2⟩)
            · exact ⟨z, List.mem_append_right _ (List.mem_singleton.mpr rfl), h⟩
            · exact ⟨p', List.mem_append_left _ h1, h2⟩
          · rintro ⟨p', h1, h2⟩
            rcases List.mem_append.mp h1 with h1 | h1
            · exact .inr ⟨p', h1, h2⟩
            · rw [List.mem_singleton.mp h1] at h2
              exact .inl h2
        · rw [pm.length_eq, List.length_cons, tk, List.length_append, List.length_take]
          simp
          omega
    · rintro σ H2 ⟨S3, v4, v5, v6, v7, L, rfl, Fn⟩
      rw [show pvs.length = ps.length from Pr.len hpv, List.take_length] at Fn
      have two := Fn.two
      -- x stands
      have ex2 : H2 x = some (.ins (He.ga K "Table") dx []) := S3 _ _ hx
      have nSx : S ≠ x := ne_of Fn.set.1 ex2 (fun z => nomatch z)
      refine ⟨_, rfl, a, ks.map V.str, _, rfl, SqL.of (S3 _ _ ha), srtIn_str _ ks (by omega), fun p hp => ?_⟩
      obtain ⟨ks', kp, ek⟩ : ∃ ks' : List Str, ks'.Perm ks ∧ srt (ks.map fun x => (V.str x, PyData.str x)) = ks'.map V.str := by
        refine perm_map_str ?_
        have := srt_perm (ks.map fun x => (V.str x, PyData.str x))
        rw [List.map_map] at this
        exact this
      rw [ek]
      refine ⟨p, _, rfl, .inl ⟨SqL.of upd_same, fun kt hkt => ?_⟩⟩
      have S4 : Same H2 (upd (upd H2 p (.lst (ks'.map V.str))) kt (.tup (ks'.map V.str))) := (Smn hp).trans (Smn hkt)
      have ekt : (upd (upd H2 p (.lst (ks'.map V.str))) kt (.tup (ks'.map V.str))) kt = some (.tup (ks'.map V.str)) := upd_same
      generalize (upd (upd H2 p (.lst (ks'.map V.str))) kt (.tup (ks'.map V.str))) = H4 at *
      have Fn4 := Fn.mono (S4 _ _) (Smt S4)
      refine ⟨_, rfl, x, _, dx, [], rfl, S4 _ _ ex2, T.cl_Table, T.na_Table_kinds, by show 0 < 1000; decide, ?_⟩
      have xk : ∀ {H : Hp} {C : Addr} {d : Addr} {gs gs' : List (Str × V)} {c : Addr} {u : HO}, H x = some (.ins C d gs) → c ≠ x → H c = some u → (upd H x (.ins C d gs')) c = some u := fun _ nc e => by
        rw [upd_ne nc]
        exact e
      have xt : ∀ {H : Hp} {C : Addr} {d : Addr} {gs gs' : List (Str × V)}, H x = some (.ins C d gs) → TupS H (upd H x (.ins C d gs')) := fun {H C d gs gs'} e c us e' => by
        rw [upd_ne (fun z => by rw [z, e] at e'; cases e')]
        exact e'
      have X5 : ∀ c u, c ≠ x → H c = some u → (upd H4 x (.ins (He.ga K "Table") dx (putF "kinds" (.ref kt) []))) c = some u := fun c u nc e => by
        rw [upd_ne nc]
        exact S4 _ _ (S3 _ _ e)
      have ekt5 := xt (gs' := putF "kinds" (.ref kt) []) (S4 _ _ ex2) _ _ ekt
      have Fn5 := Fn4.mono (fun e => xk (gs' := putF "kinds" (.ref kt) []) (S4 _ _ ex2) nSx e) (xt (S4 _ _ ex2))
      have ex5 : (upd H4 x (.ins (He.ga K "Table") dx (putF "kinds" (.ref kt) []))) x = some (.ins (He.ga K "Table") dx (putF "kinds" (.ref kt) [])) := upd_same
      generalize (upd H4 x (.ins (He.ga K "Table") dx (putF "kinds" (.ref kt) []))) = H5 at *
      -- the pairs
      refine ⟨_, rfl, S, L, rfl, Fn5.set, two, fun L' p2 pL hp2 => ?_⟩
      have two' : ∀ p ∈ L', ∃ x y, p.2 = [x, y] := fun p hp => two p (pL.mem_iff.mp hp)
      refine ⟨p2, _, rfl, .inl ⟨SqL.of upd_same, fun pt hpt => ?_⟩⟩
      have S6 : Same H5 (upd (upd H5 p2 (.lst (L'.map fun q => V.ref q.1))) pt (.tup (L'.map fun q => V.ref q.1))) := (Smn hp2).trans (Smn hpt)
      have ept : (upd (upd H5 p2 (.lst (L'.map fun q => V.ref q.1))) pt (.tup (L'.map fun q => V.ref q.1))) pt = some (.tup (L'.map fun q => V.ref q.1)) := upd_same
      generalize (upd (upd H5 p2 (.lst (L'.map fun q => V.ref q.1))) pt (.tup (L'.map fun q => V.ref q.1))) = H6 at *
      have ekt6 := S6 _ _ ekt5
      have Fn6 := Fn5.mono (S6 _ _) (Smt S6)
      have ex6 := S6 _ _ ex5
      refine ⟨_, rfl, x, _, dx, _, rfl, ex6, T.cl_Table, T.na_Table_pairs, Nat.lt_of_le_of_lt (length_putF _ _ _) (by show 1 < 1000; decide), ?_⟩
      have X7 : ∀ c u, c ≠ x → H c = some u → (upd H6 x (.ins (He.ga K "Table") dx (putF "pairs" (.ref pt) (putF "kinds" (.ref kt) [])))) c = some u := fun c u nc e => by
        rw [upd_ne nc]
        exact S6 _ _ (X5 c u nc e)
      have ekt7 := xt (gs' := putF "pairs" (.ref pt) (putF "kinds" (.ref kt) [])) ex6 _ _ ekt6
      have ept7 := xt (gs' := putF "pairs" (.ref pt) (putF "kinds" (.ref kt) [])) ex6 _ _ ept
      have Fn7 := Fn6.mono (fun e => xk (gs' := putF "pairs" (.ref pt) (putF "kinds" (.ref kt) [])) ex6 nSx e) (xt ex6)
      have ex7 : (upd H6 x (.ins (He.ga K "Table") dx (putF "pairs" (.ref pt) (putF "kinds" (.ref kt) [])))) x = some (.ins (He.ga K "Table") dx (putF "pairs" (.ref pt) (putF "kinds" (.ref kt) []))) := upd_same
      generalize (upd H6 x (.ins (He.ga K "Table") dx (putF "pairs" (.ref pt) (putF "kinds" (.ref kt) [])))) = H7 at *
      -- the links
      refine fun ln hln => ?_
      have S8 := Smn (o := .dK []) hln
      have xln : ln ≠ x := fun z => by rw [z, ex7] at hln; cases hln
      refine ⟨_, rfl, x, _, dx, _, rfl, S8 _ _ ex7, T.cl_Table, T.na_Table_linked, Nat.lt_of_le_of_lt (length_putF _ _ _) (Nat.lt_of_le_of_lt (Nat.succ_le_succ (length_putF _ _ _)) (by show 2 < 1000; decide)), ?_⟩
      obtain ⟨fs, efs⟩ : ∃ fs, fs = putF "linked" (.ref ln) (putF "pairs" (.ref pt) (putF "kinds" (.ref kt) [])) := ⟨_, rfl⟩
      have lkK : fs.lookup ("kinds" : Str) = some (V.ref kt) := by
        rw [efs, lkf_other _ _ (by decide), lkf_other _ _ (by decide), lkf_same]
      have lkP : fs.lookup ("pairs" : Str) = some (V.ref pt) := by
        rw [efs, lkf_other _ _ (by decide), lkf_same]
      have lkL : fs.lookup ("linked" : Str) = some (V.ref ln) := by
        rw [efs, lkf_same]
      have lkM : fs.lookup ("links" : Str) = none := by
        rw [efs, lkf_other _ _ (by decide), lkf_other _ _ (by decide), lkf_other _ _ (by decide)]
        rfl
      rw [← efs]
      have X9 : ∀ c u, c ≠ x → H c = some u → (upd (upd H7 ln (.dK [])) x (.ins (He.ga K "Table") dx fs)) c = some u := fun c u nc e => by
        rw [upd_ne nc]
        exact S8 _ _ (X7 c u nc e)
      have ekt9 := xt (gs' := fs) (S8 _ _ ex7) _ _ (S8 _ _ ekt7)
      have ept9 := xt (gs' := fs) (S8 _ _ ex7) _ _ (S8 _ _ ept7)
      have Fn9 := (Fn7.mono (S8 _ _) (Smt S8)).mono (fun e => xk (gs' := fs) (S8 _ _ ex7) nSx e) (xt (S8 _ _ ex7))
      have ex9 : (upd (upd H7 ln (.dK [])) x (.ins (He.ga K "Table") dx fs)) x = some (.ins (He.ga K "Table") dx fs) := upd_same
      have eln9 : (upd (upd H7 ln (.dK [])) x (.ins (He.ga K "Table") dx fs)) ln = some (.dK []) := by
        rw [upd_ne xln]
        exact upd_same
      have nH : H ln = none := by
        cases e : H ln with
        | none => rfl
        | some u =>
          have := X7 ln u xln e
          rw [hln] at this
          cases this
      generalize (upd (upd H7 ln (.dK [])) x (.ins (He.ga K "Table") dx fs)) = H9 at *
      obtain ⟨Tt, eT⟩ : ∃ Tt : Tb, Tt = ⟨ks', L'.map prOf⟩ := ⟨_, rfl⟩
      have mp : ∀ c : Str × Str, c ∈ Tt.pairs ↔ ∃ p ∈ ps, c = ip p.1 p.2 := fun c => by
        rw [eT]
        show c ∈ L'.map prOf ↔ _
        rw [prOf_mem two', (pL.map (·.2)).mem_iff, Fn.all]
        constructor
        · rintro ⟨p, h1, h2⟩
          injection h2 with h2 h3
          injection h3 with h3
          exact ⟨p, h1, Prod.ext h2 h3⟩
        · rintro ⟨p, h1, h2⟩
          exact ⟨p, h1, by rw [h2]⟩
      have frk : ∀ k o, Tt.fr k o = decide ([(ip k o).1, (ip k o).2] ∈ L.map (·.2)) := fun k o => by
        unfold Tb.fr
        refine decide_eq_decide.mpr ?_
        rw [eT]
        show ip k o ∈ L'.map prOf ↔ _
        rw [prOf_mem two', (pL.map (·.2)).mem_iff]
      have hkk : Tt.kinds = ks' := by rw [eT]
      have ok : TbOk Tt := by
        refine ⟨by rw [hkk]; exact kp.nodup_iff.mpr nd, fun k hk => hn k (kp.mem_iff.mp (hkk ▸ hk)), by rw [hkk, kp.length_eq]; exact h12, by rw [hkk, kp.length_eq]; exact h0, fun k => ?_, fun c hc => ?_, ?_, fun c hc => ?_⟩
        · unfold Tb.fr
          refine decide_eq_false fun hm => ?_
          obtain ⟨p, h1, h2⟩ := (mp _).mp hm
          have e1 : ip k k = (k, k) := by rcases ip_or k k with h | h <;> exact h
          rw [e1] at h2
          obtain ⟨_, _, h3⟩ := hps p h1
          rcases ip_or p.1 p.2 with h | h
          · rw [h] at h2
            injection h2 with a1 a2
            exact h3 (a1.symm.trans a2)
          · rw [h] at h2
            injection h2 with a1 a2
            exact h3 (a2.symm.trans a1)
        · obtain ⟨p, h1, h2⟩ := (mp _).mp hc
          obtain ⟨a1, a2, _⟩ := hps p h1
          rw [hkk, kp.mem_iff, kp.mem_iff, h2]
          rcases ip_or p.1 p.2 with h | h
          · rw [h]
            exact ⟨a1, a2⟩
          · rw [h]
            exact ⟨a2, a1⟩
        · rw [eT]
          show (L'.map prOf).length ≤ 1000
          have := Fn.len
          rw [List.length_map, pL.length_eq]
          omega
        · obtain ⟨p, h1, h2⟩ := (mp _).mp hc
          rw [h2]
          exact ip_idem _ _
      refine ⟨_, rfl, x, _, dx, fs, _, rfl, ex9, T.cl_Table, T.na_Table_kinds, lkK, kt, rfl, ⟨_, SqT.of ekt9⟩, ?_⟩
      refine for_it (walk_tup (K := K) (a := kt) (xs := ks'.map V.str)) (fun i σ H' => (∀ c u, c ≠ x → H c = some u → H' c = some u) ∧ ∃ v8 kvs, σ = [some (.ref x), some (.ref a), some (.ref b), some (.ref S), v4, v5, v6, v7, v8] ∧ H' kt = some (.tup (ks'.map V.str)) ∧ H' pt = some (.tup (L'.map fun q => V.ref q.1)) ∧ Fnp P w H' S L ps ∧
          H' x = some (.ins (He.ga K "Table") dx fs) ∧ H' ln = some (.dK kvs) ∧ kvs.length ≤ i ∧ ∀ k ∈ ks'.take i, ∃ la, valV kvs (.inr k) = some (.ref la) ∧ H' la = some (.tup ((Tt.links k).map V.str)))
        ⟨X9, none, [], rfl, ekt9, ept9, Fn9, ex9, eln9, Nat.le_refl _, fun k h => by cases h⟩ (fun i σ H' _ p => by obtain ⟨_, _, _, _, h, _⟩ := p; exact SqT.of h) ?_ ?_
      · rintro i y σ H10 H11 hi ⟨X10, v8, kvs, rfl, ekt', ept', Fn', ex', eln', kl, hk'⟩ y'
        obtain ⟨k, hk, rfl, rfl⟩ := yat_map y'
        refine ⟨_, rfl, x, _, dx, fs, _, rfl, ex', T.cl_Table, T.na_Table_kinds, lkK, kt, rfl, ⟨_, SqT.of ekt'⟩, fun D hD => ?_⟩
        refine lcV (walk_tup (K := K) (a := kt) (xs := ks'.map V.str)) ks' (by simp) (fun o => !Tt.fr k o) V.str hD (by have := kp.length_eq; omega) (fun H' S' => SqT.of (S' _ _ ekt')) ?_ ?_
        · rintro j o x2 H12 H13 K4 K3 ho S12 hA y2 k1 k2
          obtain ⟨o', ho', rfl, rfl⟩ := yat_map y2
          have : o' = o := Option.some.inj (ho'.symm.trans ho)
          subst this
          refine ⟨rfl, ?_⟩
          refine ⟨_, rfl, _, rfl, k, o', rfl, fun q1 hq1 => ?_⟩
          have Sq := Smn (o := .tup [.str (ip k o').1, .str (ip k o').2]) hq1
          refine ⟨_, rfl, q1, [(ip k o').1, (ip k o').2], S, L, rfl, rfl, upd_same, ⟨Sq _ _ (S12 _ _ Fn'.set.1), fun p hp => Sq _ _ (S12 _ _ (Fn'.set.2 p hp))⟩, ?_⟩
          refine ⟨_, rfl, ?_⟩
          show (if (!decide ([(ip k o').1, (ip k o').2] ∈ L.map (·.2))) = true then _ else _)
          rw [← frk]
          refine ite2 (fun c => ?_) (fun c => ?_)
          · exact ⟨_, rfl, k1 c _ Sq⟩
          · exact k2 (by simpa using c) _ Sq
        · intro H12 S12 eD
          refine ⟨D, _, rfl, .inl ⟨SqL.of eD, fun la hla => ?_⟩⟩
          have S13 := S12.trans (Smn (o := .tup ((ks'.filter fun o => !Tt.fr k o).map V.str)) hla)
          have elk : (ks'.filter fun o => !Tt.fr k o) = Tt.links k := by
            unfold Tb.links
            rw [hkk]
          rw [elk] at S13 ⊢
          refine ⟨_, rfl, x, _, dx, fs, _, rfl, S13 _ _ ex', T.cl_Table, T.na_Table_linked, lkL, _, rfl, ln, _, rfl, DPut.k (k := Sum.inr k) (S13 _ _ eln') (line5 (by have := kp.length_eq; rw [List.length_map] at hi; omega)), ?_⟩
          have ela : (upd H12 la (.tup ((Tt.links k).map V.str))) la = some (.tup ((Tt.links k).map V.str)) := upd_same
          have td := Tup_dK (u := .dK (putK kvs (Sum.inr k) (.ref la))) (S13 _ _ eln')
          have nlx : x ≠ ln := fun z => xln z.symm
          have nSl : S ≠ ln := ne_of (S13 _ _ Fn'.set.1) (S13 _ _ eln') (fun z => nomatch z)
          refine ⟨fun c u nc e => ?_, _, putK kvs (Sum.inr k) (.ref la), rfl, td _ _ (S13 _ _ ekt'), td _ _ (S13 _ _ ept'), (Fn'.mono (S13 _ _) (Smt S13)).mono (fun e => by rw [upd_ne nSl]; exact e) td, by rw [upd_ne nlx]; exact S13 _ _ ex', upd_same, ?_, fun k' hk2 => ?_⟩
          · rw [upd_ne (ne_of_none e nH)]
            exact S13 _ _ (X10 c u nc e)
          · have := length_putK kvs (Sum.inr k) (.ref la)
            omega
          · rw [valV_put]
            by_cases c : (Sum.inr k' : Key) = Sum.inr k
            · rw [if_pos c]
              have : k' = k := Sum.inr.inj c
              subst this
              exact ⟨la, rfl, td _ _ ela⟩
            · rw [if_neg c]
              rw [take_snoc hk] at hk2
              rcases List.mem_append.mp hk2 with h | h
              · obtain ⟨la', h1, h2⟩ := hk' k' h
                exact ⟨la', h1, td _ _ (S13 _ _ h2)⟩
              · exact absurd (by rw [List.mem_singleton.mp h]) c
      · rintro σ H10 ⟨X10, v8, kvs, rfl, ekt', ept', Fn', ex', eln', kl, hk'⟩
        rw [List.length_map, List.take_length] at hk'
        refine q H10 Tt X10 ⟨ok, dx, fs, kt, pt, ln, kvs, _, ex', lkM, lkK, by rw [hkk]; exact ekt', lkP, ept', ?_, lkL, eln', fun k hk => hk' k (hkk ▸ hk)⟩ (hkk ▸ kp) fun c d => ?_
        · rw [eT]
          exact prs_of two' fun p hp => Fn'.set.2 p (pL.mem_iff.mp hp)
        · unfold Tb.fr
          rw [decide_eq_true_eq, mp]
          constructor
          · rintro ⟨p, h1, h2⟩
            exact ⟨p, h1, h2.symm⟩
          · rintro ⟨p, h1, h2⟩
            exact ⟨p, h1, h2.symm⟩
end
end Un

/-! ## D9 -/
set_option Elab.async false
set_option linter.all false
set_option maxRecDepth 100000
set_option maxHeartbeats 4000000
namespace Un
open PySem PySem.Spec PyProof.Rows L2 StX
section
variable {P : Program} {w : World} {K : PySem.W.Frag} {mg : Str → Option Value} {base : Heap}
/-! Table.of_cells -/
abbrev s_Table_of_cells : Stmt := (inClass (top 26) 1)
abbrev N_Table_of_cells : List Str := ["cls", "cells", "kinds", "pairs", "at", "one", "other", "reads", "writes", "others", "more"]
abbrev P_Table_of_cells : List Str := ["cls", "cells"]
theorem sc_Table_of_cells : FnScope N_Table_of_cells P_Table_of_cells (defScope s_Table_of_cells) := ⟨rfl, rfl, rfl, by decide +kernel, rfl, by decide +kernel, by decide +kernel⟩

/-- neither writes what the other one reads or writes -/
def indep (p q : List Str × List Str) : Prop := (∀ x ∈ p.2, x ∉ q.1 ∧ x ∉ q.2) ∧ (∀ x ∈ q.2, x ∉ p.1 ∧ x ∉ p.2)
def spCells (K : PySem.W.Frag) : Sp := fun vs H Q _ => ∃ (C d : Addr) (kvs : List (Key × V)) (ks : List Str) (rk : Str → List Str × List Str), vs = [.ref C, .ref d] ∧ H d = some (.dK kvs) ∧ kvs.map Prod.fst = ks.map Sum.inr ∧ ks.Nodup ∧ (∀ k ∈ ks, nameOk k) ∧ 0 < ks.length ∧ ks.length ≤ 5 ∧
  (∀ k ∈ ks, ∃ a r wr, valV kvs (.inr k) = some (.ref a) ∧ H a = some (.tup [.ref r, .ref wr]) ∧ H r = some (.tup ((rk k).1.map V.str)) ∧ H wr = some (.tup ((rk k).2.map V.str)) ∧ (rk k).1.length ≤ 100 ∧ (rk k).2.length ≤ 100) ∧
  ∀ H' x T, Same H H' → TabAt K H' x T → T.kinds.Perm ks → (∀ a b, T.fr a b = true → a ∈ ks ∧ b ∈ ks ∧ indep (rk a) (rk b)) → Q (.ref x) H'
theorem ip_eq {a b c d : Str} (h : ip a b = ip c d) : (a = c ∧ b = d) ∨ (a = d ∧ b = c) := by
  rcases ip_or a b with h1 | h1 <;> rcases ip_or c d with h2 | h2 <;> rw [h1, h2] at h <;> injection h with x y
  · exact .inl ⟨x, y⟩
  · exact .inr ⟨x, y⟩
  · exact .inr ⟨y, x⟩
  · exact .inl ⟨y, x⟩
theorem any_no {xs ys zs : List Str} (h : (xs.any fun x => decide (x ∈ ys ++ zs)) = false) : ∀ x ∈ xs, x ∉ ys ∧ x ∉ zs := by
  intro x hx
  have := List.any_eq_false.mp h x hx
  have : x ∉ ys ++ zs := by simpa using this
  rw [List.mem_append] at this
  exact ⟨fun z => this (.inl z), fun z => this (.inr z)⟩
theorem ok_Table_of_cells (T : Txt K mg) {f : Addr} (F : FnT K "of_cells" "Table.of_cells" s_Table_of_cells f) (F_check_kinds : FnR P w K mg base CX0 2 (He.ga K "check_kinds") (spCkKinds K)) (F_meet : FnR P w K mg base CX0 1 (He.ga K "meet") (spMeet K)) (F_Table___init__ : FnR P w K mg base CX0 3 (He.ma K (He.ga K "Table") "__init__") (spTabInit K)) : FnR P w K mg base CX0 5 f (spCells K) := by
  refine F.ok sc_Table_of_cells (fun _ _ _ _ _ _ us hl => match us, hl with | [_, _], _ => rfl) (fun vs H Q E h => ?_) (fun cdv A outer s H vs Q E hr h => ?_)
  · obtain ⟨C, d, kvs, ks, rw', rfl, _⟩ := h
    rfl
  · obtain ⟨C, d, kvs, ks, rw', rfl, hd, hks, nd, hn, h0, h5, hc, q⟩ := h
    refine ⟨_, (pss_cons (ps_set (i := 2) sc_Table_of_cells.nd rfl (Or.inl rfl) (pe_callB (cr_srtD rfl hr.units65) rfl T.f_sorted boot_sorted (pa_cons (pv 1) pa_nil)))
      (pss_cons (ps_expr (pe_callR F_check_kinds (hr.mono (by decide)) rfl T.m_check_kinds T.k_check_kinds pass0 (pa_cons (pv 2) pa_nil)))
      (pss_cons (ps_set (i := 3) sc_Table_of_cells.nd rfl (Or.inl rfl) (pe_lst pa_nil))
      (pss_cons (ps_for PassesOwn.never rfl (pi_enum rfl T.f_enumerate (pa_cons (pv 2) pa_nil)) (pg_tup (n := 2) rfl (pgs_cons (pg_name (i := 4) sc_Table_of_cells.nd rfl (Or.inl rfl)) (pgs_cons (pg_name (i := 5) sc_Table_of_cells.nd rfl (Or.inl rfl)) pgs_nil))) (pss_one (ps_for PassesOwn.never rfl (pi_list (pe_slice sl_list (pv 2) po_none (po_some (pv 4)))) (pg_name (i := 6) sc_Table_of_cells.nd rfl (Or.inl rfl)) (pss_cons (ps_asg (pe_dget (hu_of hr) (pv 1) (pv 5) (fun _ _ => rfl)) (pg_tup (n := 2) rfl (pgs_cons (pg_name (i := 7) sc_Table_of_cells.nd rfl (Or.inl rfl)) (pgs_cons (pg_name (i := 8) sc_Table_of_cells.nd rfl (Or.inl rfl)) pgs_nil))))
      (pss_cons (ps_asg (pe_dget (hu_of hr) (pv 1) (pv 6) (fun _ _ => rfl)) (pg_tup (n := 2) rfl (pgs_cons (pg_name (i := 9) sc_Table_of_cells.nd rfl (Or.inl rfl)) (pgs_cons (pg_name (i := 10) sc_Table_of_cells.nd rfl (Or.inl rfl)) pgs_nil))))
      (pss_one (ps_if (PW.pt (pw_and (pt_not (pt_val (pe_callR F_meet (hr.mono (by decide)) rfl T.m_meet T.k_meet pass0 (pa_cons (pv 8) (pa_cons (pe_lst (pa_star (pv 9) (pa_star (pv 10) pa_nil))) pa_nil))))) (pw_and1 (pt_not (pt_val (pe_callR F_meet (hr.mono (by decide)) rfl T.m_meet T.k_meet pass0 (pa_cons (pv 10) (pa_cons (pe_lst (pa_star (pv 7) (pa_star (pv 8) pa_nil))) pa_nil)))))))) (pss_one (ps_expr (pe_bm PySem.F.plainAttrs_list PySem.F.slot_list_append PySem.F.type_list_append mt_append (pv 3) (pa_cons (pe_tup (pa_cons (pv 5) (pa_cons (pv 6) pa_nil))) pa_nil)))) pss_nil)))))))
      (pss_one (ps_ret (pe_makeR T.mk_Table F_Table___init__ (hr.mono (by decide)) rfl T.m_Table pass0 (pa_cons (pv 2) (pa_cons (pv 3) pa_nil))))))))), ?_⟩
    have ekv : kvs.map (fun p => kV p.1) = ks.map V.str := by
      have := congrArg (List.map kV) hks
      rw [List.map_map, List.map_map] at this
      exact this
    refine ⟨_, rfl, d, kvs, _, rfl, .inl hd, ekv ▸ srtIn_str _ ks (by omega), fun p hp => ?_⟩
    obtain ⟨ks', kp, ek⟩ : ∃ ks' : List Str, ks'.Perm ks ∧ srt (ks.map fun x => (V.str x, PyData.str x)) = ks'.map V.str := by
      refine perm_map_str ?_
      have := srt_perm (ks.map fun x => (V.str x, PyData.str x))
      rw [List.map_map] at this
      exact this
    rw [ek]
    have S1 := Smn (o := .lst (ks'.map V.str)) hp
    have ep : (upd H p (.lst (ks'.map V.str))) p = some (.lst (ks'.map V.str)) := upd_same
    have lk' := kp.length_eq
    have nd' : ks'.Nodup := kp.nodup_iff.mpr nd
    have hn' : ∀ k ∈ ks', nameOk k := fun k hk => hn k (kp.mem_iff.mp hk)
    refine ⟨_, rfl, p, ks', rfl, SqL.of ep, nd', hn', by omega, by omega, fun H2 S2 => ?_⟩
    have S12 := S1.trans S2
    have ep2 := S2 _ _ ep
    refine ⟨Nat.zero_le _, fun G hG => ?_⟩
    have S3 := S12.trans (Smn (o := .lst []) hG)
    have ep3 := Smn (o := .lst []) hG _ _ ep2
    have eG3 : (upd H2 G (.lst [])) G = some (.lst []) := upd_same
    have hG0 : H G = none := by
      cases e : H G with
      | none => rfl
      | some u =>
        have := S12 _ _ e
        rw [hG] at this
        cases this
    generalize (upd H2 G (.lst [])) = H3 at *
    have npG : p ≠ G := ne_of_none ep2 hG
    refine ⟨_, rfl, p, ks'.map V.str, rfl, SqL.of ep3, ?_⟩
    refine for_it (walk_enum (K := K) (a := p) (xs := ks'.map V.str)) (fun i σ H' => Same H H' ∧ H' p = some (.lst (ks'.map V.str)) ∧ ∃ v4 v5 v6 v7 v8 v9 v10 pvs ps, σ = [some (.ref C), some (.ref d), some (.ref p), some (.ref G), v4, v5, v6, v7, v8, v9, v10] ∧
        H' G = some (.lst pvs) ∧ Prs H' pvs ps ∧ ps.length ≤ 5 * i ∧ ∀ p ∈ ps, p.1 ∈ ks ∧ p.2 ∈ ks ∧ p.1 ≠ p.2 ∧ indep (rw' p.1) (rw' p.2))
      ⟨S3, ep3, none, none, none, none, none, none, none, [], [], rfl, eG3, .nil, Nat.zero_le _, fun p h => by cases h⟩ (fun i σ H' _ p => SqL.of p.2.1) ?_ ?_
    · rintro i y σ H4 H5 hi ⟨S4, ep4, v4, v5, v6, v7, v8, v9, v10, pvs, ps, rfl, eG4, hps, pl, hall⟩ y'
      obtain ⟨t, one, hone, rfl, ht, rfl⟩ := yp_enum y'
      have hik : i < ks'.length := by simpa using hi
      have St := Smn (o := .tup [.int ((i : Nat) : Int), .str one]) ht
      have onek : one ∈ ks := kp.mem_iff.mp (List.mem_of_getElem? hone)
      refine g2 (SqT.of upd_same) ?_
      have S5 := S4.trans St
      have ep5 := St _ _ ep4
      have eG5 := St _ _ eG4
      have hps5 := Prs.mono (Smt St) hps
      generalize (upd H4 t (.tup [.int ((i : Nat) : Int), .str one])) = H5 at *
      refine ⟨_, rfl, _, rfl, _, rfl, p, _, rfl, SqL.of ep5, fun c hc' => ?_⟩
      have ct : cutV (ks'.map V.str) none (some (i : Nat)) = (ks'.take i).map V.str := by
        rw [cutV_take (by rw [List.length_map]; omega), List.map_take]
      rw [ct]
      have Sc := Smn (o := .lst ((ks'.take i).map V.str)) hc'
      have S6 := S5.trans Sc
      have ep6 := Sc _ _ ep5
      have eG6 := Sc _ _ eG5
      have hps6 := Prs.mono (Smt Sc) hps5
      have ec6 : (upd H5 c (.lst ((ks'.take i).map V.str))) c = some (.lst ((ks'.take i).map V.str)) := upd_same
      generalize (upd H5 c (.lst ((ks'.take i).map V.str))) = H6 at *
      have ncG : c ≠ G := fun z => by rw [z, eG5] at hc'; cases hc'
      refine ⟨c, rfl, ⟨_, SqL.of ec6⟩, ?_⟩
      refine for_it (walk_list (K := K) (a := c) (xs := (ks'.take i).map V.str)) (fun j σ H' => Same H H' ∧ H' p = some (.lst (ks'.map V.str)) ∧ H' c = some (.lst ((ks'.take i).map V.str)) ∧ ∃ v6 v7 v8 v9 v10 pvs ps, σ = [some (.ref C), some (.ref d), some (.ref p), some (.ref G), some (.int (i : Nat)), some (.str one), v6, v7, v8, v9, v10] ∧
        H' G = some (.lst pvs) ∧ Prs H' pvs ps ∧ ps.length ≤ 5 * i + j ∧ ∀ p ∈ ps, p.1 ∈ ks ∧ p.2 ∈ ks ∧ p.1 ≠ p.2 ∧ indep (rw' p.1) (rw' p.2))
        ⟨S6, ep6, ec6, v6, v7, v8, v9, v10, pvs, ps, rfl, eG6, hps6, by omega, hall⟩ (fun i σ H' _ p => SqL.of p.2.2.1) ?_ ?_
      · rintro j y σ H70 H7 hj ⟨S7, ep7, ec7, v6', v7', v8', v9', v10', pvs', ps', rfl, eG7, hps7, pl', hall'⟩ y2
        obtain ⟨other, hother, rfl, rfl⟩ := yat_map y2
        have otherk : other ∈ ks := kp.mem_iff.mp (List.mem_of_mem_take (List.mem_of_getElem? hother))
        have ne : one ≠ other := fun z => by
          obtain ⟨hj', e⟩ := List.getElem?_eq_some_iff.mp hother
          rw [List.length_take] at hj'
          rw [List.getElem_take] at e
          obtain ⟨_, e2⟩ := List.getElem?_eq_some_iff.mp hone
          have := (List.getElem_inj nd').mp (e.trans (z.symm.trans e2.symm))
          omega
        obtain ⟨a1, r1, w1, hv1, ea1, er1, ew1, lr1, lw1⟩ := hc one onek
        obtain ⟨a2, r2, w2, hv2, ea2, er2, ew2, lr2, lw2⟩ := hc other otherk
        refine ⟨_, rfl, _, rfl, d, .ref a1, rfl, hv1 ▸ DGet.k (k := Sum.inr one) (S7 _ _ hd), ?_⟩
        refine g2 (SqT.of (S7 _ _ ea1)) ?_
        refine ⟨_, rfl, _, rfl, d, .ref a2, rfl, hv2 ▸ DGet.k (k := Sum.inr other) (S7 _ _ hd), ?_⟩
        refine g2 (SqT.of (S7 _ _ ea2)) ?_
        refine ⟨_, rfl, _, rfl, r2, _, rfl, .inl (SqT.of (S7 _ _ er2)), _, rfl, w2, _, rfl, .inl (SqT.of (S7 _ _ ew2)), ?_⟩
        refine ⟨by rw [List.append_nil, List.length_append, List.length_map, List.length_map]; exact Nat.le_of_lt (line5 (by omega)), fun l hl => ?_⟩
        have Sl := Smn (o := .lst ((rw' other).1.map V.str ++ ((rw' other).2.map V.str ++ []))) hl
        refine ⟨w1, l, (rw' one).2, (rw' other).1 ++ (rw' other).2, rfl, Sl _ _ (S7 _ _ ew1), by rw [upd_same, List.append_nil, List.map_append], by omega, fun H8 S8 => ?_⟩
        refine ⟨_, rfl, ?_⟩
        have S78 := Sl.trans S8
        have done7 : ∀ H9, Same H7 H9 → TupS H7 H9 → Same H H9 ∧ H9 p = some (.lst (ks'.map V.str)) ∧ H9 c = some (.lst ((ks'.take i).map V.str)) ∧ H9 G = some (.lst pvs') ∧ Prs H9 pvs' ps' := fun H9 S9 t9 =>
          ⟨S7.trans S9, S9 _ _ ep7, S9 _ _ ec7, S9 _ _ eG7, Prs.mono t9 hps7⟩
        have skip : ∀ H9, Same H7 H9 → Same H H9 ∧ H9 p = some (.lst (ks'.map V.str)) ∧ H9 c = some (.lst ((ks'.take i).map V.str)) ∧ ∃ v6 v7 v8 v9 v10 pvs ps, [some (V.ref C), some (.ref d), some (.ref p), some (.ref G), some (.int (i : Nat)), some (.str one), some (.str other), some (.ref r1), some (.ref w1), some (.ref r2), some (.ref w2)] = [some (.ref C), some (.ref d), some (.ref p), some (.ref G), some (.int (i : Nat)), some (.str one), v6, v7, v8, v9, v10] ∧
            H9 G = some (.lst pvs) ∧ Prs H9 pvs ps ∧ ps.length ≤ 5 * i + (j + 1) ∧ ∀ p ∈ ps, p.1 ∈ ks ∧ p.2 ∈ ks ∧ p.1 ≠ p.2 ∧ indep (rw' p.1) (rw' p.2) := fun H9 S9 => by
          obtain ⟨a1, a2, a3, a4, a5⟩ := done7 H9 S9 (Smt S9)
          exact ⟨a1, a2, a3, _, _, _, _, _, pvs', ps', rfl, a4, a5, by omega, hall'⟩
        cases m1 : ((rw' one).2.any fun x => decide (x ∈ (rw' other).1 ++ (rw' other).2)) with
        | true => exact skip _ S78
        | false =>
          refine ite_t rfl ?_
          refine ⟨_, rfl, _, rfl, r1, _, rfl, .inl (SqT.of (S78 _ _ (S7 _ _ er1))), _, rfl, w1, _, rfl, .inl (SqT.of (S78 _ _ (S7 _ _ ew1))), ?_⟩
          refine ⟨by rw [List.append_nil, List.length_append, List.length_map, List.length_map]; exact Nat.le_of_lt (line5 (by omega)), fun l2 hl2 => ?_⟩
          have Sl2 := S78.trans (Smn (o := .lst ((rw' one).1.map V.str ++ ((rw' one).2.map V.str ++ []))) hl2)
          refine ⟨w2, l2, (rw' other).2, (rw' one).1 ++ (rw' one).2, rfl, Sl2 _ _ (S7 _ _ ew2), by rw [upd_same, List.append_nil, List.map_append], by omega, fun H9 S9 => ?_⟩
          refine ⟨_, rfl, ?_⟩
          have S79 := Sl2.trans S9
          cases m2 : ((rw' other).2.any fun x => decide (x ∈ (rw' one).1 ++ (rw' one).2)) with
          | true => exact skip _ S79
          | false =>
            refine ite_t rfl ?_
            refine ⟨_, rfl, tyL (S79 _ _ eG7), _, rfl, _, rfl, ?_⟩
            refine ⟨by show 2 ≤ sizeLine; exact Nat.le_of_lt (line5 (by omega)), fun q1 hq1 => ?_⟩
            have Sq := S79.trans (Smn (o := .tup [.str one, .str other]) hq1)
            have plen := Pr.len hps7
            have jl : j < 5 := by
              have : ((ks'.take i).map V.str).length = min i ks'.length := by rw [List.length_map, List.length_take]
              omega
            refine ⟨G, pvs', _, rfl, rfl, Sq _ _ eG7, line5 (by omega), ?_⟩
            have e1 : (upd H9 q1 (.tup [.str one, .str other])) q1 = some (.tup [.str one, .str other]) := upd_same
            have eGx := Sq _ _ eG7
            generalize (upd H9 q1 (.tup [.str one, .str other])) = HA at *
            have tG := Tup_lst (ys := pvs' ++ [.ref q1]) eGx
            refine ⟨Sup (S7.trans Sq) hG0, by rw [upd_ne npG]; exact Sq _ _ ep7, by rw [upd_ne ncG]; exact Sq _ _ ec7, _, _, _, _, _, pvs' ++ [.ref q1], ps' ++ [(one, other)], rfl, upd_same, Pr.app (Prs.mono tG (Prs.mono (Smt Sq) hps7)) (Pr.one ⟨q1, rfl, tG _ _ e1⟩), by rw [List.length_append]; show ps'.length + 1 ≤ _; omega, fun p' hp' => ?_⟩
            rcases List.mem_append.mp hp' with h | h
            · exact hall' p' h
            · rw [List.mem_singleton.mp h]
              exact ⟨onek, otherk, ne, any_no m1, any_no m2⟩
      · rintro σ H7 ⟨S7, ep7, ec7, v6', v7', v8', v9', v10', pvs', ps', rfl, eG7, hps7, pl', hall'⟩
        refine ⟨S7, ep7, _, _, _, _, _, _, _, pvs', ps', rfl, eG7, hps7, ?_, hall'⟩
        rw [List.length_map, List.length_take] at pl'
        omega
    · rintro σ H4 ⟨S4, ep4, v4, v5, v6, v7, v8, v9, v10, pvs, ps, rfl, eG4, hps, pl, hall⟩
      rw [List.length_map] at pl
      refine ⟨_, rfl, _, rfl, fun x dx hx hdx nx => ?_⟩
      have Sx : Same H4 (upd (upd H4 dx (.own x)) x (.ins (He.ga K "Table") dx [])) := fun b u e => by
        rw [upd_ne (ne_of_none e hx), upd_ne (ne_of_none e hdx)]
        exact e
      refine ⟨x, dx, p, G, ks', pvs, ps, rfl, upd_same, Sx _ _ ep4, nd', hn', by omega, by omega, Sx _ _ eG4, Prs.mono (Smt Sx) hps, by omega, fun z hz => ?_, fun H5 Tt X5 hT kp2 hfr => ?_⟩
      · obtain ⟨b1, b2, b3, _⟩ := hall z hz
        exact ⟨kp.mem_iff.mpr b1, kp.mem_iff.mpr b2, b3⟩
      · refine ⟨rfl, q H5 x Tt (fun b u e => ?_) hT (kp2.trans kp) fun a b hab => ?_⟩
        · have e4 := S4 _ _ e
          exact X5 b u (ne_of_none e4 hx) (Sx _ _ e4)
        · obtain ⟨z, hz, e⟩ := (hfr a b).mp hab
          obtain ⟨b1, b2, _, b4⟩ := hall z hz
          rcases ip_eq e with ⟨rfl, rfl⟩ | ⟨rfl, rfl⟩
          · exact ⟨b1, b2, b4⟩
          · exact ⟨b2, b1, b4.2, b4.1⟩
end
end Un

/-! ## D10 -/
set_option Elab.async false
set_option linter.all false
set_option maxRecDepth 100000
set_option maxHeartbeats 4000000
namespace Un
open PySem PySem.Spec PyProof.Rows L2 StX
section
variable {P : Program} {w : World} {K : PySem.W.Frag} {mg : Str → Option Value} {base : Heap}
theorem Isi.ty {C : Addr} (S : Isi K C) (cl : Cls K C) {H : Hp} {a dx : Addr} {fs : List (Str × V)} (e : H a = some (.ins C dx fs)) : TyX K H (.ref a) (.ref C) := .base (.ins e cl S.ca S.cn S.ct S.cm)
theorem eqv_strs (xs : List Str) : PyData.eqv (.tuple (xs.map PyData.str)) (.tuple (xs.map PyData.str)) = true := by
  have := eqvAll_map PyData.str eqv_str xs xs
  unfold PyData.eqv
  rw [this]
  exact decide_eq_true rfl
theorem eqv_pairs (xs : List (Str × Str)) : PyData.eqv (.tuple (xs.map encP)) (.tuple (xs.map encP)) = true := by
  have := eqvAll_map encP eqv_pair xs xs
  unfold PyData.eqv
  rw [this]
  exact decide_eq_true rfl
/-! Table.__eq__ -/
abbrev s_Table___eq__ : Stmt := (inClass (top 26) 15)
abbrev N_Table___eq__ : List Str := ["self", "other"]
abbrev P_Table___eq__ : List Str := ["self", "other"]
theorem sc_Table___eq__ : FnScope N_Table___eq__ P_Table___eq__ (defScope s_Table___eq__) := ⟨rfl, rfl, rfl, by decide +kernel, rfl, by decide +kernel, by decide +kernel⟩

def spTabEq (K : PySem.W.Frag) : Sp := fun vs H Q _ => ∃ t T, vs = [.ref t, .ref t] ∧ TabAt K H t T ∧ Q (.bl true) H
theorem ok_Table___eq__ (T : Txt K mg) {f : Addr} (F : FnT K "__eq__" "Table.__eq__" s_Table___eq__ f) : FnR P w K mg base CX0 1 f (spTabEq K) := by
  refine F.ok sc_Table___eq__ (fun _ _ _ _ _ _ us hl => match us, hl with | [_, _], _ => rfl) (fun vs H Q E h => ?_) (fun cdv A outer s H vs Q E hr h => ?_)
  · obtain ⟨t, T', rfl, _⟩ := h
    rfl
  · obtain ⟨t, Tb, rfl, hT, q⟩ := h
    refine ⟨_, (pss_one (ps_ret (pe_and (pe_callB call_isi rfl T.f_isinstance boot_isinstance (pa_cons (pv 1) (pa_cons (pe_glob (v := .ref (He.ga K "Table")) rfl T.m_Table rfl) pa_nil))) (pe_and (pe_cmpR (op_eqD hr.units) (pe_fld (pv 0) rfl) (pe_fld (pv 1) rfl) (nomark _)) (pe_one (pe_cmpR (op_eqD hr.units) (pe_fld (pv 0) rfl) (pe_fld (pv 1) rfl) (nomark _))))))), ?_⟩
    obtain ⟨dx, fs, ks, ps, ln, kvs, pvs, h1, h2, h3, h4, h5, h6, h7, h8, h9, h10⟩ := hT.ex
    refine ⟨_, rfl, .ref t, .ref (He.ga K "Table"), .ref (He.ga K "Table"), .ref (He.ga K "Table"), true, rfl, .own _, T.is_Table.ty T.cl_Table h1, T.is_Table.me, true, rfl, ?_⟩
    refine ite_t rfl ?_
    refine ⟨_, rfl, t, _, dx, fs, _, rfl, h1, T.cl_Table, T.na_Table_kinds, h3, _, rfl, t, _, dx, fs, _, rfl, h1, T.cl_Table, T.na_Table_kinds, h3, _, _, .tup (SqT.of h4) (dpAll_str _), .tup (SqT.of h4) (dpAll_str _), (shaped_of _ ?_).1, (shaped_of _ ?_).1, ?_⟩
    · intro d hd
      obtain ⟨k, hk, rfl⟩ := List.mem_map.mp hd
      exact lay_str (hT.ok.name k hk).strOk
    · intro d hd
      obtain ⟨k, hk, rfl⟩ := List.mem_map.mp hd
      exact lay_str (hT.ok.name k hk).strOk
    rw [eqv_strs]
    refine ⟨true, rfl, ite_t rfl ?_⟩
    have lp : ∀ d ∈ Tb.pairs.map encP, d.canLay0 = true ∧ d.depth ≤ 8 := by
      intro d hd
      obtain ⟨p, hp, rfl⟩ := List.mem_map.mp hd
      exact lay_pair (hT.ok.name _ (hT.ok.sub p hp).1).strOk (hT.ok.name _ (hT.ok.sub p hp).2).strOk
    refine ⟨_, rfl, t, _, dx, fs, _, rfl, h1, T.cl_Table, T.na_Table_pairs, h5, _, rfl, t, _, dx, fs, _, rfl, h1, T.cl_Table, T.na_Table_pairs, h5, _, _, .tup (SqT.of h6) (dpAll_pair h7), .tup (SqT.of h6) (dpAll_pair h7), (shaped_of _ lp).1, (shaped_of _ lp).1, ?_⟩
    rw [eqv_pairs]
    exact q
end
end Un

/-! ## D11 -/
set_option Elab.async false
set_option linter.all false
set_option maxRecDepth 100000
set_option maxHeartbeats 4000000
namespace Un
open PySem PySem.Spec PyProof.Rows L2 StX
section
variable {P : Program} {w : World} {K : PySem.W.Frag} {mg : Str → Option Value} {base : Heap}
theorem FnT.okS {x qual : Str} {st : Stmt} {f : Addr} {N ps : List Str} {pv : Str} {k : Nat} {sp : Sp} (F : FnT K x qual st f) (S : FnScope N (ps ++ [pv]) (defScope st))
    (hb : ∀ (kV doc pm : Value) (an : Option Addr) (cdv ct : Value) (us rest : List Value), us.length = ps.length → bindArgs (PySem.W.fnOf x qual (defArgs st) (defBody st) (defScope st) .none kV doc pm an cdv ct) ⟨us ++ rest, []⟩ = (newTuple rest >>= fun t => pure (ps.zip us ++ [(pv, t)])))
    (hbody : ∀ (cdv : Value) (A : Around) (outer : List Env) (s : Shared) (H : Hp) (vs : List V) (Q : VK) (E : XK), Room k (A.deeper (envOfC qual (defScope st) s.heap.objs.size f cdv)) → sp vs H Q E →
      ∃ t, PSs (cxOf CX0 P w K mg base N qual (defScope st) f cdv A outer s H E).nox (defBody st) t ∧ t { nx := fun _ H' => Q .non H', rt := Q } (start N vs) H) :
    FnR P w K mg base CX0 (k + 1) f (fun vs H Q E => ∃ ws rest, vs = ws ++ rest ∧ ws.length = ps.length ∧ rest.length ≤ sizeLine ∧ ∀ p, H p = none → sp (ws ++ [V.ref p]) (upd H p (.tup rest)) Q E) := by
  obtain ⟨oc, od, kV, doc, pm, an, cdv, ct, osl, lk, hcd⟩ := F.ex
  exact fn_star lk hcd S cxUp_none (hb kV doc pm an cdv ct) fun A outer s H vs Q E hr hsp => by
      obtain ⟨t, h, q⟩ := hbody cdv A outer s H vs Q E hr hsp
      exact ⟨t, h.nox, q⟩
theorem Pr.mapR {α β γ : Type} {F : α → γ → Prop} {g : β → γ} : ∀ {xs : List α} {ys : List β}, Paired (fun (v : α) (z : β) => F v (g z)) xs ys → Paired F xs (ys.map g)
  | _, _, .nil => .nil
  | _, _, .cons r t => .cons r (Pr.mapR t)
structure RowAt (K : PySem.W.Frag) (H : Hp) (r t : Addr) (T : Tb) (ss : List (Str × Int)) : Prop where
  ex : ∃ dx fs p vs, H r = some (.ins (He.ga K "Row") dx fs) ∧ lk fs "table" = some (.ref t) ∧ lk fs "syllables" = some (.ref p) ∧ H p = some (.tup vs) ∧ Syls H vs ss ∧ lk fs "without" = none ∧ lk fs "moved" = none
  tab : TabAt K H t T
  kin : inK T ss
theorem RowAt.mono {H H' : Hp} {r t : Addr} {T : Tb} {ss : List (Str × Int)} (s : Same H H') (h : RowAt K H r t T ss) : RowAt K H' r t T ss := by
  obtain ⟨dx, fs, p, vs, h1, h2, h3, h4, h5, h6, h7⟩ := h.ex
  exact ⟨⟨dx, fs, p, vs, s _ _ h1, h2, h3, s _ _ h4, Syls.mono (Smt s) h5, h6, h7⟩, h.tab.mono s, h.kin⟩
def HoB (k : Bool) (xs : List V) : HO := match k with
  | true => .lst xs
  | false => .tup xs
theorem HoB.sq {H : Hp} {a : Addr} {k : Bool} {xs : List V} (h : H a = some (HoB k xs)) : SqB K k H a xs := by
  cases k with
  | true => exact SqL.of h
  | false => exact SqT.of h
theorem HoB.ne {H : Hp} {a x C d : Addr} {k : Bool} {xs : List V} {fs : List (Str × V)} (h : H a = some (HoB k xs)) (e : H x = some (.ins C d fs)) : a ≠ x := fun z => by
  rw [z, e] at h
  cases k <;> cases h
theorem TabAt.monoX {H H' : Hp} {t x C d : Addr} {T : Tb} (hx : H x = some (.ins C d [])) (s : ∀ c u, c ≠ x → H c = some u → H' c = some u) (h : TabAt K H t T) : TabAt K H' t T := by
  have nt : ∀ {c : Addr} {us : List V}, H c = some (.tup us) → H' c = some (.tup us) := fun {c us} e => s _ _ (fun z => by rw [z, hx] at e; cases e) e
  obtain ⟨dx, fs, ks, ps, ln, kvs, pvs, h1, h2, h3, h4, h5, h6, h7, h8, h9, h10⟩ := h.ex
  have n1 : t ≠ x := fun z => by
    rw [z, hx] at h1
    injection (Option.some.inj h1) with _ _ e
    rw [← e] at h3
    cases h3
  have n2 : ln ≠ x := fun z => by rw [z, hx] at h9; cases h9
  exact ⟨h.ok, dx, fs, ks, ps, ln, kvs, pvs, s _ _ n1 h1, h2, h3, nt h4, h5, nt h6, Prs.mono (fun b us e => nt e) h7, h8, s _ _ n2 h9, fun k hk => let ⟨la, q1, q2⟩ := h10 k hk; ⟨la, q1, nt q2⟩⟩
/-! Row.__init__ -/
abbrev s_Row___init__ : Stmt := (inClass (top 48) 0)
abbrev N_Row___init__ : List Str := ["self", "table", "syllables", "kind", "count"]
abbrev P_Row___init__ : List Str := ["self", "table", "syllables"]
theorem sc_Row___init__ : FnScope N_Row___init__ P_Row___init__ (defScope s_Row___init__) := ⟨rfl, rfl, rfl, by decide +kernel, rfl, by decide +kernel, by decide +kernel⟩

def spRowInit (K : PySem.W.Frag) : Sp := fun vs H Q _ => ∃ x dx t a k T xs ss, vs = [.ref x, .ref t, .ref a] ∧ H x = some (.ins (He.ga K "Row") dx []) ∧ TabAt K H t T ∧ H a = some (HoB k xs) ∧ Syls H xs ss ∧ inK T ss ∧ ss.length ≤ 1000 ∧
  ∀ H', (∀ c u, c ≠ x → H c = some u → H' c = some u) → RowAt K H' x t T ss → Q .non H'
theorem Same.ins {H H' : Hp} {x C d : Addr} {gs gs' : List (Str × V)} {u : HO} (e : H x = some (.ins C d gs)) (S : ∀ c u, c ≠ x → H c = some u → H' c = some u) : TupS H (upd H' x u) := fun c us e' => by
  have : c ≠ x := fun z => by rw [z, e] at e'; cases e'
  rw [upd_ne this]
  exact S _ _ this e'
theorem ok_Row___init__ (T : Txt K mg) {f : Addr} (F : FnT1 K "__init__" "Row.__init__" s_Row___init__ f) (F_check_known : FnR P w K mg base CX0 1 (He.ga K "check_known") (spKnown K)) : FnR P w K mg base CX0 2 f (spRowInit K) := by
  refine F.ok sc_Row___init__ (fun _ _ _ _ _ _ _ us d hl => match us, hl with | [_, _, _], _ => ⟨_, rfl, rfl⟩) (fun vs H Q E h => ?_) (fun cdv A outer s H vs Q E hr h => ?_)
  · obtain ⟨x, dx, t, a, k, T', xs, ss, rfl, _⟩ := h
    rfl
  · obtain ⟨x, dx, t, a, k, Tt, xs, ss, rfl, hx, hT, ha, hS, hk, hl, q⟩ := h
    refine ⟨_, (pss_cons (ps_expr (pe_callR F_check_known (hr.mono (by decide)) rfl T.m_check_known T.k_check_known pass0 (pa_cons (pe_fld (pv 1) rfl) (pa_cons (pe_lc rfl sc_Row___init__.nd (pi_seqB (pv 2)) (blkOk_by (own := [("kind", 3), ("count", 4)]) (N := N_Row___init__) (sc := defScope s_Row___init__) (by decide +kernel)) (fun _ _ _ _ _ => (pg_tup' (K := K) rfl (n := 2) rfl (pgs_cons (pg_name (i := 3) sc_Row___init__.nd rfl (Or.inl rfl)) (pgs_cons (pg_name (i := 4) sc_Row___init__.nd rfl (Or.inl rfl)) pgs_nil)))) (fun _ _ _ _ _ => pts_nil) (fun _ _ _ _ _ => (pv 3))) pa_nil))))
      (pss_cons (ps_fld (pv 0) (pv 1) rfl)
      (pss_one (ps_fld (pv 0) (pe_callTy call_tuple_of rfl T.f_tuple boot_tuple (pa_cons (pe_lc rfl sc_Row___init__.nd (pi_seqB (pv 2)) (blkOk_by (own := [("kind", 3), ("count", 4)]) (N := N_Row___init__) (sc := defScope s_Row___init__) (by decide +kernel)) (fun _ _ _ _ _ => (pg_tup' (K := K) rfl (n := 2) rfl (pgs_cons (pg_name (i := 3) sc_Row___init__.nd rfl (Or.inl rfl)) (pgs_cons (pg_name (i := 4) sc_Row___init__.nd rfl (Or.inl rfl)) pgs_nil)))) (fun _ _ _ _ _ => pts_nil) (fun _ _ _ _ _ => (pe_tup (pa_cons (pv 3) (pa_cons (pv 4) pa_nil))))) pa_nil)) rfl)))), ?_⟩
    obtain ⟨tdx, fs, ks, ps, ln, kvs, pvs, h1, h2, h3, h4, h5⟩ := hT.ex
    have exs := Pr.len hS
    refine ⟨_, rfl, t, _, tdx, fs, _, rfl, h1, T.cl_Table, T.na_Table_kinds, h3, _, rfl, a, k, rfl, ⟨xs, HoB.sq ha⟩, fun D hD => ?_⟩
    refine lcV (walk_seqB (K := K) (k := k) (a := a) (xs := xs)) ss exs (fun _ => true) (fun s => V.str s.1) hD (by omega) (fun H' S' => SqB.mono S' (HoB.sq ha)) ?_ ?_
    · rintro j z x2 H12 H13 K4 K3 hz S12 hA y2 k1 k2
      obtain ⟨z', hz', ⟨qb, rfl, hqb⟩, rfl⟩ := yat_pair hS y2
      have : z' = z := Option.some.inj (hz'.symm.trans hz)
      subst this
      refine g2 (SqT.of (S12 _ _ hqb)) ?_
      exact ⟨rfl, _, rfl, k1 rfl _ (Same.refl _)⟩
    intro H1 S1 eD
    rw [filter_all] at eD
    refine ⟨ks, D, Tt.kinds, ss.map Prod.fst, rfl, S1 _ _ h4, by rw [List.map_map]; exact eD, fun n hn => ?_, ?_⟩
    · obtain ⟨s, hs, rfl⟩ := List.mem_map.mp hn
      exact hk s hs
    -- the table
    refine ⟨_, rfl, _, rfl, x, _, dx, [], rfl, S1 _ _ hx, T.cl_Row, T.na_Row_table, by show 0 < 1000; decide, ?_⟩
    have X2 : ∀ c u, c ≠ x → H c = some u → (upd H1 x (.ins (He.ga K "Row") dx (putF "table" (.ref t) []))) c = some u := fun c u nc e => by
      rw [upd_ne nc]
      exact S1 _ _ e
    have t2 : TupS H (upd H1 x (.ins (He.ga K "Row") dx (putF "table" (.ref t) []))) := Same.ins hx (fun c u _ e => S1 _ _ e) (gs' := [])
    have ex2 : (upd H1 x (.ins (He.ga K "Row") dx (putF "table" (.ref t) []))) x = some (.ins (He.ga K "Row") dx (putF "table" (.ref t) [])) := upd_same
    generalize (upd H1 x (.ins (He.ga K "Row") dx (putF "table" (.ref t) []))) = H2 at *
    have nax : a ≠ x := HoB.ne ha hx
    have ha2 := X2 _ _ nax ha
    have hS2 := Syls.mono t2 hS
    refine ⟨_, rfl, a, k, rfl, ⟨xs, HoB.sq ha2⟩, fun D2 hD2 => ?_⟩
    refine lcP (walk_seqB (K := K) (k := k) (a := a) (xs := xs)) ss exs (fun _ => true) (fun z v H' => SylV H' v z) hD2 (by omega) (fun H' S' => SqB.mono S' (HoB.sq ha2)) (fun z v H' H'' S' h => h.mono (Smt S')) (fun z v H' acc ys eD S' h => h.mono (Tup_lst eD)) ?_ ?_
    · rintro j z x2 H12 H13 K4 K3 hz S12 hA y2 k1 k2
      obtain ⟨z', hz', ⟨qb, rfl, hqb⟩, rfl⟩ := yat_pair hS2 y2
      have : z' = z := Option.some.inj (hz'.symm.trans hz)
      subst this
      refine g2 (SqT.of (S12 _ _ hqb)) ?_
      refine ⟨rfl, _, rfl, _, rfl, by show 2 ≤ sizeLine; exact Nat.le_of_lt (line5 (by omega)), fun p hp => ?_⟩
      exact k1 rfl _ _ (Smn hp) ⟨p, rfl, upd_same⟩
    intro H3 acc S3 eD3 hacc
    rw [filter_all] at hacc
    refine ⟨D2, acc, rfl, .inl ⟨SqL.of eD3, fun p hp => ?_⟩⟩
    have S4 := S3.trans (Smn (o := .tup acc) hp)
    have ep : (upd H3 p (.tup acc)) p = some (.tup acc) := upd_same
    have hacc4 := Syls.mono (Smt (Smn (o := .tup acc) hp)) hacc
    generalize (upd H3 p (.tup acc)) = H4 at *
    refine ⟨_, rfl, x, _, dx, _, rfl, S4 _ _ ex2, T.cl_Row, T.na_Row_syllables, Nat.lt_of_le_of_lt (length_putF _ _ _) (by show 1 < 1000; decide), ?_⟩
    have X5 : ∀ c u, c ≠ x → H c = some u → (upd H4 x (.ins (He.ga K "Row") dx (putF "syllables" (.ref p) (putF "table" (.ref t) [])))) c = some u := fun c u nc e => by
      rw [upd_ne nc]
      exact S4 _ _ (X2 c u nc e)
    have t5 : TupS H4 (upd H4 x (.ins (He.ga K "Row") dx (putF "syllables" (.ref p) (putF "table" (.ref t) [])))) := Same.ins (S4 _ _ ex2) (fun c u _ e => e) (gs' := [])
    refine q _ X5 ⟨⟨dx, _, p, acc, upd_same, ?_, ?_, t5 _ _ ep, Syls.mono t5 hacc4, ?_, ?_⟩, ?_, hk⟩
    · show List.lookup _ (putF _ _ _) = _
      rw [lkf_other _ _ (by decide), lkf_same]
    · show List.lookup _ (putF _ _ _) = _
      rw [lkf_same]
    · show List.lookup _ (putF _ _ _) = _
      rw [lkf_other _ _ (by decide), lkf_other _ _ (by decide)]
      rfl
    · show List.lookup _ (putF _ _ _) = _
      rw [lkf_other _ _ (by decide), lkf_other _ _ (by decide)]
      rfl
    · exact hT.monoX hx X5
/-- a new row: what the maker asks -/
theorem row_made {H Hc : Hp} {t a : Addr} {k : Bool} {Tt : Tb} {xs : List V} {ss : List (Str × Int)} {R : Addr → Hp → Prop} {E : XK} (S : Same H Hc) (hT : TabAt K Hc t Tt) (ha : Hc a = some (HoB k xs)) (hS : Syls Hc xs ss) (hk : inK Tt ss) (hl : ss.length ≤ 1000)
    (q : ∀ H' x, Same H H' → RowAt K H' x t Tt ss → R x H') : ∀ x dx, Hc x = none → Hc dx = none → dx ≠ x → spRowInit K [.ref x, .ref t, .ref a] (upd (upd Hc dx (.own x)) x (.ins (He.ga K "Row") dx [])) (fun v H2 => v = .non ∧ R x H2) E := by
  intro x dx hx hdx nx
  have Sx : Same Hc (upd (upd Hc dx (.own x)) x (.ins (He.ga K "Row") dx [])) := fun b u e => by
    rw [upd_ne (ne_of_none e hx), upd_ne (ne_of_none e hdx)]
    exact e
  refine ⟨x, dx, t, a, k, Tt, xs, ss, rfl, upd_same, hT.mono Sx, Sx _ _ ha, Syls.mono (Smt Sx) hS, hk, hl, fun H' X5 hR => ⟨rfl, q H' x (fun b u e => ?_) hR⟩⟩
  have e4 := S _ _ e
  exact X5 b u (ne_of_none e4 hx) (Sx _ _ e4)
/-! Row.__invert__ -/
abbrev s_Row___invert__ : Stmt := (inClass (top 48) 11)
abbrev N_Row___invert__ : List Str := ["self", "kind", "count"]
abbrev P_Row___invert__ : List Str := ["self"]
theorem sc_Row___invert__ : FnScope N_Row___invert__ P_Row___invert__ (defScope s_Row___invert__) := ⟨rfl, rfl, rfl, by decide +kernel, rfl, by decide +kernel, by decide +kernel⟩

def negS (s : Str × Int) : Str × Int := (s.1, -s.2)
def spRowInv (K : PySem.W.Frag) : Sp := fun vs H Q _ => ∃ r t T ss, vs = [.ref r] ∧ RowAt K H r t T ss ∧ ss.length ≤ 1000 ∧ ∀ H' x, Same H H' → RowAt K H' x t T (ss.reverse.map negS) → Q (.ref x) H'
theorem ok_Row___invert__ (T : Txt K mg) {f : Addr} (F : FnT K "__invert__" "Row.__invert__" s_Row___invert__ f) (F_Row___init__ : FnR P w K mg base CX0 2 (He.ma K (He.ga K "Row") "__init__") (spRowInit K)) : FnR P w K mg base CX0 4 f (spRowInv K) := by
  refine F.ok sc_Row___invert__ (fun _ _ _ _ _ _ us hl => match us, hl with | [_], _ => rfl) (fun vs H Q E h => ?_) (fun cdv A outer s H vs Q E hr h => ?_)
  · obtain ⟨r, t, T', ss, rfl, _⟩ := h
    rfl
  · obtain ⟨r, t, Tt, ss, rfl, hR, hl, q⟩ := h
    refine ⟨_, (pss_one (ps_ret (pe_makeR T.mk_Row F_Row___init__ (hr.mono (by decide)) rfl T.m_Row pass0 (pa_cons (pe_fld (pv 0) rfl) (pa_cons (pe_lc rfl sc_Row___invert__.nd (pi_tup (pe_revT (pe_fld (pv 0) rfl))) (blkOk_by (own := [("kind", 1), ("count", 2)]) (N := N_Row___invert__) (sc := defScope s_Row___invert__) (by decide +kernel)) (fun _ _ _ _ _ => (pg_tup' (K := K) rfl (n := 2) rfl (pgs_cons (pg_name (i := 1) sc_Row___invert__.nd rfl (Or.inl rfl)) (pgs_cons (pg_name (i := 2) sc_Row___invert__.nd rfl (Or.inl rfl)) pgs_nil)))) (fun _ _ _ _ _ => pts_nil) (fun _ _ _ _ _ => (pe_tup (pa_cons (pv 1) (pa_cons (pe_un un_neg (pv 2)) pa_nil))))) pa_nil))))), ?_⟩
    obtain ⟨dx, fs, p, vs, h1, h2, h3, h4, h5, h6, h7⟩ := hR.ex
    refine ⟨_, rfl, r, _, dx, fs, _, rfl, h1, T.cl_Row, T.na_Row_table, h2, ?_⟩
    refine ⟨_, rfl, r, _, dx, fs, _, rfl, h1, T.cl_Row, T.na_Row_syllables, h3, ?_⟩
    refine ⟨p, vs, rfl, SqT.of h4, fun rv hrv => ?_⟩
    have S1 := Smn (o := .tup vs.reverse) hrv
    have er : (upd H rv (.tup vs.reverse)) rv = some (.tup vs.reverse) := upd_same
    have hS := Pr.rev (Syls.mono (Smt S1) h5)
    have exs := Pr.len hS
    have hls : ss.reverse.length ≤ 1000 := by rw [List.length_reverse]; exact hl
    generalize (upd H rv (.tup vs.reverse)) = H1 at *
    refine ⟨rv, rfl, ⟨_, SqT.of er⟩, fun D hD => ?_⟩
    refine lcP (walk_tup (K := K) (a := rv) (xs := vs.reverse)) ss.reverse exs (fun _ => true) (fun z v H' => SylV H' v (negS z)) hD (by omega) (fun H' S' => SqT.of (S' _ _ er)) (fun z v H' H'' S' h => h.mono (Smt S')) (fun z v H' acc ys eD S' h => h.mono (Tup_lst eD)) ?_ ?_
    · rintro j z x2 H12 H13 K4 K3 hz S12 hA y2 k1 k2
      obtain ⟨z', hz', ⟨qb, rfl, hqb⟩, rfl⟩ := yat_pair hS y2
      have : z' = z := Option.some.inj (hz'.symm.trans hz)
      subst this
      refine g2 (SqT.of (S12 _ _ hqb)) ?_
      refine ⟨rfl, _, rfl, _, rfl, _, rfl, by show 2 ≤ sizeLine; exact Nat.le_of_lt (line5 (by omega)), fun p hp => ?_⟩
      exact k1 rfl _ _ (Smn hp) ⟨p, rfl, upd_same⟩
    intro H3 acc S3 eD3 hacc
    rw [filter_all] at hacc
    have S4 := S1.trans S3
    refine row_made (k := true) S4 (hR.tab.mono S4) eD3 (Pr.mapR hacc) (fun s hs => ?_) (by rw [List.length_map]; exact hls) fun H' x S' hR' => q H' x S' hR'
    obtain ⟨z, hz, rfl⟩ := List.mem_map.mp hs
    exact hR.kin z (List.mem_reverse.mp hz)
/-! Row.__add__ -/
abbrev s_Row___add__ : Stmt := (inClass (top 48) 10)
abbrev N_Row___add__ : List Str := ["self", "other"]
abbrev P_Row___add__ : List Str := ["self", "other"]
theorem sc_Row___add__ : FnScope N_Row___add__ P_Row___add__ (defScope s_Row___add__) := ⟨rfl, rfl, rfl, by decide +kernel, rfl, by decide +kernel, by decide +kernel⟩

def spRowAdd (K : PySem.W.Frag) : Sp := fun vs H Q _ => ∃ r o t T ss zs, vs = [.ref r, .ref o] ∧ RowAt K H r t T ss ∧ RowAt K H o t T zs ∧ ss.length + zs.length ≤ 1000 ∧ ∀ H' x, Same H H' → RowAt K H' x t T (ss ++ zs) → Q (.ref x) H'
theorem ok_Row___add__ (T : Txt K mg) {f : Addr} (F : FnT K "__add__" "Row.__add__" s_Row___add__ f) (F_Row___init__ : FnR P w K mg base CX0 2 (He.ma K (He.ga K "Row") "__init__") (spRowInit K)) (F_Table___eq__ : FnR P w K mg base CX0 1 (He.ma K (He.ga K "Table") "__eq__") (spTabEq K)) : FnR P w K mg base CX0 4 f (spRowAdd K) := by
  refine F.ok sc_Row___add__ (fun _ _ _ _ _ _ us hl => match us, hl with | [_, _], _ => rfl) (fun vs H Q E h => ?_) (fun cdv A outer s H vs Q E hr h => ?_)
  · obtain ⟨r, o, t, T', ss, zs, rfl, _⟩ := h
    rfl
  · obtain ⟨r, o, t, Tt, ss, zs, rfl, hR, hO, hl, q⟩ := h
    refine ⟨_, (pss_cons (ps_if (pt_cmpR (op_neOwn T.ne_Table T.eq_Table T.eqf_Table T.nf_Table T.is_Table.cm F_Table___eq__ (hr.mono (by decide)) pass0) (pe_fld (pv 0) rfl) (pe_fld (pv 1) rfl) (nomark _)) (pss_one ps_never) pss_nil)
      (pss_one (ps_ret (pe_makeR T.mk_Row F_Row___init__ (hr.mono (by decide)) rfl T.m_Row pass0 (pa_cons (pe_fld (pv 0) rfl) (pa_cons (pe_lst (pa_star (pe_fld (pv 0) rfl) (pa_star (pe_fld (pv 1) rfl) pa_nil))) pa_nil)))))), ?_⟩
    obtain ⟨dx, fs, p, vs, h1, h2, h3, h4, h5, h6, h7⟩ := hR.ex
    obtain ⟨dy, gs, p2, ws, g1, g2', g3, g4, g5, g6, g7⟩ := hO.ex
    obtain ⟨tdx, tfs, ks, ps, ln, kvs, pvs, t1, _⟩ := hR.tab.ex
    refine ⟨_, rfl, r, _, dx, fs, _, rfl, h1, T.cl_Row, T.na_Row_table, h2, _, rfl, o, _, dy, gs, _, rfl, g1, T.cl_Row, T.na_Row_table, g2', ?_⟩
    refine ⟨t, tdx, tfs, t, tdx, tfs, rfl, rfl, t1, t1, t, Tt, rfl, hR.tab, true, rfl, ?_⟩
    refine ⟨_, rfl, ite_f rfl ?_⟩
    refine ⟨_, rfl, r, _, dx, fs, _, rfl, h1, T.cl_Row, T.na_Row_table, h2, ?_⟩
    refine ⟨_, rfl, r, _, dx, fs, _, rfl, h1, T.cl_Row, T.na_Row_syllables, h3, p, _, rfl, .inl (SqT.of h4), ?_⟩
    refine ⟨_, rfl, o, _, dy, gs, _, rfl, g1, T.cl_Row, T.na_Row_syllables, g3, p2, _, rfl, .inl (SqT.of g4), ?_⟩
    have l1 := Pr.len h5
    have l2 := Pr.len g5
    refine ⟨by rw [List.append_nil, List.length_append]; exact Nat.le_of_lt (line5 (by omega)), fun l hl' => ?_⟩
    have S1 := Smn (o := .lst (vs ++ (ws ++ []))) hl'
    refine row_made (k := true) (xs := vs ++ (ws ++ [])) S1 (hR.tab.mono S1) upd_same (Syls.mono (Smt S1) (Pr.app h5 (by rw [List.append_nil]; exact g5))) (fun s hs => ?_) (by rw [List.length_append]; exact hl) q
    rcases List.mem_append.mp hs with h | h
    · exact hR.kin s h
    · exact hO.kin s h
end
end Un

/-! ## D12 -/
set_option Elab.async false
set_option linter.all false
set_option maxRecDepth 100000
set_option maxHeartbeats 4000000
namespace Un
open PySem PySem.Spec PyProof.Rows L2 StX
theorem zip_all {α : Type} (j : Nat) : ∀ (ss : List α) (k : Nat), j < k → ((ss.zipIdx k).filter fun p => decide (p.2 ≠ j)).map Prod.fst = ss
  | [], _, _ => rfl
  | s :: ss, k, h => by
    rw [List.zipIdx_cons, List.filter_cons, if_pos (decide_eq_true (by show k ≠ j; omega)), List.map_cons, zip_all j ss (k + 1) (by omega)]
theorem zip_erase {α : Type} : ∀ (ss : List α) (k i : Nat), ((ss.zipIdx k).filter fun p => decide (p.2 ≠ k + i)).map Prod.fst = ss.eraseIdx i
  | [], _, _ => rfl
  | s :: ss, k, 0 => by
    rw [List.zipIdx_cons, List.filter_cons, if_neg (by simp), List.eraseIdx_cons_zero]
    exact zip_all _ _ _ (by omega)
  | s :: ss, k, i + 1 => by
    rw [List.zipIdx_cons, List.filter_cons, if_pos (decide_eq_true (by show k ≠ k + (i + 1); omega)), List.map_cons, List.eraseIdx_cons_succ]
    have := zip_erase ss (k + 1) i
    rw [show k + (i + 1) = k + 1 + i by omega, this]
theorem Pr.mapR' {α β γ : Type} {F : α → γ → Prop} {g : β → γ} {xs : List α} {ys : List β} (h : Paired (fun (v : α) (z : β) => F v (g z)) xs ys) : Paired F xs (ys.map g) := Pr.mapR h
theorem Pr.take {α β : Type} {F : α → β → Prop} : ∀ {xs : List α} {ys : List β} (i : Nat), Paired F xs ys → Paired F (xs.take i) (ys.take i)
  | _, _, 0, _ => by rw [List.take_zero, List.take_zero]; exact .nil
  | _, _, i + 1, .nil => .nil
  | _, _, i + 1, .cons r t => .cons r (Pr.take i t)
theorem Pr.drop {α β : Type} {F : α → β → Prop} : ∀ {xs : List α} {ys : List β} (i : Nat), Paired F xs ys → Paired F (xs.drop i) (ys.drop i)
  | _, _, 0, h => h
  | _, _, i + 1, .nil => .nil
  | _, _, i + 1, .cons r t => Pr.drop i t
section
variable {P : Program} {w : World} {K : PySem.W.Frag} {mg : Str → Option Value} {base : Heap}
theorem RowAt.few {H : Hp} {r t : Addr} {T : Tb} {ss : List (Str × Int)} (h : RowAt K H r t T ss) : True := trivial
/-! Row.moved -/
abbrev s_Row_moved : Stmt := (inClass (top 48) 5)
abbrev N_Row_moved : List Str := ["self", "at", "to", "rest", "place", "item"]
abbrev P_Row_moved : List Str := ["self", "at", "to"]
theorem sc_Row_moved : FnScope N_Row_moved P_Row_moved (defScope s_Row_moved) := ⟨rfl, rfl, rfl, by decide +kernel, rfl, by decide +kernel, by decide +kernel⟩

def movedL (ss : List (Str × Int)) (i j : Nat) (z : Str × Int) : List (Str × Int) := (ss.eraseIdx i).take j ++ z :: (ss.eraseIdx i).drop j
def spMoved (K : PySem.W.Frag) : Sp := fun vs H Q _ => ∃ r i j t T ss z, vs = [.ref r, .int (i : Nat), .int (j : Nat)] ∧ RowAt K H r t T ss ∧ ss.length ≤ 1000 ∧ ss[i]? = some z ∧ j < ss.length ∧ ∀ H' x, Same H H' → RowAt K H' x t T (movedL ss i j z) → Q (.ref x) H'
theorem ok_Row_moved (T : Txt K mg) {f : Addr} (F : FnT K "moved" "Row.moved" s_Row_moved f) (F_Row___init__ : FnR P w K mg base CX0 2 (He.ma K (He.ga K "Row") "__init__") (spRowInit K)) (F_check_index : FnR P w K mg base CX0 1 (He.ga K "check_index") spCkIx) : FnR P w K mg base CX0 4 f (spMoved K) := by
  refine F.ok sc_Row_moved (fun _ _ _ _ _ _ us hl => match us, hl with | [_, _, _], _ => rfl) (fun vs H Q E h => ?_) (fun cdv A outer s H vs Q E hr h => ?_)
  · obtain ⟨r, i, j, t, T', ss, z, rfl, _⟩ := h
    rfl
  · obtain ⟨r, i, j, t, Tt, ss, z, rfl, hR, hl, hz, hj, q⟩ := h
    refine ⟨_, (pss_cons (ps_expr (pe_callR F_check_index (hr.mono (by decide)) rfl T.m_check_index T.k_check_index pass0 (pa_cons (pv 1) (pa_cons (pe_callB call_len rfl T.f_len boot_len (pa_cons (pe_fld (pv 0) rfl) pa_nil)) pa_nil))))
      (pss_cons (ps_expr (pe_callR F_check_index (hr.mono (by decide)) rfl T.m_check_index T.k_check_index pass0 (pa_cons (pv 2) (pa_cons (pe_callB call_len rfl T.f_len boot_len (pa_cons (pe_fld (pv 0) rfl) pa_nil)) pa_nil))))
      (pss_cons (ps_setLc (i := 3) rfl sc_Row_moved.nd rfl rfl (sw_true rfl rfl rfl (by decide +kernel)) (pi_enumB false rfl T.f_enumerate (pa_cons (pe_fld (pv 0) rfl) pa_nil)) (blkOk_by (own := [("place", 4), ("item", 5)]) (N := N_Row_moved) (sc := defScope s_Row_moved) (by decide +kernel)) (fun _ _ _ _ _ => (pg_tup' (K := K) rfl (n := 2) rfl (pgs_cons (pg_name (i := 4) sc_Row_moved.nd rfl (Or.inl rfl)) (pgs_cons (pg_name (i := 5) sc_Row_moved.nd rfl (Or.inl rfl)) pgs_nil)))) (fun _ _ _ _ _ => pts_one (pt_cmpR op_ne (pv 4) (pv 1) (nomark _))) (fun _ _ _ _ _ => (pv 5)))
      (pss_one (ps_ret (pe_makeR T.mk_Row F_Row___init__ (hr.mono (by decide)) rfl T.m_Row pass0 (pa_cons (pe_fld (pv 0) rfl) (pa_cons (pe_lst (pa_star (pe_slice sl_list (pv 3) po_none (po_some (pv 2))) (pa_cons (pe_ix ix_tup (pe_fld (pv 0) rfl) (pv 1) (fun _ _ => rfl)) (pa_star (pe_slice sl_list (pv 3) (po_some (pv 2)) po_none) pa_nil)))) pa_nil)))))))), ?_⟩
    obtain ⟨dx, fs, p, vs, h1, h2, h3, h4, h5, h6, h7⟩ := hR.ex
    have exs := Pr.len h5
    have hi : i < ss.length := (List.getElem?_eq_some_iff.mp hz).1
    refine ⟨_, rfl, _, rfl, r, _, dx, fs, _, rfl, h1, T.cl_Row, T.na_Row_syllables, h3, _, vs.length, rfl, .inr ⟨_, SqT.of h4, rfl⟩, _, _, rfl, by omega, by omega, ?_⟩
    refine ⟨_, rfl, _, rfl, r, _, dx, fs, _, rfl, h1, T.cl_Row, T.na_Row_syllables, h3, _, vs.length, rfl, .inr ⟨_, SqT.of h4, rfl⟩, _, _, rfl, by omega, by omega, ?_⟩
    refine ⟨_, rfl, r, _, dx, fs, _, rfl, h1, T.cl_Row, T.na_Row_syllables, h3, p, vs, rfl, SqT.of h4, fun D hD => ?_⟩
    refine lcP (walk_enumB (K := K) (k := false) (a := p) (xs := vs)) ss.zipIdx (by rw [List.length_zipIdx]; exact exs) (fun y => decide (y.2 ≠ i)) (fun y v H' => SylV H' v y.1) hD (by rw [List.length_zipIdx]; omega) (fun H' S' => SqT.of (S' _ _ h4)) (fun z v H' H'' S' h => h.mono (Smt S')) (fun z v H' acc ys eD S' h => h.mono (Tup_lst eD)) ?_ ?_
    · rintro m y x2 H12 H13 K4 K3 hy S12 hA y2 k1 k2
      obtain ⟨b, v, z', hv, hz', ⟨qb, rfl, hqb⟩, rfl, hb, rfl⟩ := yp_enumP h5 y2
      have ey : y = (z', m) := by
        rw [List.getElem?_zipIdx, hz'] at hy
        have := Option.some.inj hy
        rw [← this, Nat.zero_add]
      subst ey
      have Sb := Smn (o := .tup [.int ((m : Nat) : Int), .ref qb]) hb
      refine g2 (SqT.of upd_same) ?_
      refine ⟨rfl, _, rfl, _, rfl, rfl, _, rfl, ?_⟩
      refine ite2 (fun c => ?_) (fun c => ?_)
      · refine ⟨_, rfl, k1 (decide_eq_true fun e => ?_) _ _ Sb ⟨qb, rfl, Sb _ _ (S12 _ _ hqb)⟩⟩
        simp [e] at c
        exact c (congrArg Int.ofNat e)
      · refine k2 (decide_eq_false fun e => c ?_) _ Sb
        simp
        exact fun h => e (Int.ofNat.inj h)
    intro H1 acc S1 eD hacc
    have hacc' : Syls H1 acc (ss.eraseIdx i) := by
      have := Pr.mapR (F := SylV H1) (g := Prod.fst) hacc
      have e := zip_erase ss 0 i
      simp only [Nat.zero_add] at e
      rw [e] at this
      exact this
    have lacc := Pr.len hacc'
    have lers : (ss.eraseIdx i).length = ss.length - 1 := List.length_eraseIdx_of_lt hi
    have hj' : j ≤ acc.length := by omega
    refine ⟨_, rfl, r, _, dx, fs, _, rfl, S1 _ _ h1, T.cl_Row, T.na_Row_table, h2, ?_⟩
    refine ⟨_, rfl, _, rfl, _, rfl, D, acc, rfl, SqL.of eD, fun a1 ha1 => ?_⟩
    rw [cutV_take hj']
    have S2 := Smn (o := .lst (acc.take j)) ha1
    have e1 : (upd H1 a1 (.lst (acc.take j))) a1 = some (.lst (acc.take j)) := upd_same
    generalize (upd H1 a1 (.lst (acc.take j))) = H2 at *
    have S12 := S1.trans S2
    obtain ⟨v, hv, hzv⟩ := Pr.get2 h5 hz
    refine ⟨a1, _, rfl, .inr (SqL.of e1), _, rfl, r, _, dx, fs, _, rfl, S12 _ _ h1, T.cl_Row, T.na_Row_syllables, h3, _, rfl, p, vs, _, v, rfl, rfl, SqT.of (S12 _ _ h4), at_of rfl hv, ?_⟩
    refine ⟨_, rfl, _, rfl, _, rfl, D, acc, rfl, SqL.of (S2 _ _ eD), fun a2 ha2 => ?_⟩
    rw [cutV_drop hj']
    have S3 := Smn (o := .lst (acc.drop j)) ha2
    refine ⟨a2, _, rfl, .inr (SqL.of upd_same), ?_⟩
    generalize (upd H2 a2 (.lst (acc.drop j))) = H3 at *
    have S13 := S12.trans S3
    have S23 := S2.trans S3
    refine ⟨?_, fun l hl' => ?_⟩
    · rw [List.append_nil, List.length_append, List.length_cons, List.length_take, List.length_drop]
      exact Nat.le_of_lt (line5 (by omega))
    have S4 := Smn (o := .lst (acc.take j ++ v :: (acc.drop j ++ []))) hl'
    have hp := Syls.mono (Smt (S23.trans S4)) hacc'
    have el : (upd H3 l (.lst (acc.take j ++ v :: (acc.drop j ++ [])))) l = some (.lst (acc.take j ++ v :: (acc.drop j ++ []))) := upd_same
    generalize (upd H3 l (.lst (acc.take j ++ v :: (acc.drop j ++ [])))) = H4 at *
    refine row_made (k := true) (S13.trans S4) (hR.tab.mono (S13.trans S4)) el (ss := movedL ss i j z) ?_ (fun s hs => ?_) ?_ q
    · rw [List.append_nil]
      exact Pr.app (Pr.take j hp) (.cons (hzv.mono (Smt (S13.trans S4))) (Pr.drop j hp))
    · rcases List.mem_append.mp hs with h | h
      · exact hR.kin s (List.mem_of_mem_eraseIdx (List.mem_of_mem_take h))
      · rcases List.mem_cons.mp h with h | h
        · rw [h]
          exact hR.kin z (List.mem_of_getElem? hz)
        · exact hR.kin s (List.mem_of_mem_eraseIdx (List.mem_of_mem_drop h))
    · unfold movedL
      rw [List.length_append, List.length_cons, List.length_take, List.length_drop]
      omega
/-! Row.without -/
abbrev s_Row_without : Stmt := (inClass (top 48) 4)
abbrev N_Row_without : List Str := ["self", "at", "more", "index", "place", "item"]
abbrev P_Row_without : List Str := ["self", "at", "more"]
theorem sc_Row_without : FnScope N_Row_without P_Row_without (defScope s_Row_without) := ⟨rfl, rfl, rfl, by decide +kernel, rfl, by decide +kernel, by decide +kernel⟩

def spWithout0 (K : PySem.W.Frag) : Sp := fun vs H Q _ => ∃ r i m t T ss, vs = [.ref r, .int (i : Nat), .ref m] ∧ H m = some (.tup []) ∧ RowAt K H r t T ss ∧ ss.length ≤ 1000 ∧ i < ss.length ∧ ∀ H' x, Same H H' → RowAt K H' x t T (ss.eraseIdx i) → Q (.ref x) H'
def spWithout (K : PySem.W.Frag) : Sp := fun vs H Q _ => ∃ r i t T ss, vs = [.ref r, .int (i : Nat)] ∧ RowAt K H r t T ss ∧ ss.length ≤ 1000 ∧ i < ss.length ∧ ∀ H' x, Same H H' → RowAt K H' x t T (ss.eraseIdx i) → Q (.ref x) H'
theorem ok_Row_without (T : Txt K mg) {f : Addr} (F : FnT K "without" "Row.without" s_Row_without f) (F_Row___init__ : FnR P w K mg base CX0 2 (He.ma K (He.ga K "Row") "__init__") (spRowInit K)) (F_check_index : FnR P w K mg base CX0 1 (He.ga K "check_index") spCkIx) : FnR P w K mg base CX0 4 f (spWithout K) := by
  refine (F.okS (sp := spWithout0 K) sc_Row_without (ps := ["self", "at"]) (fun kV doc pm an cdv ct => bind_star2 (B := fun us => bindArgs (PySem.W.fnOf "without" "Row.without" (defArgs s_Row_without) (defBody s_Row_without) (defScope s_Row_without) .none kV doc pm an cdv ct) ⟨us, []⟩) (fun _ _ => rfl) (fun _ _ _ _ => rfl)) (fun cdv A outer s H vs Q E hr h => ?_)).imp fun vs H Q E h => ?_
  · obtain ⟨r, i, m, t, Tt, ss, rfl, hm, hR, hl, hi, q⟩ := h
    refine ⟨_, (pss_cons (ps_for PassesOwn.never rfl (pi_tup (pe_tup (pa_cons (pv 1) (pa_star (pv 2) pa_nil)))) (pg_name (i := 3) sc_Row_without.nd rfl (Or.inl rfl)) (pss_one (ps_expr (pe_callR F_check_index (hr.mono (by decide)) rfl T.m_check_index T.k_check_index pass0 (pa_cons (pv 3) (pa_cons (pe_callB call_len rfl T.f_len boot_len (pa_cons (pe_fld (pv 0) rfl) pa_nil)) pa_nil))))))
      (pss_one (ps_ret (pe_makeR T.mk_Row F_Row___init__ (hr.mono (by decide)) rfl T.m_Row pass0 (pa_cons (pe_fld (pv 0) rfl) (pa_cons (pe_lc rfl sc_Row_without.nd (pi_enumB false rfl T.f_enumerate (pa_cons (pe_fld (pv 0) rfl) pa_nil)) (blkOk_by (own := [("place", 4), ("item", 5)]) (N := N_Row_without) (sc := defScope s_Row_without) (by decide +kernel)) (fun _ _ _ _ _ => (pg_tup' (K := K) rfl (n := 2) rfl (pgs_cons (pg_name (i := 4) sc_Row_without.nd rfl (Or.inl rfl)) (pgs_cons (pg_name (i := 5) sc_Row_without.nd rfl (Or.inl rfl)) pgs_nil)))) (fun _ _ _ _ _ => pts_one (pt_cmpR (op_notIn_seq' (K := K) rfl) (pv 4) (pe_tup (pa_cons (pv 1) (pa_star' (K := K) rfl (pv 2) pa_nil))) (by rfl))) (fun _ _ _ _ _ => (pv 5))) pa_nil)))))), ?_⟩
    obtain ⟨dx, fs, p, vs, h1, h2, h3, h4, h5, h6, h7⟩ := hR.ex
    have exs := Pr.len h5
    refine ⟨_, rfl, _, rfl, m, [], rfl, .inl (SqT.of hm), by show 1 ≤ sizeLine; exact Nat.le_of_lt (line5 (by omega)), fun b hb => ?_⟩
    have S0 := Smn (o := .tup ([.int (i : Nat)] ++ [])) hb
    have eb : (upd H b (.tup [.int (i : Nat)])) b = some (.tup [V.int (i : Nat)]) := upd_same
    refine ⟨b, rfl, ⟨_, SqT.of upd_same⟩, ?_⟩
    refine for_it (walk_tup (K := K) (a := b) (xs := [V.int (i : Nat)])) (fun n σ H' => Same H H' ∧ H' b = some (.tup [V.int (i : Nat)]) ∧ ∃ v3, σ = [some (.ref r), some (.int (i : Nat)), some (.ref m), v3, none, none])
      ⟨S0, eb, none, rfl⟩ (fun i σ H' _ p => SqT.of p.2.1) ?_ ?_
    · rintro n y σ H1 H2 hn ⟨S1, eb1, v3, rfl⟩ y'
      obtain ⟨zi, hzi, rfl, rfl⟩ : ∃ zi : Int, zi = (i : Nat) ∧ y = .int zi ∧ H2 = H1 := by
        obtain ⟨zi, hzi, e1, e2⟩ := yat_map (f := V.int) (zs := [((i : Nat) : Int)]) y'
        refine ⟨zi, ?_, e1, e2⟩
        have : n = 0 := by simpa using hn
        subst this
        exact (Option.some.inj hzi).symm
      subst hzi
      refine ⟨_, rfl, _, rfl, r, _, dx, fs, _, rfl, S1 _ _ h1, T.cl_Row, T.na_Row_syllables, h3, _, vs.length, rfl, .inr ⟨_, SqT.of (S1 _ _ h4), rfl⟩, _, _, rfl, by omega, by omega, ?_⟩
      exact ⟨S1, eb1, _, rfl⟩
    · rintro σ H1 ⟨S1, eb1, v3, rfl⟩
      refine ⟨_, rfl, r, _, dx, fs, _, rfl, S1 _ _ h1, T.cl_Row, T.na_Row_table, h2, ?_⟩
      refine ⟨_, rfl, r, _, dx, fs, _, rfl, S1 _ _ h1, T.cl_Row, T.na_Row_syllables, h3, p, vs, rfl, SqT.of (S1 _ _ h4), fun D hD => ?_⟩
      have h5' := Syls.mono (Smt S1) h5
      refine lcP (walk_enumB (K := K) (k := false) (a := p) (xs := vs)) ss.zipIdx (by rw [List.length_zipIdx]; exact exs) (fun y => decide (y.2 ≠ i)) (fun y v H' => SylV H' v y.1) hD (by rw [List.length_zipIdx]; omega) (fun H' S' => SqT.of (S' _ _ (S1 _ _ h4))) (fun z v H' H'' S' h => h.mono (Smt S')) (fun z v H' acc ys eD S' h => h.mono (Tup_lst eD)) ?_ ?_
      · rintro n y x2 H12 H13 K4 K3 hy S12 hA y2 k1 k2
        obtain ⟨b, v, z', hv, hz', ⟨qb, rfl, hqb⟩, rfl, hb, rfl⟩ := yp_enumP h5' y2
        have ey : y = (z', n) := by
          rw [List.getElem?_zipIdx, hz'] at hy
          have := Option.some.inj hy
          rw [← this, Nat.zero_add]
        subst ey
        have Sb := Smn (o := .tup [.int ((n : Nat) : Int), .ref qb]) hb
        refine g2 (SqT.of upd_same) ?_
        refine ⟨rfl, _, rfl, _, rfl, _, rfl, m, [], rfl, .inl (SqT.of (Sb _ _ (S12 _ _ (S1 _ _ hm)))), by show 1 ≤ sizeLine; exact Nat.le_of_lt (line5 (by omega)), fun b2 hb2 => ?_⟩
        have Sb2 := Sb.trans (Smn (o := .tup ([.int (i : Nat)] ++ [])) hb2)
        refine ⟨b2, [V.int (i : Nat)], rfl, .inr (SqT.of upd_same), rfl, flatI [((i : Nat) : Int)], _, rfl, ?_⟩
        have ein : (inV (V.int (n : Nat)) [V.int (i : Nat)]) = decide (n = i) := by
          have := inV_int ((n : Nat) : Int) [((i : Nat) : Int)]
          refine this.trans (decide_eq_decide.mpr ?_)
          simp
          omega
        show (if (!inV (V.int (n : Nat)) [V.int (i : Nat)]) = true then _ else _)
        rw [ein]
        refine ite2 (fun c => ?_) (fun c => ?_)
        · refine ⟨_, rfl, k1 (decide_eq_true fun e => ?_) _ _ Sb2 ⟨qb, rfl, Sb2 _ _ (S12 _ _ hqb)⟩⟩
          have e : n = i := e
          simp [e] at c
        · refine k2 (decide_eq_false fun e => c ?_) _ Sb2
          have e : n ≠ i := e
          simp [e]
      intro H2 acc S2 eD hacc
      have hacc' : Syls H2 acc (ss.eraseIdx i) := by
        have := Pr.mapR (F := SylV H2) (g := Prod.fst) hacc
        have e := zip_erase ss 0 i
        simp only [Nat.zero_add] at e
        rw [e] at this
        exact this
      have lers : (ss.eraseIdx i).length = ss.length - 1 := List.length_eraseIdx_of_lt hi
      exact row_made (k := true) (S1.trans S2) (hR.tab.mono (S1.trans S2)) eD hacc' (fun s hs => hR.kin s (List.mem_of_mem_eraseIdx hs)) (by omega) q
  · obtain ⟨r, i, t, Tt, ss, rfl, hR, hl, hi, q⟩ := h
    refine ⟨[.ref r, .int (i : Nat)], [], rfl, rfl, Nat.zero_le _, fun p hp => ?_⟩
    have S := Smn (o := .tup []) hp
    exact ⟨r, i, p, t, Tt, ss, rfl, upd_same, hR.mono S, hl, hi, fun H' x S' => q H' x (S.trans S')⟩
end
end Un

/-! ## D13 -/
set_option Elab.async false
set_option linter.all false
set_option maxRecDepth 100000
set_option maxHeartbeats 4000000
namespace Un
open PySem PySem.Spec PyProof.Rows L2 StX
theorem Pr.pick {α β γ : Type} {F : α → γ → Prop} : ∀ {xs : List α} {ys : List β}, Paired (fun (v : α) (_ : β) => ∃ z, F v z) xs ys → ∃ zs : List γ, Paired F xs zs ∧ zs.length = ys.length
  | _, _, .nil => ⟨[], .nil, rfl⟩
  | _, _, .cons ⟨z, h⟩ t => let ⟨zs, a, b⟩ := Pr.pick t; ⟨z :: zs, .cons h a, congrArg Nat.succ b⟩
theorem Tup_set {w : World} {H : Hp} {p : Addr} {L : List Str} {u : HO} (h : H p = some (SetTx w p L)) : TupS H (upd H p u) := fun b zs e => by rw [upd_ne (fun z => by rw [z, h] at e; cases e)]; exact e
section
variable {P : Program} {w : World} {K : PySem.W.Frag} {mg : Str → Option Value} {base : Heap}
structure VerAt (K : PySem.W.Frag) (H : Hp) (v t : Addr) (T : Tb) (rs : List (Str × Int)) : Prop where
  ex : ∃ dx fs p vs, H v = some (.ins (He.ga K "Version") dx fs) ∧ lk fs "table" = some (.ref t) ∧ lk fs "syllables" = some (.ref p) ∧ H p = some (.tup vs) ∧ Syls H vs rs
  tab : TabAt K H t T
  kin : inK T rs
theorem VerAt.mono {H H' : Hp} {r t : Addr} {T : Tb} {ss : List (Str × Int)} (s : Same H H') (h : VerAt K H r t T ss) : VerAt K H' r t T ss := by
  obtain ⟨dx, fs, p, vs, h1, h2, h3, h4, h5⟩ := h.ex
  exact ⟨⟨dx, fs, p, vs, s _ _ h1, h2, h3, s _ _ h4, Syls.mono (Smt s) h5⟩, h.tab.mono s, h.kin⟩
theorem TabAt.monoN {H H' : Hp} {t x C d : Addr} {gs : List (Str × V)} {T : Tb} (n1 : t ≠ x) (hx : H x = some (.ins C d gs)) (s : ∀ c u, c ≠ x → H c = some u → H' c = some u) (h : TabAt K H t T) : TabAt K H' t T := by
  have nt : ∀ {c : Addr} {us : List V}, H c = some (.tup us) → H' c = some (.tup us) := fun {c us} e => s _ _ (fun z => by rw [z, hx] at e; cases e) e
  obtain ⟨dx, fs, ks, ps, ln, kvs, pvs, h1, h2, h3, h4, h5, h6, h7, h8, h9, h10⟩ := h.ex
  have n2 : ln ≠ x := fun z => by rw [z, hx] at h9; cases h9
  exact ⟨h.ok, dx, fs, ks, ps, ln, kvs, pvs, s _ _ n1 h1, h2, h3, nt h4, h5, nt h6, Prs.mono (fun b us e => nt e) h7, h8, s _ _ n2 h9, fun k hk => let ⟨la, q1, q2⟩ := h10 k hk; ⟨la, q1, nt q2⟩⟩
theorem TabAt.ne {H : Hp} {t x C d : Addr} {T : Tb} (h : TabAt K H t T) (hx : H x = some (.ins C d [])) : t ≠ x := fun z => by
  obtain ⟨dx, fs, ks, ps, ln, kvs, pvs, h1, h2, h3, _⟩ := h.ex
  rw [z, hx] at h1
  injection (Option.some.inj h1) with _ _ e
  rw [← e] at h3
  cases h3
/-- a version while it is made -/
structure VSt (K : PySem.W.Frag) (H : Hp) (x dx t : Addr) (T : Tb) (p : Addr) (us : List V) (rs : List (Str × Int)) (fs : List (Str × V)) (Hn : Hp) : Prop where
  old : ∀ c u, c ≠ x → H c = some u → Hn c = some u
  ins : Hn x = some (.ins (He.ga K "Version") dx fs)
  tab : TabAt K Hn t T
  ne : t ≠ x
  tup : Hn p = some (.tup us)
  syl : Syls Hn us rs
theorem VSt.same {H : Hp} {x dx t p : Addr} {T : Tb} {us : List V} {rs : List (Str × Int)} {fs : List (Str × V)} {Hn Hm : Hp} (V : VSt K H x dx t T p us rs fs Hn) (S : Same Hn Hm) : VSt K H x dx t T p us rs fs Hm :=
  ⟨fun c u n e => S _ _ (V.old c u n e), S _ _ V.ins, V.tab.mono S, V.ne, S _ _ V.tup, Syls.mono (Smt S) V.syl⟩
theorem VSt.put {H : Hp} {x dx t p : Addr} {T : Tb} {us : List V} {rs : List (Str × Int)} {fs fs' : List (Str × V)} {Hn : Hp} (V : VSt K H x dx t T p us rs fs Hn) : VSt K H x dx t T p us rs fs' (upd Hn x (.ins (He.ga K "Version") dx fs')) := by
  have s : ∀ c u, c ≠ x → Hn c = some u → (upd Hn x (.ins (He.ga K "Version") dx fs')) c = some u := fun c u n e => by rw [upd_ne n]; exact e
  have ts : TupS Hn (upd Hn x (.ins (He.ga K "Version") dx fs')) := Same.ins V.ins (fun c u _ e => e) (gs' := [])
  exact ⟨fun c u n e => s c u n (V.old c u n e), upd_same, V.tab.monoN V.ne V.ins s, V.ne, ts _ _ V.tup, Syls.mono ts V.syl⟩
/-! Version.__init__ -/
abbrev s_Version___init__ : Stmt := (inClass (top 53) 0)
abbrev N_Version___init__ : List Str := ["self", "table", "syllables", "form", "kind", "count", "at"]
abbrev P_Version___init__ : List Str := ["self", "table", "syllables"]
theorem sc_Version___init__ : FnScope N_Version___init__ P_Version___init__ (defScope s_Version___init__) := ⟨rfl, rfl, rfl, by decide +kernel, rfl, by decide +kernel, by decide +kernel⟩

def spVerInit (K : PySem.W.Frag) : Sp := fun vs H Q _ => ∃ x dx t a k T xs ss, vs = [.ref x, .ref t, .ref a] ∧ H x = some (.ins (He.ga K "Version") dx []) ∧ TabAt K H t T ∧ H a = some (HoB k xs) ∧ Syls H xs ss ∧ inK T ss ∧ ss.length ≤ 900 ∧
  ∀ H' rs, (∀ c u, c ≠ x → H c = some u → H' c = some u) → VerAt K H' x t T rs → Ev T ss rs → Q .non H'
theorem ok_Version___init__ (T : Txt K mg) {f : Addr} (F : FnT1 K "__init__" "Version.__init__" s_Version___init__ f) (F_limited : FnR P w K mg base CX0 1 (He.ga K "limited") (spLim K)) (F_pressed : FnR P w K mg base CX0 6 (He.ga K "pressed") (spPressed K)) (F_Row___init__ : FnR P w K mg base CX0 2 (He.ma K (He.ga K "Row") "__init__") (spRowInit K))
    (F_layers_of : FnR P w K mg base CX0 3 (He.ga K "layers_of") (spLayers K)) (F_lasts : FnR P w K mg base CX0 3 (He.ga K "lasts") (spLasts K)) : FnR P w K mg base CX0 7 f (spVerInit K) := by
  refine F.ok sc_Version___init__ (fun _ _ _ _ _ _ _ us d hl => match us, hl with | [_, _, _], _ => ⟨_, rfl, rfl⟩) (fun vs H Q E h => ?_) (fun cdv A outer s H vs Q E hr h => ?_)
  · obtain ⟨x, dx, t, a, k, T', xs, ss, rfl, _⟩ := h
    rfl
  · obtain ⟨x, dx, t, a, k, Tt, xs, ss, rfl, hx, hT, ha, hS, hk, hl, q⟩ := h
    refine ⟨_, (pss_cons (ps_set (i := 3) sc_Version___init__.nd rfl (Or.inr rfl) (pe_callR F_limited (hr.mono (by decide)) rfl T.m_limited T.k_limited pass0 (pa_cons (pe_callR F_pressed (hr.mono (by decide)) rfl T.m_pressed T.k_pressed pass0 (pa_cons (pv 1) (pa_cons (pe_fld (pe_makeR T.mk_Row F_Row___init__ (hr.mono (by decide)) rfl T.m_Row pass0 (pa_cons (pv 1) (pa_cons (pv 2) pa_nil))) rfl) pa_nil))) pa_nil)))
      (pss_cons (ps_fld (pv 0) (pv 1) rfl)
      (pss_cons (ps_fld (pv 0) (pv 3) rfl)
      (pss_cons (ps_fld (pv 0) (pe_makeR T.mk_Row F_Row___init__ (hr.mono (by decide)) rfl T.m_Row pass0 (pa_cons (pv 1) (pa_cons (pv 3) pa_nil))) rfl)
      (pss_cons (ps_fld (pv 0) (pe_callTy call_tuple_of rfl T.f_tuple boot_tuple (pa_cons (pe_callB (cr_srtTx rfl hr.units65) rfl T.f_sorted boot_sorted (pa_cons (pe_sc rfl sc_Version___init__.nd (pi_tup (pv 3)) (blkOk_by (own := [("kind", 4), ("count", 5)]) (N := N_Version___init__) (sc := defScope s_Version___init__) (by decide +kernel)) (fun _ _ _ _ _ => (pg_tup' (K := K) rfl (n := 2) rfl (pgs_cons (pg_name (i := 4) sc_Version___init__.nd rfl (Or.inl rfl)) (pgs_cons (pg_name (i := 5) sc_Version___init__.nd rfl (Or.inl rfl)) pgs_nil)))) (fun _ _ _ _ _ => pts_nil) (fun _ _ _ _ _ => (pv 4))) pa_nil)) pa_nil)) rfl)
      (pss_cons (ps_fld (pv 0) (pe_callR F_layers_of (hr.mono (by decide)) rfl T.m_layers_of T.k_layers_of pass0 (pa_cons (pv 1) (pa_cons (pv 3) pa_nil))) rfl)
      (pss_one (ps_fld (pv 0) (pe_callTy call_tuple_of rfl T.f_tuple boot_tuple (pa_cons (pe_callB (cr_srtL hr.units65) rfl T.f_sorted boot_sorted (pa_cons (pe_lc rfl sc_Version___init__.nd (pi_values (pe_frz (pe_callR F_lasts (hr.mono (by decide)) rfl T.m_lasts T.k_lasts pass0 (pa_cons (pv 1) (pa_cons (pv 3) pa_nil))))) (blkOk_by (own := [("at", 6)]) (N := N_Version___init__) (sc := defScope s_Version___init__) (by decide +kernel)) (fun _ _ _ _ _ => (pg_name (i := 6) sc_Version___init__.nd rfl (Or.inl rfl))) (fun _ _ _ _ _ => pts_nil) (fun _ _ _ _ _ => (pe_ix (ix_tup' (K := K) rfl) (pv 3) (pv 6) (fun _ _ => rfl)))) pa_nil)) pa_nil)) rfl)))))))), ?_⟩
    have nex := hT.ne hx
    refine ⟨_, rfl, _, rfl, _, rfl, ?_⟩
    refine row_made (Same.refl _) hT ha hS hk (by omega) fun H1 rx S1 hR => ?_
    obtain ⟨rdx, rfs, rp, rvs, r1, r2, r3, r4, r5, _⟩ := hR.ex
    refine ⟨rx, _, rdx, rfs, _, rfl, r1, T.cl_Row, T.na_Row_syllables, r3, ?_⟩
    refine ⟨t, rp, Tt, rvs, ss, rfl, hR.tab, r4, r5, hk, by omega, fun H2 p us rs S2 ep hU ev => ?_⟩
    have lrs : rs.length ≤ 900 := Nat.le_trans ev.len hl
    have lus := Pr.len hU
    refine ⟨p, us, rfl, ep, by omega, ?_⟩
    have S12 := S1.trans S2
    have Wv : VSt K H x dx t Tt p us rs [] H2 := ⟨fun c u _ e => S12 _ _ e, S12 _ _ hx, hT.mono S12, nex, ep, hU⟩
    refine ⟨_, rfl, _, rfl, x, _, dx, _, rfl, Wv.ins, T.cl_Version, T.na_Version_table, by show 0 < 1000; decide, ?_⟩
    replace Wv := Wv.put (fs' := putF "table" (.ref t) [])
    generalize (upd H2 x _) = H3 at *
    have l1 : (putF "table" (V.ref t) []).length ≤ 1 := length_putF _ _ _
    refine ⟨_, rfl, _, rfl, x, _, dx, _, rfl, Wv.ins, T.cl_Version, T.na_Version_syllables, by omega, ?_⟩
    replace Wv := Wv.put (fs' := putF "syllables" (.ref p) (putF "table" (.ref t) []))
    generalize (upd H3 x _) = H4 at *
    have l2 : (putF "syllables" (V.ref p) (putF "table" (V.ref t) [])).length ≤ 2 := Nat.le_trans (length_putF _ _ _) (Nat.succ_le_succ l1)
    have f1 : lk (putF "syllables" (V.ref p) (putF "table" (V.ref t) [])) "table" = some (.ref t) := by
      show List.lookup _ (putF _ _ _) = _
      rw [lkf_other _ _ (by decide), lkf_same]
    have f2 : lk (putF "syllables" (V.ref p) (putF "table" (V.ref t) [])) "syllables" = some (.ref p) := by
      show List.lookup _ (putF _ _ _) = _
      rw [lkf_same]
    generalize (putF "syllables" (V.ref p) (putF "table" (V.ref t) [])) = fs2 at *
    -- the row
    refine ⟨_, rfl, _, rfl, ?_⟩
    refine row_made (k := false) (Same.refl _) Wv.tab Wv.tup Wv.syl ev.kin (by omega) fun H5 rx2 S5 _ => ?_
    replace Wv := Wv.same S5
    refine ⟨_, rfl, x, _, dx, _, rfl, Wv.ins, T.cl_Version, T.na_Version_row, by omega, ?_⟩
    replace Wv := Wv.put (fs' := putF "row" (.ref rx2) fs2)
    generalize (upd H5 x _) = H6 at *
    have l3 : (putF "row" (V.ref rx2) fs2).length ≤ 3 := Nat.le_trans (length_putF _ _ _) (Nat.succ_le_succ l2)
    have f1' : lk (putF "row" (V.ref rx2) fs2) "table" = some (.ref t) := by
      show List.lookup _ (putF _ _ _) = _
      rw [lkf_other _ _ (by decide)]
      exact f1
    have f2' : lk (putF "row" (V.ref rx2) fs2) "syllables" = some (.ref p) := by
      show List.lookup _ (putF _ _ _) = _
      rw [lkf_other _ _ (by decide)]
      exact f2
    generalize (putF "row" (V.ref rx2) fs2) = fs3 at *
    -- the kinds
    refine ⟨_, rfl, p, rfl, ⟨_, SqT.of Wv.tup⟩, fun D hD => ?_⟩
    have nD : ∀ {c : Addr} {u : HO}, H6 c = some u → c ≠ D := fun e z => by rw [z, hD] at e; cases e
    refine sc_it (wd := w) (walk_tup (K := K) (a := p) (xs := us)) (fun i H' => Same H6 H' ∧ ∃ L, H' D = some (SetTx w D L) ∧ L.length ≤ i) ⟨Smn hD, [], upd_same, Nat.le_refl _⟩ (fun i H' _ h => SqT.of (h.1 _ _ Wv.tup)) ?_ ?_
    · rintro i y H7 H8 hi ⟨S7, L, eD, hL⟩ y'
      obtain ⟨z, hz, ⟨qb, rfl, hqb⟩, rfl⟩ := yat_pair (Syls.mono (Smt S7) Wv.syl) y'
      refine g2 (SqT.of hqb) ?_
      refine ⟨rfl, ?_⟩
      refine ⟨_, rfl, L, z.1, rfl, eD, by omega, fun L' e1 e2 => ⟨Sup S7 hD, L', upd_same, ?_⟩⟩
      by_cases hm : z.1 ∈ L
      · rw [e1 hm]
        omega
      · rw [e2 hm, List.length_cons]
        omega
    rintro H7 ⟨S7, L, eD, hL⟩
    refine ⟨D, L, rfl, eD, by omega, fun L' p2 pL hp2 => ?_⟩
    refine ⟨p2, _, rfl, .inl ⟨SqL.of upd_same, fun pt hpt => ?_⟩⟩
    replace Wv := Wv.same (S7.trans ((Smn hp2).trans (Smn (o := .tup (L'.map V.str)) hpt)))
    generalize (upd (upd H7 p2 (.lst (L'.map V.str))) pt (.tup (L'.map V.str))) = H8 at *
    refine ⟨_, rfl, x, _, dx, _, rfl, Wv.ins, T.cl_Version, T.na_Version_kinds, by omega, ?_⟩
    replace Wv := Wv.put (fs' := putF "kinds" (.ref pt) fs3)
    generalize (upd H8 x _) = H9 at *
    have l4 : (putF "kinds" (V.ref pt) fs3).length ≤ 4 := Nat.le_trans (length_putF _ _ _) (Nat.succ_le_succ l3)
    have f1 : lk (putF "kinds" (V.ref pt) fs3) "table" = some (.ref t) := by
      show List.lookup _ (putF _ _ _) = _
      rw [lkf_other _ _ (by decide)]
      exact f1'
    have f2 : lk (putF "kinds" (V.ref pt) fs3) "syllables" = some (.ref p) := by
      show List.lookup _ (putF _ _ _) = _
      rw [lkf_other _ _ (by decide)]
      exact f2'
    generalize (putF "kinds" (V.ref pt) fs3) = fs4 at *
    -- the layers
    refine ⟨_, rfl, _, rfl, t, p, false, Tt, us, rs, rfl, Wv.tab, SqT.of Wv.tup, Wv.syl, ev.kin, by omega, fun HA pl ls LL SA _ _ _ _ _ => ?_⟩
    replace Wv := Wv.same SA
    refine ⟨_, rfl, x, _, dx, _, rfl, Wv.ins, T.cl_Version, T.na_Version_layers, by omega, ?_⟩
    replace Wv := Wv.put (fs' := putF "layers" (.ref pl) fs4)
    generalize (upd HA x _) = HB at *
    have l5 : (putF "layers" (V.ref pl) fs4).length ≤ 5 := Nat.le_trans (length_putF _ _ _) (Nat.succ_le_succ l4)
    have f1' : lk (putF "layers" (V.ref pl) fs4) "table" = some (.ref t) := by
      show List.lookup _ (putF _ _ _) = _
      rw [lkf_other _ _ (by decide)]
      exact f1
    have f2' : lk (putF "layers" (V.ref pl) fs4) "syllables" = some (.ref p) := by
      show List.lookup _ (putF _ _ _) = _
      rw [lkf_other _ _ (by decide)]
      exact f2
    generalize (putF "layers" (V.ref pl) fs4) = fs5 at *
    -- the last ones
    refine ⟨_, rfl, _, rfl, t, p, Tt, us, rs, rfl, Wv.tab, Wv.tup, Wv.syl, ev.kin, by omega, fun HC d kvs SC hd ed hP hk2 => ?_⟩
    refine ⟨d, kvs, rfl, ed, fun o => ⟨d, o, kvs, rfl, upd_same, fun D2 hD2 => ?_⟩⟩
    replace Wv := Wv.same (Sup (o := .frz o (.dK kvs)) SC hd)
    have ed' : (upd HC d (.frz o (.dK kvs))) d = some (.frz o (.dK kvs)) := upd_same
    generalize (upd HC d (.frz o (.dK kvs))) = HD at *
    refine lcP (walk_values (d := d) (o := o) (kvs := kvs)) kvs rfl (fun _ => true) (fun kv v H' => ∃ s, SylV H' v s) hD2 (by omega) (fun H' S' => S' _ _ ed') (fun z v H' H'' S' ⟨s, h⟩ => ⟨s, h.mono (Smt S')⟩) (fun z v H' acc ys eD S' ⟨s, h⟩ => ⟨s, h.mono (Tup_lst eD)⟩) ?_ ?_
    · rintro j kv x2 H12 H13 K4 K3 hkv S12 hA ⟨rfl, kk, hx2⟩ k1 k2
      have ekv : kv = (kk, x2) := Option.some.inj (hkv.symm.trans hx2)
      obtain ⟨_, i, hi, ei⟩ := hP kv (List.mem_of_getElem? hkv)
      obtain ⟨v, hv⟩ : ∃ v, us[i]? = some v := ⟨_, List.getElem?_eq_getElem (by omega)⟩
      obtain ⟨s, _, hs⟩ := Pr.get Wv.syl hv
      have e2 : x2 = .int (i : Nat) := by rw [ekv] at ei; exact ei
      subst e2
      refine ⟨rfl, _, rfl, _, rfl, p, us, _, v, rfl, rfl, SqT.of (S12 _ _ Wv.tup), at_of rfl hv, ?_⟩
      exact k1 rfl _ _ (Same.refl _) ⟨s, hs.mono (Smt S12)⟩
    intro HE acc SE eD2 hacc
    rw [filter_all] at hacc
    obtain ⟨zs, hzs, lzs⟩ := Pr.pick hacc
    obtain ⟨bs, hbs⟩ := srtIn_syl hzs (by omega)
    refine ⟨D2, acc, bs, rfl, SqL.of eD2, hbs, fun p3 hp3 => ?_⟩
    refine ⟨p3, _, rfl, .inl ⟨SqL.of upd_same, fun pt2 hpt2 => ?_⟩⟩
    replace Wv := Wv.same (SE.trans ((Smn hp3).trans (Smn (o := .tup (srt bs)) hpt2)))
    generalize (upd (upd HE p3 (.lst (srt bs))) pt2 (.tup (srt bs))) = HF at *
    refine ⟨_, rfl, x, _, dx, _, rfl, Wv.ins, T.cl_Version, T.na_Version_last, by omega, ?_⟩
    replace Wv := Wv.put (fs' := putF "last" (.ref pt2) fs5)
    refine q _ rs Wv.old ⟨⟨dx, _, p, us, Wv.ins, ?_, ?_, Wv.tup, Wv.syl⟩, Wv.tab, ev.kin⟩ ev
    · show List.lookup _ (putF _ _ _) = _
      rw [lkf_other _ _ (by decide)]
      exact f1'
    · show List.lookup _ (putF _ _ _) = _
      rw [lkf_other _ _ (by decide)]
      exact f2'
end
end Un

/-! ## D14 -/
set_option Elab.async false
set_option linter.all false
set_option maxRecDepth 100000
set_option maxHeartbeats 4000000
namespace Un
open PySem PySem.Spec PyProof.Rows L2 StX
section
variable {P : Program} {w : World} {K : PySem.W.Frag} {mg : Str → Option Value} {base : Heap}
/-- a new version: what the maker asks -/
theorem ver_made {H Hc : Hp} {t a : Addr} {k : Bool} {Tt : Tb} {xs : List V} {ss : List (Str × Int)} {R : Addr → Hp → Prop} {E : XK} (S : Same H Hc) (hT : TabAt K Hc t Tt) (ha : Hc a = some (HoB k xs)) (hS : Syls Hc xs ss) (hk : inK Tt ss) (hl : ss.length ≤ 900)
    (q : ∀ H' x rs, Same H H' → VerAt K H' x t Tt rs → Ev Tt ss rs → R x H') : ∀ x dx, Hc x = none → Hc dx = none → dx ≠ x → spVerInit K [.ref x, .ref t, .ref a] (upd (upd Hc dx (.own x)) x (.ins (He.ga K "Version") dx [])) (fun v H2 => v = .non ∧ R x H2) E := by
  intro x dx hx hdx nx
  have Sx : Same Hc (upd (upd Hc dx (.own x)) x (.ins (He.ga K "Version") dx [])) := fun b u e => by
    rw [upd_ne (ne_of_none e hx), upd_ne (ne_of_none e hdx)]
    exact e
  refine ⟨x, dx, t, a, k, Tt, xs, ss, rfl, upd_same, hT.mono Sx, Sx _ _ ha, Syls.mono (Smt Sx) hS, hk, hl, fun H' rs X5 hR ev => ⟨rfl, q H' x rs (fun b u e => ?_) hR ev⟩⟩
  have e4 := S _ _ e
  exact X5 b u (ne_of_none e4 hx) (Sx _ _ e4)
/-! Version.of -/
abbrev s_Version_of : Stmt := (inClass (top 53) 1)
abbrev N_Version_of : List Str := ["cls", "row"]
abbrev P_Version_of : List Str := ["cls", "row"]
theorem sc_Version_of : FnScope N_Version_of P_Version_of (defScope s_Version_of) := ⟨rfl, rfl, rfl, by decide +kernel, rfl, by decide +kernel, by decide +kernel⟩

def spVerOf (K : PySem.W.Frag) : Sp := fun vs H Q _ => ∃ C r t T ss, vs = [.ref C, .ref r] ∧ RowAt K H r t T ss ∧ ss.length ≤ 900 ∧ ∀ H' x rs, Same H H' → VerAt K H' x t T rs → Ev T ss rs → Q (.ref x) H'
theorem ok_Version_of (T : Txt K mg) {f : Addr} (F : FnT K "of" "Version.of" s_Version_of f) (F_Version___init__ : FnR P w K mg base CX0 7 (He.ma K (He.ga K "Version") "__init__") (spVerInit K)) : FnR P w K mg base CX0 9 f (spVerOf K) := by
  refine F.ok sc_Version_of (fun _ _ _ _ _ _ us hl => match us, hl with | [_, _], _ => rfl) (fun vs H Q E h => ?_) (fun cdv A outer s H vs Q E hr h => ?_)
  · obtain ⟨C, r, t, T', ss, rfl, _⟩ := h
    rfl
  · obtain ⟨C, r, t, Tt, ss, rfl, hR, hl, q⟩ := h
    refine ⟨_, (pss_one (ps_ret (pe_makeR T.mk_Version F_Version___init__ (hr.mono (by decide)) rfl T.m_Version pass0 (pa_cons (pe_fld (pv 1) rfl) (pa_cons (pe_fld (pv 1) rfl) pa_nil))))), ?_⟩
    obtain ⟨dx, fs, p, vs, h1, h2, h3, h4, h5, _⟩ := hR.ex
    refine ⟨_, rfl, r, _, dx, fs, _, rfl, h1, T.cl_Row, T.na_Row_table, h2, ?_⟩
    refine ⟨_, rfl, r, _, dx, fs, _, rfl, h1, T.cl_Row, T.na_Row_syllables, h3, ?_⟩
    exact ver_made (k := false) (Same.refl _) hR.tab h4 h5 hR.kin hl q
/-! Version.__eq__ -/
abbrev s_Version___eq__ : Stmt := (inClass (top 53) 17)
abbrev N_Version___eq__ : List Str := ["self", "other"]
abbrev P_Version___eq__ : List Str := ["self", "other"]
theorem sc_Version___eq__ : FnScope N_Version___eq__ P_Version___eq__ (defScope s_Version___eq__) := ⟨rfl, rfl, rfl, by decide +kernel, rfl, by decide +kernel, by decide +kernel⟩

def spVerEq (K : PySem.W.Frag) : Sp := fun vs H Q _ => ∃ a b t T rs zs, vs = [.ref a, .ref b] ∧ VerAt K H a t T rs ∧ VerAt K H b t T zs ∧ Q (.bl (decide (rs = zs))) H
theorem ok_Version___eq__ (T : Txt K mg) {f : Addr} (F : FnT K "__eq__" "Version.__eq__" s_Version___eq__ f) (F_Table___eq__ : FnR P w K mg base CX0 1 (He.ma K (He.ga K "Table") "__eq__") (spTabEq K)) : FnR P w K mg base CX0 3 f (spVerEq K) := by
  refine F.ok sc_Version___eq__ (fun _ _ _ _ _ _ us hl => match us, hl with | [_, _], _ => rfl) (fun vs H Q E h => ?_) (fun cdv A outer s H vs Q E hr h => ?_)
  · obtain ⟨a, b, t, T', rs, zs, rfl, _⟩ := h
    rfl
  · obtain ⟨a, b, t, Tt, rs, zs, rfl, hA, hB, q⟩ := h
    refine ⟨_, (pss_one (ps_ret (pe_and (pe_callB call_isi rfl T.f_isinstance boot_isinstance (pa_cons (pv 1) (pa_cons (pe_glob (v := .ref (He.ga K "Version")) rfl T.m_Version rfl) pa_nil))) (pe_and (pe_cmpR (op_eqOwn T.eq_Table T.eqf_Table T.nf_Table F_Table___eq__ (hr.mono (by decide)) pass0) (pe_fld (pv 0) rfl) (pe_fld (pv 1) rfl) (nomark _)) (pe_one (pe_cmpR (op_eqD hr.units) (pe_fld (pv 0) rfl) (pe_fld (pv 1) rfl) (nomark _))))))), ?_⟩
    obtain ⟨dx, fs, p, vs, h1, h2, h3, h4, h5⟩ := hA.ex
    obtain ⟨dy, gs, p2, ws, g1, g2', g3, g4, g5⟩ := hB.ex
    obtain ⟨tdx, tfs, ks, ps, ln, kvs, pvs, t1, _⟩ := hA.tab.ex
    refine ⟨_, rfl, .ref b, .ref (He.ga K "Version"), .ref (He.ga K "Version"), .ref (He.ga K "Version"), true, rfl, .own _, T.is_Version.ty T.cl_Version g1, T.is_Version.me, true, rfl, ?_⟩
    refine ite_t rfl ?_
    refine ⟨_, rfl, a, _, dx, fs, _, rfl, h1, T.cl_Version, T.na_Version_table, h2, _, rfl, b, _, dy, gs, _, rfl, g1, T.cl_Version, T.na_Version_table, g2', ?_⟩
    refine ⟨t, tdx, tfs, t, tdx, tfs, rfl, rfl, t1, t1, t, Tt, rfl, hA.tab, ?_⟩
    refine ⟨true, rfl, ite_t rfl ?_⟩
    have lay : ∀ (l : List (Str × Int)), inK Tt l → ∀ d ∈ l.map encS, d.canLay0 = true ∧ d.depth ≤ 8 := fun l hk d hd => by
      obtain ⟨s, hs, rfl⟩ := List.mem_map.mp hd
      exact lay_syl (hA.tab.ok.name _ (hk s hs)).strOk
    refine ⟨_, rfl, a, _, dx, fs, _, rfl, h1, T.cl_Version, T.na_Version_syllables, h3, _, rfl, b, _, dy, gs, _, rfl, g1, T.cl_Version, T.na_Version_syllables, g3, _, _, .tup (SqT.of h4) (dpAll_syl h5), .tup (SqT.of g4) (dpAll_syl g5), (shaped_of _ (lay rs hA.kin)).1, (shaped_of _ (lay zs hB.kin)).1, ?_⟩
    have e : PyData.eqv (.tuple (rs.map encS)) (.tuple (zs.map encS)) = decide (rs = zs) := by
      have := eqvAll_map encS eqv_syl rs zs
      unfold PyData.eqv
      rw [this]
    rw [e]
    exact q
/-! moving -/
abbrev s_moving : Stmt := (top 56)
abbrev N_moving : List Str := ["row", "at", "to"]
abbrev P_moving : List Str := ["row", "at", "to"]
theorem sc_moving : FnScope N_moving P_moving (defScope s_moving) := ⟨rfl, rfl, rfl, by decide +kernel, rfl, by decide +kernel, by decide +kernel⟩

def spMoving (K : PySem.W.Frag) : Sp := fun vs H Q _ => ∃ r i j t T ss z, vs = [.ref r, .int (i : Nat), .int (j : Nat)] ∧ RowAt K H r t T ss ∧ ss.length ≤ 400 ∧ ss[i]? = some z ∧ j < ss.length ∧ ∀ H' x rs, Same H H' → VerAt K H' x t T rs → Ev T (ss.reverse.map negS ++ movedL ss i j z) rs → Q (.ref x) H'
theorem movedL_len {ss : List (Str × Int)} {i j : Nat} {z : Str × Int} (hi : i < ss.length) : (movedL ss i j z).length = ss.length := by
  have lers : (ss.eraseIdx i).length = ss.length - 1 := List.length_eraseIdx_of_lt hi
  unfold movedL
  rw [List.length_append, List.length_cons, List.length_take, List.length_drop]
  omega
theorem ok_moving (T : Txt K mg) {f : Addr} (F : FnT K "moving" "moving" s_moving f) (F_Version_of : FnR P w K mg base CX0 9 (He5.wf K (He.ga K "Version") "classmethod" "of") (spVerOf K)) (F_Row___add__ : FnR P w K mg base CX0 4 (He.ma K (He.ga K "Row") "__add__") (spRowAdd K)) (F_Row___invert__ : FnR P w K mg base CX0 4 (He.ma K (He.ga K "Row") "__invert__") (spRowInv K))
    (F_Row_moved : FnR P w K mg base CX0 4 (He.ma K (He.ga K "Row") "moved") (spMoved K)) : FnR P w K mg base CX0 11 f (spMoving K) := by
  refine F.ok sc_moving (fun _ _ _ _ _ _ us hl => match us, hl with | [_, _, _], _ => rfl) (fun vs H Q E h => ?_) (fun cdv A outer s H vs Q E hr h => ?_)
  · obtain ⟨r, i, j, t, T', ss, z, rfl, _⟩ := h
    rfl
  · obtain ⟨r, i, j, t, Tt, ss, z, rfl, hR, hl, hz, hj, q⟩ := h
    refine ⟨_, (pss_one (ps_ret (ClX.pe_cmeth (pe_glob (v := .ref (He.ga K "Version")) rfl T.m_Version rfl) T.rd_Version T.cm_Version_of F_Version_of (hr.mono (by decide)) pass0 (pa_cons (pe_op (op_binOwn T.add_Row T.addf_Row T.sf_Row F_Row___add__ (hr.mono (by decide)) pass0) (pe_un (un_invOwn T.inv_Row T.invf_Row F_Row___invert__ (hr.mono (by decide)) pass0) (pv 0)) (pe_methR (pv 0) T.cl_Row T.me_Row_moved F_Row_moved (hr.mono (by decide)) pass0 (pa_cons (pv 1) (pa_cons (pv 2) pa_nil)))) pa_nil)))), ?_⟩
    obtain ⟨dx, fs, p, vs, h1, h2, h3, h4, h5, h6, h7⟩ := hR.ex
    have hi : i < ss.length := (List.getElem?_eq_some_iff.mp hz).1
    refine ⟨rfl, _, rfl, r, dx, fs, rfl, h1, r, t, Tt, ss, rfl, hR, by omega, fun H1 x1 S1 R1 => ?_⟩
    refine ⟨_, rfl, r, dx, fs, rfl, S1 _ _ h1, h7, _, rfl, _, rfl, r, i, j, t, Tt, ss, z, rfl, hR.mono S1, by omega, hz, hj, fun H2 x2 S2 R2 => ?_⟩
    have R1' := R1.mono S2
    obtain ⟨d1, f1, p1, v1, i1, _⟩ := R1'.ex
    obtain ⟨d2, f2, p2, v2, i2, _⟩ := R2.ex
    have lm := movedL_len (j := j) (z := z) hi
    refine ⟨x1, d1, f1, x2, d2, f2, rfl, rfl, i1, i2, x1, x2, t, Tt, _, _, rfl, R1', R2, by rw [List.length_map, List.length_reverse, lm]; omega, fun H3 x3 S3 R3 => ?_⟩
    refine ⟨_, x3, t, Tt, _, rfl, R3, by rw [List.length_append, List.length_map, List.length_reverse, lm]; omega, fun H4 x4 rs S4 V4 ev => ?_⟩
    exact q H4 x4 rs (((S1.trans S2).trans S3).trans S4) V4 ev
/-! amends -/
abbrev s_amends : Stmt := (top 55)
abbrev N_amends : List Str := ["row", "at", "more", "left"]
abbrev P_amends : List Str := ["row", "at", "more"]
theorem sc_amends : FnScope N_amends P_amends (defScope s_amends) := ⟨rfl, rfl, rfl, by decide +kernel, rfl, by decide +kernel, by decide +kernel⟩

def spAmends0 (K : PySem.W.Frag) : Sp := fun vs H Q _ => ∃ r i m t T ss, vs = [.ref r, .int (i : Nat), .ref m] ∧ H m = some (.tup []) ∧ RowAt K H r t T ss ∧ ss.length ≤ 400 ∧ i < ss.length ∧ ∀ H' x rs, Same H H' → VerAt K H' x t T rs → Ev T (ss.reverse.map negS ++ ss.eraseIdx i) rs → Q (.ref x) H'
def spAmends (K : PySem.W.Frag) : Sp := fun vs H Q _ => ∃ r i t T ss, vs = [.ref r, .int (i : Nat)] ∧ RowAt K H r t T ss ∧ ss.length ≤ 400 ∧ i < ss.length ∧ ∀ H' x rs, Same H H' → VerAt K H' x t T rs → Ev T (ss.reverse.map negS ++ ss.eraseIdx i) rs → Q (.ref x) H'
theorem ok_amends (T : Txt K mg) {f : Addr} (F : FnT K "amends" "amends" s_amends f) (F_Version_of : FnR P w K mg base CX0 9 (He5.wf K (He.ga K "Version") "classmethod" "of") (spVerOf K)) (F_Row___add__ : FnR P w K mg base CX0 4 (He.ma K (He.ga K "Row") "__add__") (spRowAdd K)) (F_Row___invert__ : FnR P w K mg base CX0 4 (He.ma K (He.ga K "Row") "__invert__") (spRowInv K))
    (F_Row_without : FnR P w K mg base CX0 4 (He.ma K (He.ga K "Row") "without") (spWithout K)) : FnR P w K mg base CX0 11 f (spAmends K) := by
  refine (F.okS (sp := spAmends0 K) sc_amends (ps := ["row", "at"]) (fun kV doc pm an cdv ct => bind_star2 (B := fun us => bindArgs (PySem.W.fnOf "amends" "amends" (defArgs s_amends) (defBody s_amends) (defScope s_amends) .none kV doc pm an cdv ct) ⟨us, []⟩) (fun _ _ => rfl) (fun _ _ _ _ => rfl)) (fun cdv A outer s H vs Q E hr h => ?_)).imp fun vs H Q E h => ?_
  · obtain ⟨r, i, m, t, Tt, ss, rfl, hm, hR, hl, hi, q⟩ := h
    refine ⟨_, (pss_cons (ps_set (i := 3) sc_amends.nd rfl (Or.inl rfl) (pe_methSB (pv 0) T.cl_Row T.bm_Row_without F_Row_without (hr.mono (by decide)) pass0 (pv 1) (pv 2)))
      (pss_one (ps_ret (ClX.pe_cmeth (pe_glob (v := .ref (He.ga K "Version")) rfl T.m_Version rfl) T.rd_Version T.cm_Version_of F_Version_of (hr.mono (by decide)) pass0 (pa_cons (pe_op (op_binOwn T.add_Row T.addf_Row T.sf_Row F_Row___add__ (hr.mono (by decide)) pass0) (pe_un (un_invOwn T.inv_Row T.invf_Row F_Row___invert__ (hr.mono (by decide)) pass0) (pv 0)) (pv 3)) pa_nil))))), ?_⟩
    obtain ⟨dx, fs, p, vs, h1, h2, h3, h4, h5, h6, h7⟩ := hR.ex
    refine ⟨_, rfl, r, dx, fs, rfl, h1, h6, fun qq hq => ?_⟩
    have S0 := Smn (o := .met (He.ma K (He.ga K "Row") "without") r) hq
    refine ⟨_, rfl, _, rfl, m, [], rfl, .inl (SqT.of (S0 _ _ hm)), upd_same, r, i, t, Tt, ss, rfl, hR.mono S0, by omega, hi, fun H1 x1 S1 R1 => ?_⟩
    have S01 := S0.trans S1
    refine ⟨rfl, _, rfl, r, dx, fs, rfl, S01 _ _ h1, r, t, Tt, ss, rfl, hR.mono S01, by omega, fun H2 x2 S2 R2 => ?_⟩
    have R1' := R1.mono S2
    obtain ⟨d1, f1, p1, v1, i1, _⟩ := R1'.ex
    obtain ⟨d2, f2, p2, v2, i2, _⟩ := R2.ex
    have lm : (ss.eraseIdx i).length = ss.length - 1 := List.length_eraseIdx_of_lt hi
    refine ⟨_, rfl, x2, d2, f2, x1, d1, f1, rfl, rfl, i2, i1, x2, x1, t, Tt, _, _, rfl, R2, R1', by rw [List.length_map, List.length_reverse, lm]; omega, fun H3 x3 S3 R3 => ?_⟩
    refine ⟨_, x3, t, Tt, _, rfl, R3, by rw [List.length_append, List.length_map, List.length_reverse, lm]; omega, fun H4 x4 rs S4 V4 ev => ?_⟩
    exact q H4 x4 rs (((S01.trans S2).trans S3).trans S4) V4 ev
  · obtain ⟨r, i, t, Tt, ss, rfl, hR, hl, hi, q⟩ := h
    refine ⟨[.ref r, .int (i : Nat)], [], rfl, rfl, Nat.zero_le _, fun p hp => ?_⟩
    have S := Smn (o := .tup []) hp
    exact ⟨r, i, p, t, Tt, ss, rfl, upd_same, hR.mono S, hl, hi, fun H' x rs S' => q H' x rs (S.trans S')⟩
end
end Un

/-! ## M2 -/
set_option Elab.async false
set_option linter.all false
/-! Permutations of the places, their rings, powers. -/
namespace Un
def app (mv : List Nat) (s : Nat) : Nat := mv.getD s s
structure Pm (n : Nat) (mv : List Nat) : Prop where
  len : mv.length = n
  lt : ∀ s, s < n → app mv s < n
  inj : ∀ s t, s < n → t < n → app mv s = app mv t → s = t
def it (p : Nat → Nat) : Nat → Nat → Nat
  | 0, x => x
  | k + 1, x => p (it p k x)
theorem it_add (p : Nat → Nat) (a b x : Nat) : it p (a + b) x = it p a (it p b x) := by
  induction a with
  | zero => rw [Nat.zero_add]; rfl
  | succ a ih => rw [Nat.succ_add]; show p _ = p _; rw [ih]
theorem it_fix {p : Nat → Nat} {x : Nat} (h : p x = x) : ∀ k, it p k x = x
  | 0 => rfl
  | k + 1 => by show p _ = _; rw [it_fix h k, h]
theorem it_mul {p : Nat → Nat} {x L : Nat} (h : it p L x = x) : ∀ q, it p (L * q) x = x
  | 0 => rfl
  | q + 1 => by rw [Nat.mul_succ, it_add, h, it_mul h q]
theorem it_mod {p : Nat → Nat} {M : Nat} {x : Nat} (h : it p M x = x) (m : Nat) : it p (m % M) x = it p m x := by
  have e : m = m % M + M * (m / M) := by have := Nat.div_add_mod m M; omega
  conv => rhs; rw [e]
  rw [it_add, it_mul h]
theorem it_comm1 {p q : Nat → Nat} (h : ∀ s, p (q s) = q (p s)) : ∀ b s, p (it q b s) = it q b (p s)
  | 0, s => rfl
  | b + 1, s => by show p (q _) = q _; rw [h, it_comm1 h b]
theorem it_comm {p q : Nat → Nat} (h : ∀ s, p (q s) = q (p s)) (a b s : Nat) : it p a (it q b s) = it q b (it p a s) := by
  induction a with
  | zero => rfl
  | succ a ih => show p _ = it q b (p _); rw [ih, it_comm1 h]
theorem nodup_le : ∀ (n : Nat) (l : List Nat), l.Nodup → (∀ x ∈ l, x < n) → l.length ≤ n
  | 0, l, _, h => by
    cases l with
    | nil => exact Nat.le_refl _
    | cons x _ => exact absurd (h x (List.mem_cons_self ..)) (Nat.not_lt_zero _)
  | n + 1, l, nd, h => by
    have h1 : (l.erase n).length ≤ n := nodup_le n _ (nd.erase n) fun x hx => by
      have := h x (List.mem_of_mem_erase hx)
      have : x ≠ n := fun e => by
        rw [e] at hx
        exact (nd.not_mem_erase) hx
      omega
    by_cases hm : n ∈ l
    · have := List.length_erase_of_mem hm
      omega
    · rw [List.erase_of_not_mem hm] at h1
      omega
def fac : Nat → Nat
  | 0 => 1
  | n + 1 => (n + 1) * fac n
theorem fac_pos : ∀ n, 0 < fac n
  | 0 => Nat.one_pos
  | n + 1 => Nat.mul_pos (Nat.succ_pos n) (fac_pos n)
theorem dvd_fac : ∀ (n d : Nat), 1 ≤ d → d ≤ n → d ∣ fac n
  | 0, d, h1, h2 => by omega
  | n + 1, d, h1, h2 => by
    by_cases e : d = n + 1
    · subst e
      exact Nat.dvd_mul_right _ _
    · exact Nat.dvd_trans (dvd_fac n d h1 (by omega)) (Nat.dvd_mul_left _ _)
theorem Pm.it_lt {n : Nat} {mv : List Nat} (P : Pm n mv) {s : Nat} (h : s < n) : ∀ k, it (app mv) k s < n
  | 0 => h
  | k + 1 => P.lt _ (P.it_lt h k)
theorem Pm.back {n : Nat} {mv : List Nat} (P : Pm n mv) {s : Nat} (h : s < n) : ∀ i j, i ≤ j → it (app mv) i s = it (app mv) j s → it (app mv) (j - i) s = s
  | 0, j, _, e => e.symm
  | i + 1, 0, h1, _ => by omega
  | i + 1, j + 1, h1, e => by
    rw [Nat.add_sub_add_right]
    exact P.back h i j (by omega) (P.inj _ _ (P.it_lt h i) (P.it_lt h j) e)
theorem Pm.cycle {n : Nat} {mv : List Nat} (P : Pm n mv) {s : Nat} (h : s < n) : ∃ L, 1 ≤ L ∧ L ≤ n ∧ it (app mv) L s = s := by
  apply Classical.byContradiction
  intro no
  have no' : ∀ L, 1 ≤ L → L ≤ n → it (app mv) L s ≠ s := fun L h1 h2 e => no ⟨L, h1, h2, e⟩
  have nd : ((List.range (n + 1)).map fun k => it (app mv) k s).Nodup := by
    rw [List.nodup_iff_pairwise_ne, List.pairwise_map]
    refine List.Pairwise.imp_of_mem ?_ (List.pairwise_lt_range (n := n + 1))
    intro a b ha hb hab e
    have hb' := List.mem_range.mp hb
    exact no' (b - a) (by omega) (by omega) (P.back h a b (by omega) e)
  have := nodup_le n _ nd fun x hx => by
    obtain ⟨k, _, rfl⟩ := List.mem_map.mp hx
    exact P.it_lt h k
  rw [List.length_map, List.length_range] at this
  omega
theorem app_out {n : Nat} {mv : List Nat} (h : mv.length ≤ n) {s : Nat} (hs : n ≤ s) : app mv s = s := by
  unfold app
  rw [List.getD_eq_getElem?_getD, List.getElem?_eq_none (by omega)]
  rfl
theorem Pm.per {n : Nat} {mv : List Nat} (P : Pm n mv) (s : Nat) : it (app mv) (fac n) s = s := by
  by_cases h : s < n
  · obtain ⟨L, h1, h2, e⟩ := P.cycle h
    obtain ⟨q, hq⟩ := dvd_fac n L h1 h2
    rw [hq]
    exact it_mul e q
  · exact it_fix (app_out (Nat.le_of_eq P.len) (by omega)) _
/-! rings -/
structure RingOk (p : Nat → Nat) (ring : List Nat) : Prop where
  pos : 0 < ring.length
  step : ∀ (i x : Nat), ring[i]? = some x → i + 1 < ring.length → ring[i + 1]? = some (p x)
  last : ∀ x, ring[ring.length - 1]? = some x → ring[0]? = some (p x)
theorem RingOk.next {p : Nat → Nat} {ring : List Nat} (R : RingOk p ring) {i x : Nat} (h : ring[i]? = some x) : ring[(i + 1) % ring.length]? = some (p x) := by
  have hi := (List.getElem?_eq_some_iff.mp h).1
  by_cases c : i + 1 < ring.length
  · rw [Nat.mod_eq_of_lt c]
    exact R.step i x h c
  · have e : i = ring.length - 1 := by omega
    rw [show i + 1 = ring.length by omega, Nat.mod_self]
    exact R.last x (e ▸ h)
theorem RingOk.at {p : Nat → Nat} {ring : List Nat} (R : RingOk p ring) {i x : Nat} (h : ring[i]? = some x) : ∀ k, ring[(i + k) % ring.length]? = some (it p k x)
  | 0 => by
    rw [Nat.add_zero, Nat.mod_eq_of_lt (List.getElem?_eq_some_iff.mp h).1]
    exact h
  | k + 1 => by
    have := R.next (R.at h k)
    rw [Nat.mod_add_mod] at this
    exact this
/-- the power that a count stands for -/
def pw (n : Nat) (p : Nat → Nat) (c : Int) (s : Nat) : Nat := it p (c % (fac n : Nat)).toNat s
theorem RingOk.act {p : Nat → Nat} {ring : List Nat} (R : RingOk p ring) {n i x : Nat} (hn : ring.length ≤ n) (h : ring[i]? = some x) (c : Int) : ring[(((i : Nat) + c) % (ring.length : Nat)).toNat]? = some (pw n p c x) := by
  have h1 := R.at h (c % (fac n : Nat)).toNat
  obtain ⟨q, hq⟩ := dvd_fac n ring.length R.pos hn
  have hp : (0 : Int) < (fac n : Nat) := Int.ofNat_lt.mpr (fac_pos n)
  have hL : (0 : Int) < (ring.length : Nat) := Int.ofNat_lt.mpr R.pos
  have e : (i + (c % (fac n : Nat)).toNat) % ring.length = (((i : Nat) + c) % (ring.length : Nat)).toNat := by
    apply Int.ofNat.inj
    show (((i + (c % (fac n : Nat)).toNat) % ring.length : Nat) : Int) = (((((i : Nat) + c) % (ring.length : Nat)).toNat : Nat) : Int)
    rw [Int.toNat_of_nonneg (Int.emod_nonneg _ (by omega)), Int.natCast_emod, Int.natCast_add, Int.toNat_of_nonneg (Int.emod_nonneg _ (by omega))]
    rw [Int.add_emod, Int.emod_emod_of_dvd _ (by exact Int.natCast_dvd_natCast.mpr ⟨q, hq⟩), ← Int.add_emod]
  rw [e] at h1
  exact h1
theorem pw_zero (n : Nat) (p : Nat → Nat) (s : Nat) : pw n p 0 s = s := by
  unfold pw
  rw [Int.zero_emod]
  rfl
theorem pw_add {n : Nat} {p : Nat → Nat} (per : ∀ s, it p (fac n) s = s) (i j : Int) (s : Nat) : pw n p j (pw n p i s) = pw n p (i + j) s := by
  have hp : (0 : Int) < (fac n : Nat) := Int.ofNat_lt.mpr (fac_pos n)
  unfold pw
  rw [← it_add, ← it_mod (per s)]
  have e : (((j % (fac n : Nat)).toNat + (i % (fac n : Nat)).toNat) % fac n) = ((i + j) % (fac n : Nat)).toNat := by
    apply Int.ofNat.inj
    show ((((j % (fac n : Nat)).toNat + (i % (fac n : Nat)).toNat) % fac n : Nat) : Int) = ((((i + j) % (fac n : Nat)).toNat : Nat) : Int)
    rw [Int.toNat_of_nonneg (Int.emod_nonneg _ (by omega)), Int.natCast_emod, Int.natCast_add, Int.toNat_of_nonneg (Int.emod_nonneg _ (by omega)), Int.toNat_of_nonneg (Int.emod_nonneg _ (by omega)), ← Int.add_emod, Int.add_comm]
  rw [e]
theorem pw_comm {n : Nat} {p q : Nat → Nat} (h : ∀ s, p (q s) = q (p s)) (i j : Int) (s : Nat) : pw n p i (pw n q j s) = pw n q j (pw n p i s) := it_comm h _ _ _
theorem pw_lt {n : Nat} {mv : List Nat} (P : Pm n mv) {s : Nat} (h : s < n) (c : Int) : pw n (app mv) c s < n := P.it_lt h _
/-! an orbit while it is walked -/
structure Orb (p : Nat → Nat) (n f : Nat) (ring : List Nat) : Prop where
  pos : 0 < ring.length
  head : ring[0]? = some f
  step : ∀ (i x : Nat), ring[i]? = some x → i + 1 < ring.length → ring[i + 1]? = some (p x)
  nd : ring.Nodup
  lt : ∀ x ∈ ring, x < n
theorem Orb.one (p : Nat → Nat) {n f : Nat} (h : f < n) : Orb p n f [f] := ⟨Nat.one_pos, rfl, fun i x _ h => by simp at h, by simp, fun x hx => by rw [List.mem_singleton.mp hx]; exact h⟩
theorem Orb.len {p : Nat → Nat} {n f : Nat} {ring : List Nat} (O : Orb p n f ring) : ring.length ≤ n := nodup_le n _ O.nd O.lt
theorem Orb.snoc {n f : Nat} {mv ring : List Nat} (P : Pm n mv) (O : Orb (app mv) n f ring) {x : Nat} (hx : ring[ring.length - 1]? = some x) (hne : app mv x ≠ f) : Orb (app mv) n f (ring ++ [app mv x]) := by
  have hpos := O.pos
  have hxm := O.lt x (List.mem_of_getElem? hx)
  have hnew : app mv x ∉ ring := fun hm => by
    obtain ⟨j, hj, e⟩ := List.getElem_of_mem hm
    cases j with
    | zero =>
      have := O.head
      rw [List.getElem?_eq_getElem hj, e] at this
      exact hne (Option.some.inj this)
    | succ j =>
      have hy : ring[j]? = some ring[j] := List.getElem?_eq_getElem (by omega)
      have h1 := O.step j _ hy hj
      rw [List.getElem?_eq_getElem hj, e] at h1
      have h2 := P.inj _ _ hxm (O.lt _ (List.mem_of_getElem? hy)) (Option.some.inj h1)
      rw [List.getElem?_eq_getElem (by omega)] at hx
      have h3 : ring[ring.length - 1] = ring[j] := (Option.some.inj hx).trans h2
      have := (List.getElem_inj O.nd).mp h3
      omega
  refine ⟨by simp, ?_, fun i y hy hi => ?_, ?_, fun y hy => ?_⟩
  · rw [List.getElem?_append_left hpos]
    exact O.head
  · rw [List.length_append, List.length_singleton] at hi
    rw [List.getElem?_append_left (by omega)] at hy
    by_cases c : i + 1 < ring.length
    · rw [List.getElem?_append_left c]
      exact O.step i y hy c
    · have e : i = ring.length - 1 := by omega
      have exy : y = x := by
        rw [e, hx] at hy
        exact (Option.some.inj hy).symm
      rw [exy, List.getElem?_append_right (by omega), show i + 1 - ring.length = 0 by omega]
      rfl
  · rw [List.nodup_append]
    exact ⟨O.nd, by simp, fun a ha b hb e => hnew (by rw [List.mem_singleton.mp hb] at e; rw [← e]; exact ha)⟩
  · rcases List.mem_append.mp hy with h | h
    · exact O.lt y h
    · rw [List.mem_singleton.mp h]
      exact P.lt x hxm
theorem Orb.ring {p : Nat → Nat} {n f : Nat} {ring : List Nat} (O : Orb p n f ring) {x : Nat} (hx : ring[ring.length - 1]? = some x) (he : p x = f) : RingOk p ring :=
  ⟨O.pos, O.step, fun y hy => by rw [hx] at hy; rw [← Option.some.inj hy, he]; exact O.head⟩
end Un

/-! ## D15 -/
set_option Elab.async false
set_option linter.all false
set_option maxRecDepth 100000
set_option maxHeartbeats 4000000
namespace Un
open PySem PySem.Spec PyProof.Rows L2 StX
abbrev vN (x : Nat) : V := .int ((x : Nat) : Int)
theorem at_last {xs : List V} {v : V} (h : xs[xs.length - 1]? = some v) : atI xs (-1) = some v := by
  have hl := (List.getElem?_eq_some_iff.mp h).1
  unfold atI ixN
  rw [if_neg (by omega), if_pos (by omega)]
  show xs[(-1 + (xs.length : Int)).toNat]? = some v
  rw [show (-1 + (xs.length : Int)).toNat = xs.length - 1 by omega]
  exact h
theorem ixN_nat {n j : Nat} (h : j < n) : ixN n ((j : Nat) : Int) = some j := by
  unfold ixN
  rw [if_pos (by omega), if_pos (by omega)]
  simp
theorem map_at {mv : List Nat} {s : Nat} (h : s < mv.length) : (mv.map vN)[s]? = some (vN (app mv s)) := by
  unfold app
  rw [List.getElem?_map, List.getD_eq_getElem?_getD, List.getElem?_eq_getElem h]
  rfl
def SameX (G : Addr) (H H' : Hp) : Prop := ∀ c u, c ≠ G → H c = some u → H' c = some u
theorem Same.x {G : Addr} {H H' : Hp} (s : Same H H') : SameX G H H' := fun c u _ e => s c u e
theorem SameX.upd {G : Addr} {H : Hp} {u : HO} : SameX G H (upd H G u) := fun c u' n e => by rw [upd_ne n]; exact e
theorem SameX.trans {G : Addr} {H H1 H2 : Hp} (a : SameX G H H1) (b : SameX G H1 H2) : SameX G H H2 := fun c u n e => b c u n (a c u n e)
/-- a place's entry: its ring and where it stands in it -/
def RgAt (A : Addr → Prop) (H : Hp) (G : Addr) (v : V) (p : Nat → Nat) (s n : Nat) : Prop := ∃ b r ring pl, v = .ref b ∧ b ≠ G ∧ (r ≠ G ∧ A r) ∧ H b = some (.tup [.ref r, vN pl]) ∧ H r = some (.lst (ring.map vN)) ∧ RingOk p ring ∧ ring[pl]? = some s ∧ ring.length ≤ n
theorem RgAt.mono {A : Addr → Prop} {H H' : Hp} {G : Addr} {v : V} {p : Nat → Nat} {s n : Nat} (S : SameX G H H') (h : RgAt A H G v p s n) : RgAt A H' G v p s n := by
  obtain ⟨b, r, ring, pl, h1, h2, h3, h4, h5, h6⟩ := h
  exact ⟨b, r, ring, pl, h1, h2, h3, S _ _ h2 h4, S _ _ h3.1 h5, h6⟩
/-- the rings' list -/
def RingsAt (A : Addr → Prop) (H : Hp) (G : Addr) (p : Nat → Nat) (n : Nat) : Prop := ∃ items, H G = some (.lst items) ∧ (items.length = n ∧ A G) ∧ ∀ s v, items[s]? = some v → RgAt A H G v p s n
theorem RingsAt.mono {A : Addr → Prop} {H H' : Hp} {G : Addr} {p : Nat → Nat} {n : Nat} (S : Same H H') (h : RingsAt A H G p n) : RingsAt A H' G p n := by
  obtain ⟨items, h1, h2, h3⟩ := h
  exact ⟨items, S _ _ h1, h2, fun s v hv => (h3 s v hv).mono (Same.x S)⟩
section
variable {P : Program} {w : World} {K : PySem.W.Frag} {mg : Str → Option Value} {base : Heap}
/-! rings_of -/
abbrev s_rings_of : Stmt := (top 58)
abbrev N_rings_of : List Str := ["move", "found", "first", "ring", "place", "standing"]
abbrev P_rings_of : List Str := ["move"]
theorem sc_rings_of : FnScope N_rings_of P_rings_of (defScope s_rings_of) := ⟨rfl, rfl, rfl, by decide +kernel, rfl, by decide +kernel, by decide +kernel⟩

def spRings : Sp := fun vs H Q _ => ∃ (A : Addr → Prop) (m : Addr) (mv : List Nat) (n : Nat), vs = [.ref m] ∧ (∀ a, H a = none → A a) ∧ H m = some (.tup (mv.map vN)) ∧ Pm n mv ∧ n ≤ 1000 ∧ ∀ H' p, Same H H' → RingsAt A H' p (app mv) n → Q (.ref p) H'
theorem ok_rings_of (T : Txt K mg) {f : Addr} (F : FnT K "rings_of" "rings_of" s_rings_of f) : FnR P w K mg base CX0 1 f spRings := by
  refine F.ok sc_rings_of (fun _ _ _ _ _ _ us hl => match us, hl with | [_], _ => rfl) (fun vs H Q E h => ?_) (fun cdv A outer s H vs Q E hr h => ?_)
  · obtain ⟨A0, m, mv, n, rfl, _⟩ := h
    rfl
  · obtain ⟨A0, m, mv, n, rfl, hA0, hm, hP, hn, q⟩ := h
    refine ⟨_, (pss_cons (ps_set (i := 1) sc_rings_of.nd rfl (Or.inl rfl) (pe_op op_rep (pe_lst (pa_cons pe_non pa_nil)) (pe_callB call_len rfl T.f_len boot_len (pa_cons (pv 0) pa_nil))))
      (pss_cons (ps_for PassesOwn.never rfl (pi_range1 rfl T.f_range (pa_cons (pe_callB call_len rfl T.f_len boot_len (pa_cons (pv 0) pa_nil)) pa_nil)) (pg_name (i := 2) sc_rings_of.nd rfl (Or.inl rfl)) (pss_one (ps_if (pt_cmpR op_isN (pe_ix ix_list (pv 1) (pv 2) (fun _ _ => rfl)) pe_non (nomark _)) (pss_cons (ps_set (i := 3) sc_rings_of.nd rfl (Or.inl rfl) (pe_lst (pa_cons (pv 2) pa_nil)))
      (pss_cons (ps_while PassesOwn.never (pt_cmpR op_ne (pe_ix ix_tup (pv 0) (pe_ix ix_list (pv 3) (pe_un un_neg pe_int) (fun _ _ => rfl)) (fun _ _ => rfl)) (pv 2) (nomark _)) (pss_one (ps_expr (pe_bm PySem.F.plainAttrs_list PySem.F.slot_list_append PySem.F.type_list_append mt_append (pv 3) (pa_cons (pe_ix ix_tup (pv 0) (pe_ix ix_list (pv 3) (pe_un un_neg pe_int) (fun _ _ => rfl)) (fun _ _ => rfl)) pa_nil)))))
      (pss_one (ps_for PassesOwn.never rfl (pi_enum rfl T.f_enumerate (pa_cons (pv 3) pa_nil)) (pg_tup (n := 2) rfl (pgs_cons (pg_name (i := 4) sc_rings_of.nd rfl (Or.inl rfl)) (pgs_cons (pg_name (i := 5) sc_rings_of.nd rfl (Or.inl rfl)) pgs_nil))) (pss_one (ps_asg (pe_tup (pa_cons (pv 3) (pa_cons (pv 4) pa_nil))) (pg_sub (pv 1) (pv 5) set_list))))))) pss_nil)))
      (pss_one (ps_ret (pv 1))))), ?_⟩
    have hl := hP.len
    have line : sizeLine = 16777216 := sizeLine_eq
    refine ⟨by show 1 ≤ sizeLine; omega, fun g0 hg0 => ?_⟩
    have S0 := Smn (o := .lst [V.non]) hg0
    refine ⟨_, rfl, _, mv.length, rfl, .inr ⟨_, SqT.of (S0 _ _ hm), by simp⟩, g0, _, _, rfl, rfl, upd_same, by omega, by omega, ?_, fun G hG => ?_⟩
    · show 1 * _ ≤ _
      simp
      omega
    have eni : (List.replicate ((mv.length : Nat) : Int).toNat [V.non]).flatten = List.replicate n V.non := by
      rw [show ((mv.length : Nat) : Int).toNat = n by omega]
      generalize n = k
      induction k with
      | zero => rfl
      | succ k ih => rw [List.replicate_succ, List.replicate_succ, List.flatten_cons, ih]; rfl
    rw [eni]
    have S1 := S0.trans (Smn (o := .lst (List.replicate n V.non)) hG)
    have hG0 : H G = none := by
      cases e : H G with
      | none => rfl
      | some u =>
        have := S0 _ _ e
        rw [hG] at this
        cases this
    have eG : (upd (upd H g0 (.lst [V.non])) G (.lst (List.replicate n V.non))) G = some (.lst (List.replicate n V.non)) := upd_same
    generalize (upd (upd H g0 (.lst [V.non])) G (.lst (List.replicate n V.non))) = H1 at *
    refine ⟨_, rfl, _, mv.length, rfl, .inr ⟨_, SqT.of (S1 _ _ hm), by simp⟩, ((n : Nat) : Int), by rw [hl], by omega, by omega, ?_⟩
    refine for_it (walk_range (lo := 0) (n := ((n : Nat) : Int).toNat)) (fun i σ H' => Same H H' ∧ ∃ v2 v3 v4 v5 items, σ = [some (.ref m), some (.ref G), v2, v3, v4, v5] ∧ H' G = some (.lst items) ∧ items.length = n ∧
        (∀ (s : Nat) v, items[s]? = some v → v = .non ∨ RgAt A0 H' G v (app mv) s n) ∧ ∀ (s : Nat), s < i → items[s]? ≠ some .non)
      ⟨S1, none, none, none, none, _, rfl, eG, List.length_replicate, fun s v hv => .inl ?_, fun s hs => by omega⟩ (fun _ _ _ _ _ => trivial) ?_ ?_
    · rw [List.getElem?_replicate] at hv
      split at hv
      · exact (Option.some.inj hv).symm
      · cases hv
    · rintro i y σ H30 H2 hi ⟨S2, v2, v3, v4, v5, items, rfl, eG2, li, hent, hdone⟩ y'
      obtain ⟨rfl, rfl⟩ := yrng y'
      have hi' : i < n := by omega
      obtain ⟨v, hv⟩ : ∃ v, items[i]? = some v := ⟨_, List.getElem?_eq_getElem (by omega)⟩
      refine ⟨_, rfl, _, rfl, G, items, _, v, rfl, rfl, SqL.of eG2, at_of rfl hv, rfl, _, rfl, ?_⟩
      refine ite2 (fun c => ?_) (fun c => ?_)
      · have ev : v = .non := of_decide_eq_true c
        refine ⟨_, rfl, by show 1 ≤ sizeLine; omega, fun r hr' => ?_⟩
        have S3 := S2.trans (Smn (o := .lst [vN i]) hr')
        have nrG : r ≠ G := fun z => by rw [z, eG2] at hr'; cases hr'
        have hr0 : H r = none := by
          cases e : H r with
          | none => rfl
          | some u =>
            have := S2 _ _ e
            rw [hr'] at this
            cases this
        refine ⟨fun m' σ H' => Same H H' ∧ SameX r H2 H' ∧ ∃ ring, m' = n - ring.length ∧ σ = [some (.ref m), some (.ref G), some (vN i), some (.ref r), v4, v5] ∧ H' r = some (.lst (ring.map vN)) ∧ Orb (app mv) n i ring,
          ⟨n - 1, S3, Same.x (Smn hr'), [i], rfl, rfl, upd_same, Orb.one _ hi'⟩, ?_⟩
        rintro m' σ H4 ⟨S4, X4, ring, rfl, rfl, er, O⟩
        have hO := O.len
        have hpos := O.pos
        obtain ⟨x, hx⟩ : ∃ x, ring[ring.length - 1]? = some x := ⟨_, List.getElem?_eq_getElem (by omega)⟩
        have hxv : (ring.map vN)[(ring.map vN).length - 1]? = some (vN x) := by
          rw [List.length_map, List.getElem?_map, hx]
          rfl
        have xlt := O.lt x (List.mem_of_getElem? hx)
        refine ⟨_, rfl, _, rfl, _, rfl, r, _, _, _, rfl, rfl, SqL.of er, at_last hxv, m, _, _, _, rfl, rfl, SqT.of (S4 _ _ hm), at_of rfl (map_at (by omega)), ?_⟩
        refine ⟨_, rfl, rfl, _, rfl, ?_⟩
        have ene : (!decide (vN (app mv x) = vN i)) = decide (app mv x ≠ i) := by
          by_cases c : app mv x = i
          · rw [c]
            simp
          · have : vN (app mv x) ≠ vN i := fun h => c (Int.ofNat.inj (V.int.inj h))
            rw [decide_eq_false this, decide_eq_true c]
            rfl
        refine ite2 (fun c => ?_) (fun c => ?_)
        · have ne : app mv x ≠ i := of_decide_eq_true (ene ▸ c)
          have O' := O.snoc hP hx ne
          refine ⟨fun σ H' => Same H H' ∧ SameX r H2 H' ∧ σ = [some (.ref m), some (.ref G), some (vN i), some (.ref r), v4, v5] ∧ H' r = some (.lst ((ring ++ [app mv x]).map vN)), fun σ' H' h => ⟨n - (ring ++ [app mv x]).length, ?_, h.1, h.2.1, _, rfl, h.2.2.1, h.2.2.2, O'⟩, ?_⟩
          · have := O'.len
            rw [List.length_append] at this ⊢
            simp at this ⊢
            omega
          refine ⟨_, rfl, tyL er, _, rfl, _, rfl, _, rfl, r, _, _, _, rfl, rfl, SqL.of er, at_last hxv, m, _, _, _, rfl, rfl, SqT.of (S4 _ _ hm), at_of rfl (map_at (by omega)), ?_⟩
          refine ⟨r, _, _, rfl, rfl, er, by rw [List.length_map]; omega, ?_⟩
          exact ⟨Sup S4 hr0, X4.trans SameX.upd, rfl, by rw [upd_same, List.map_append]; rfl⟩
        · have he : app mv x = i := by
            apply Classical.byContradiction
            intro h
            exact c (ene ▸ decide_eq_true h)
          have R := O.ring hx he
          have eG4 := X4 _ _ nrG.symm eG2
          refine ⟨_, rfl, r, _, rfl, SqL.of er, ?_⟩
          refine for_it (walk_enum (K := K) (a := r) (xs := ring.map vN)) (fun j σ H' => Same H H' ∧ H' r = some (.lst (ring.map vN)) ∧ ∃ v4 v5 items, σ = [some (.ref m), some (.ref G), some (vN i), some (.ref r), v4, v5] ∧ H' G = some (.lst items) ∧ items.length = n ∧
              (∀ (s : Nat) v, items[s]? = some v → v = .non ∨ RgAt A0 H' G v (app mv) s n) ∧ (∀ (s : Nat), s < i → items[s]? ≠ some .non) ∧ ∀ (k : Nat), k < j → ∀ x, ring[k]? = some x → items[x]? ≠ some .non)
            ⟨S4, er, v4, v5, items, rfl, eG4, li, fun s v hv => ?_, hdone, fun k hk => by omega⟩ (fun _ _ _ _ p => SqL.of p.2.1) ?_ ?_
          · rcases hent s v hv with h | ⟨b, r', ring', pl, h1, h2, h3, h4, h5, h6⟩
            · exact .inl h
            · have nb : b ≠ r := fun z => by rw [z, hr'] at h4; cases h4
              have nr : r' ≠ r := fun z => by rw [z, hr'] at h5; cases h5
              exact .inr ⟨b, r', ring', pl, h1, h2, h3, X4 _ _ nb h4, X4 _ _ nr h5, h6⟩
          · rintro j y σ H5 H6 hj ⟨S5, er5, w4, w5, items5, rfl, eG5, li5, hent5, hdone5, hk5⟩ y2
            obtain ⟨t, xx, hxx, rfl, ht, rfl⟩ := yp_enum y2
            have St := Smn (o := .tup [.int ((j : Nat) : Int), vN xx]) ht
            refine g2 (SqT.of upd_same) ?_
            have xlt' := O.lt xx (List.mem_of_getElem? hxx)
            refine ⟨_, rfl, _, rfl, by show 2 ≤ sizeLine; omega, fun b hb => ?_⟩
            have Sb := St.trans (Smn (o := .tup [V.ref r, V.int ((j : Nat) : Int)]) hb)
            have eb : (upd (upd H5 t (.tup [.int ((j : Nat) : Int), vN xx])) b (.tup [V.ref r, V.int ((j : Nat) : Int)])) b = some (.tup [V.ref r, vN j]) := upd_same
            generalize (upd (upd H5 t (.tup [.int ((j : Nat) : Int), vN xx])) b (.tup [V.ref r, V.int ((j : Nat) : Int)])) = H7 at *
            have eG7 := Sb _ _ eG5
            have nbG : b ≠ G := fun z => by rw [z, eG7] at eb; cases eb
            refine ⟨_, rfl, _, rfl, G, items5, _, xx, rfl, rfl, eG7, ixN_nat (by omega), ?_⟩
            refine ⟨Sup (S5.trans Sb) hG0, by rw [upd_ne nrG]; exact Sb _ _ er5, _, _, _, rfl, upd_same, by rw [List.length_set]; exact li5, fun s v hv => ?_, fun s hs => ?_, fun k hk x' hx' => ?_⟩
            · rw [List.getElem?_set] at hv
              by_cases c : xx = s
              · rw [if_pos c] at hv
                have hv' : (if xx < items5.length then some (V.ref b) else none) = some v := hv
                rw [if_pos (by omega)] at hv'
                refine .inr ⟨b, r, ring, j, (Option.some.inj hv').symm, nbG, ⟨nrG, hA0 r hr0⟩, by rw [upd_ne nbG]; exact eb, by rw [upd_ne nrG]; exact Sb _ _ er5, R, c ▸ hxx, hO⟩
              · rw [if_neg c] at hv
                rcases hent5 s v hv with h | h
                · exact .inl h
                · exact .inr ((h.mono (Same.x Sb)).mono SameX.upd)
            · rw [List.getElem?_set]
              by_cases c : xx = s
              · rw [if_pos c, if_pos (by omega)]
                intro z
                cases z
              · rw [if_neg c]
                exact hdone5 s hs
            · rw [List.getElem?_set]
              by_cases c : xx = x'
              · rw [if_pos c, if_pos (by omega)]
                intro z
                cases z
              · rw [if_neg c]
                by_cases ck : k = j
                · rw [ck, hxx] at hx'
                  exact absurd (Option.some.inj hx') c
                · exact hk5 k (by omega) x' hx'
          · rintro σ H5 ⟨S5, er5, w4, w5, items5, rfl, eG5, li5, hent5, hdone5, hk5⟩
            refine ⟨S5, _, _, _, _, items5, rfl, eG5, li5, hent5, fun s hs => ?_⟩
            by_cases c : s = i
            · rw [c]
              exact hk5 0 (by rw [List.length_map]; exact hpos) i O.head
            · exact hdone5 s (by omega)
      · have nv : v ≠ .non := fun e => c (decide_eq_true e)
        refine ⟨S2, _, _, _, _, items, rfl, eG2, li, hent, fun s hs => ?_⟩
        by_cases c2 : s = i
        · rw [c2, hv]
          exact fun z => nv (Option.some.inj z)
        · exact hdone s (by omega)
    · rintro σ H2 ⟨S2, v2, v3, v4, v5, items, rfl, eG2, li, hent, hdone⟩
      refine ⟨_, rfl, q H2 G S2 ⟨items, eG2, ⟨li, hA0 G hG0⟩, fun s v hv => ?_⟩⟩
      rcases hent s v hv with h | h
      · have := (List.getElem?_eq_some_iff.mp hv).1
        exact absurd (h ▸ hv) (hdone s (by omega))
      · exact h
end
end Un

/-! ## D16 -/
set_option Elab.async false
set_option linter.all false
set_option maxRecDepth 100000
set_option maxHeartbeats 4000000
namespace Un
open PySem PySem.Spec PyProof.Rows L2 StX
theorem nodup_perm : ∀ (n : Nat) (l : List Nat), l.Nodup → (∀ x ∈ l, x < n) → l.length = n → l.Perm (List.range n)
  | 0, l, _, _, h => by rw [List.length_eq_zero_iff.mp h]; exact .nil
  | n + 1, l, nd, h, hl => by
    have hm : n ∈ l := Classical.byContradiction fun hm => by
      have := nodup_le n l nd fun x hx => by
        have := h x hx
        have : x ≠ n := fun e => hm (e ▸ hx)
        omega
      omega
    have ih := nodup_perm n (l.erase n) (nd.erase n) (fun x hx => by
      have := h x (List.mem_of_mem_erase hx)
      have : x ≠ n := fun e => nd.not_mem_erase (e ▸ hx)
      omega) (by rw [List.length_erase_of_mem hm]; omega)
    rw [List.range_succ]
    exact ((List.perm_cons_erase hm).trans (ih.cons n)).trans (List.perm_append_comm (l₁ := [n]) (l₂ := List.range n))
theorem Pm.perm {n : Nat} {mv : List Nat} (P : Pm n mv) : mv.Perm (List.range n) := by
  have hl := P.len
  have ga : ∀ (i : Nat) (h : i < mv.length), mv[i] = app mv i := fun i h => by
    unfold app
    rw [List.getD_eq_getElem?_getD, List.getElem?_eq_getElem h]
    rfl
  refine nodup_perm n mv ?_ (fun x hx => ?_) hl
  · rw [List.nodup_iff_pairwise_ne, List.pairwise_iff_getElem]
    intro i j hi hj hij e
    rw [ga i hi, ga j hj] at e
    have := P.inj i j (by omega) (by omega) e
    omega
  · obtain ⟨i, hi, rfl⟩ := List.getElem_of_mem hx
    rw [ga i hi]
    exact P.lt i (by omega)
theorem sorted_range {n : Nat} {mv : List Nat} (P : Pm n mv) {ns : List Int} (p : ns.Perm (mv.map fun x => ((x : Nat) : Int))) (s : ns.Pairwise (· ≤ ·)) : ns = (List.range n).map fun x => ((x : Nat) : Int) := by
  refine List.Perm.eq_of_pairwise (le := (· ≤ ·)) (fun a b _ _ h1 h2 => Int.le_antisymm h1 h2) s ?_ (p.trans (P.perm.map _))
  rw [List.pairwise_map]
  exact (List.pairwise_lt_range (n := n)).imp fun h => by omega
theorem dget_frz {H : Hp} {a : Addr} {o : Obj} {kvs : List (Key × V)} {k : Key} (e : H a = some (.frz o (.dK kvs))) : DGet H a (kV k) (valV kvs k) := .inl ⟨kvs, k, .inr ⟨o, e⟩, rfl, rfl⟩
theorem valV_mem {κ : Type} [DecidableEq κ] {kvs : List (κ × V)} {k : κ} {v : V} (h : valV kvs k = some v) : (k, v) ∈ kvs := by
  unfold valV at h
  cases e : kvs.find? fun kv => decide (kv.1 = k) with
  | none => rw [e] at h; cases h
  | some p =>
    rw [e] at h
    have e1 : p.2 = v := Option.some.inj h
    have e2 : p.1 = k := of_decide_eq_true (List.find?_some (p := fun kv : κ × V => decide (kv.1 = k)) e)
    rw [← e1, ← e2]
    exact List.mem_of_find?_eq_some e
theorem mem_putK {κ : Type} [DecidableEq κ] {kvs : List (κ × V)} {k : κ} {v : V} {kv : κ × V} (h : kv ∈ putK kvs k v) : kv ∈ kvs ∨ kv = (k, v) := by
  unfold putK at h
  split at h
  · obtain ⟨x, hx, e⟩ := List.mem_map.mp h
    by_cases c : x.1 = k
    · rw [if_pos c] at e
      rw [← e, c]
      exact .inr rfl
    · rw [if_neg c] at e
      exact .inl (e ▸ hx)
  · rcases List.mem_append.mp h with h | h
    · exact .inl h
    · exact .inr (List.mem_singleton.mp h)
section
variable {P : Program} {w : World} {K : PySem.W.Frag} {mg : Str → Option Value} {base : Heap}
structure StoreAt (A : Addr → Prop) (K : PySem.W.Frag) (H : Hp) (s n : Nat) (ks : List Str) (mvs : Str → List Nat) : Prop where
  ex : ∃ dx fs om rg o kvs rvs, H s = some (.ins (He.ga K "Store") dx fs) ∧ lk fs "size" = some (vN n) ∧ lk fs "own_moves" = some (.ref om) ∧ lk fs "rings" = some (.ref rg) ∧ lk fs "clash" = none ∧ lk fs "keeps" = none ∧
    H om = some (.frz o (.dK kvs)) ∧ H rg = some (.dK rvs) ∧ (∀ k ∈ ks, ∃ a, valV kvs (.inr k) = some (.ref a) ∧ H a = some (.tup ((mvs k).map vN))) ∧ (∀ k ∈ ks, ∃ a, valV rvs (.inr k) = some (.ref a) ∧ RingsAt A H a (app (mvs k)) n)
  pm : ∀ k ∈ ks, Pm n (mvs k)
  sm : n ≤ 100
theorem StoreAt.mono {A : Addr → Prop} {H H' : Hp} {s n : Nat} {ks : List Str} {mvs : Str → List Nat} (S : Same H H') (h : StoreAt A K H s n ks mvs) : StoreAt A K H' s n ks mvs := by
  obtain ⟨dx, fs, om, rg, o, kvs, rvs, h1, h2, h3, h4, h5, h6, h7, h8, h9, h10⟩ := h.ex
  exact ⟨⟨dx, fs, om, rg, o, kvs, rvs, S _ _ h1, h2, h3, h4, h5, h6, S _ _ h7, S _ _ h8, fun k hk => let ⟨a, b, c⟩ := h9 k hk; ⟨a, b, S _ _ c⟩, fun k hk => let ⟨a, b, c⟩ := h10 k hk; ⟨a, b, c.mono S⟩⟩, h.pm, h.sm⟩
theorem Same.none5 {H H' : Hp} {a : Addr} (s : Same H H') (h : H' a = none) : H a = none := by
  cases e : H a with
  | none => rfl
  | some u =>
    have := s _ _ e
    rw [h] at this
    cases this
/-! Store.__init__ -/
abbrev s_Store___init__ : Stmt := (inClass (top 59) 0)
abbrev N_Store___init__ : List Str := ["self", "size", "moves", "kind", "move"]
abbrev P_Store___init__ : List Str := ["self", "size", "moves"]
theorem sc_Store___init__ : FnScope N_Store___init__ P_Store___init__ (defScope s_Store___init__) := ⟨rfl, rfl, rfl, by decide +kernel, rfl, by decide +kernel, by decide +kernel⟩

def spStoreInit (K : PySem.W.Frag) : Sp := fun vs H Q _ => ∃ (A : Addr → Prop) (x dx n d : Nat) (mvk : List (Key × V)) (ks : List Str) (mvs : Str → List Nat), vs = [.ref x, vN n, .ref d] ∧ (∀ a, H a = none → A a) ∧ H x = some (.ins (He.ga K "Store") dx []) ∧ H d = some (.dK mvk) ∧ mvk.map Prod.fst = ks.map Sum.inr ∧ ks.Nodup ∧ (∀ k ∈ ks, nameOk k) ∧ ks.length ≤ 12 ∧
  (∀ k ∈ ks, ∃ l, valV mvk (.inr k) = some (.ref l) ∧ H l = some (.lst ((mvs k).map vN))) ∧ (∀ k ∈ ks, Pm n (mvs k)) ∧ n ≤ 100 ∧
  ∀ H', (∀ c u, c ≠ x → H c = some u → H' c = some u) → StoreAt A K H' x n ks mvs → Q .non H'
theorem ok_Store___init__ (T : Txt K mg) {f : Addr} (F : FnT K "__init__" "Store.__init__" s_Store___init__ f) (F_is_name : FnR P w K mg base CX0 1 (He.ga K "is_name") spName) (F_rings_of : FnR P w K mg base CX0 1 (He.ga K "rings_of") spRings) : FnR P w K mg base CX0 2 f (spStoreInit K) := by
  refine F.ok sc_Store___init__ (fun _ _ _ _ _ _ us hl => match us, hl with | [_, _, _], _ => rfl) (fun vs H Q E h => ?_) (fun cdv A outer s H vs Q E hr h => ?_)
  · obtain ⟨A0, x, dx, n, d, mvk, ks, mvs, rfl, _⟩ := h
    rfl
  · obtain ⟨A0, x, dx, n, d, mvk, ks, mvs, rfl, hA0, hx, hd, hks, nd, hn, h12, hmv, hpm, hsm, q⟩ := h
    refine ⟨_, (pss_cons (ps_fld (pv 0) (pv 1) rfl)
      (pss_cons (ps_fld (pv 0) pe_dnewK rfl)
      (pss_cons (ps_for PassesOwn.never rfl (pi_list (pe_callB (cr_srtD rfl hr.units65) rfl T.f_sorted boot_sorted (pa_cons (pv 2) pa_nil))) (pg_name (i := 3) sc_Store___init__.nd rfl (Or.inl rfl)) (pss_cons (ps_if (pt_not (pt_val (pe_callR F_is_name (hr.mono (by decide)) rfl T.m_is_name T.k_is_name pass0 (pa_cons (pv 3) pa_nil)))) (pss_one ps_never) pss_nil)
      (pss_cons (ps_if (pt_cmpR (op_neD hr.units) (pe_callB cr_sortedI rfl T.f_sorted boot_sorted (pa_cons (pe_dget (hu_of hr) (pv 2) (pv 3) (fun _ _ => rfl)) pa_nil)) (pe_listRg rfl rfl T.f_list (prg_1 rfl T.f_range (pv 1))) (nomark _)) (pss_one ps_never) pss_nil)
      (pss_one (ps_dput (hu_of hr) (pe_fld (pv 0) rfl) (pv 3) (pe_callTy call_tuple_of rfl T.f_tuple boot_tuple (pa_cons (pe_dget (hu_of hr) (pv 2) (pv 3) (fun _ _ => rfl)) pa_nil)) rfl)))))
      (pss_one (ps_fld (pv 0) (pe_dc rfl sc_Store___init__.nd (pi_items (pe_frz (pe_fld (pv 0) rfl))) (blkOk_by (own := [("kind", 3), ("move", 4)]) (N := N_Store___init__) (sc := defScope s_Store___init__) (by decide +kernel)) (fun _ _ _ _ _ => (pg_tup' (K := K) rfl (n := 2) rfl (pgs_cons (pg_name (i := 3) sc_Store___init__.nd rfl (Or.inl rfl)) (pgs_cons (pg_name (i := 4) sc_Store___init__.nd rfl (Or.inl rfl)) pgs_nil)))) (fun _ _ _ _ _ => pts_nil) (fun _ _ _ _ _ => (pv 3)) (fun _ _ _ _ _ => (pe_callR F_rings_of (hr.mono (by decide)) rfl T.m_rings_of T.k_rings_of pass0 (pa_cons (pv 4) pa_nil)))) rfl))))), ?_⟩
    have line : sizeLine = 16777216 := sizeLine_eq
    -- the size
    refine ⟨_, rfl, _, rfl, x, _, dx, [], rfl, hx, T.cl_Store, T.na_Store_size, by show 0 < 1000; decide, ?_⟩
    have X1 : ∀ c u, c ≠ x → H c = some u → (upd H x (.ins (He.ga K "Store") dx (putF "size" (vN n) []))) c = some u := fun c u nc e => by
      rw [upd_ne nc]
      exact e
    have ex1 : (upd H x (.ins (He.ga K "Store") dx (putF "size" (vN n) []))) x = some (.ins (He.ga K "Store") dx (putF "size" (vN n) [])) := upd_same
    have l1 : (putF "size" (vN n) []).length ≤ 1 := length_putF _ _ _
    show ∀ _, _
    generalize (upd H x (.ins (He.ga K "Store") dx (putF "size" (vN n) []))) = H1 at *
    -- the moves
    refine fun om hom => ?_
    have S2 := Smn (o := .dK []) hom
    have xom : om ≠ x := fun z => by rw [z, ex1] at hom; cases hom
    refine ⟨_, rfl, x, _, dx, _, rfl, S2 _ _ ex1, T.cl_Store, T.na_Store_own_moves, by omega, ?_⟩
    obtain ⟨fs2, efs2⟩ : ∃ fs2, fs2 = putF "own_moves" (.ref om) (putF "size" (vN n) []) := ⟨_, rfl⟩
    rw [← efs2]
    have l2 : fs2.length ≤ 2 := by rw [efs2]; exact Nat.le_trans (length_putF _ _ _) (Nat.succ_le_succ l1)
    have f2o : fs2.lookup ("own_moves" : Str) = some (V.ref om) := by rw [efs2, lkf_same]
    have f2s : fs2.lookup ("size" : Str) = some (vN n) := by rw [efs2, lkf_other _ _ (by decide), lkf_same]
    have f2c : fs2.lookup ("clash" : Str) = none := by
      rw [efs2, lkf_other _ _ (by decide), lkf_other _ _ (by decide)]
      rfl
    have f2k : fs2.lookup ("keeps" : Str) = none := by
      rw [efs2, lkf_other _ _ (by decide), lkf_other _ _ (by decide)]
      rfl
    have X3 : ∀ c u, c ≠ x → H c = some u → (upd (upd H1 om (.dK [])) x (.ins (He.ga K "Store") dx fs2)) c = some u := fun c u nc e => by
      rw [upd_ne nc]
      exact S2 _ _ (X1 c u nc e)
    have ex3 : (upd (upd H1 om (.dK [])) x (.ins (He.ga K "Store") dx fs2)) x = some (.ins (He.ga K "Store") dx fs2) := upd_same
    have eom3 : (upd (upd H1 om (.dK [])) x (.ins (He.ga K "Store") dx fs2)) om = some (.dK []) := by
      rw [upd_ne xom]
      exact upd_same
    have nom : H om = none := by
      cases e : H om with
      | none => rfl
      | some u =>
        have := X1 om u xom e
        rw [hom] at this
        cases this
    generalize (upd (upd H1 om (.dK [])) x (.ins (He.ga K "Store") dx fs2)) = H3 at *
    have ekv : mvk.map (fun p => kV p.1) = ks.map V.str := by
      have := congrArg (List.map kV) hks
      rw [List.map_map, List.map_map] at this
      exact this
    have ndx : d ≠ x := ne_of hd hx (fun z => nomatch z)
    refine ⟨_, rfl, d, mvk, _, rfl, .inl (X3 _ _ ndx hd), ekv ▸ srtIn_str _ ks (by omega), fun p hp => ?_⟩
    obtain ⟨ks', kp, ek⟩ : ∃ ks' : List Str, ks'.Perm ks ∧ srt (ks.map fun x => (V.str x, PyData.str x)) = ks'.map V.str := by
      refine perm_map_str ?_
      have := srt_perm (ks.map fun x => (V.str x, PyData.str x))
      rw [List.map_map] at this
      exact this
    rw [ek]
    have Sp := Smn (o := .lst (ks'.map V.str)) hp
    have lk' := kp.length_eq
    refine ⟨p, rfl, ⟨_, SqL.of upd_same⟩, ?_⟩
    refine for_it (walk_list (K := K) (a := p) (xs := ks'.map V.str)) (fun i σ H' => (∀ c u, c ≠ x → H c = some u → H' c = some u) ∧ H' p = some (.lst (ks'.map V.str)) ∧ H' x = some (.ins (He.ga K "Store") dx fs2) ∧ ∃ v3 kvs, σ = [some (.ref x), some (vN n), some (.ref d), v3, none] ∧ H' om = some (.dK kvs) ∧ kvs.length ≤ i ∧
        (∀ kv ∈ kvs, ∃ k a, k ∈ ks ∧ kv = (Sum.inr k, V.ref a) ∧ H' a = some (.tup ((mvs k).map vN))) ∧ ∀ k ∈ ks'.take i, ∃ v, valV kvs (.inr k) = some v)
      ⟨fun c u nc e => Sp _ _ (X3 c u nc e), upd_same, Sp _ _ ex3, none, [], rfl, Sp _ _ eom3, Nat.le_refl _, (fun kv h => by cases h), fun k h => by cases h⟩ (fun i σ H' _ p => SqL.of p.2.1) ?_ ?_
    · rintro i y σ H40 H4 hi ⟨X4, ep4, ex4, v3, kvs, rfl, eom4, kl, hkv, hkt⟩ y'
      obtain ⟨k, hk, rfl, rfl⟩ := yat_map y'
      have kk : k ∈ ks := kp.mem_iff.mp (List.mem_of_getElem? hk)
      obtain ⟨l, hvl, hl⟩ := hmv k kk
      have P' := hpm k kk
      have nlx : l ≠ x := ne_of hl hx (fun z => nomatch z)
      have hik : i < ks'.length := by simpa using hi
      refine ⟨_, rfl, k, rfl, hn k kk, fun H5 S5 => ⟨true, rfl, ite_f rfl ?_⟩⟩
      have emv : (mvs k).map vN = ((mvs k).map fun x => ((x : Nat) : Int)).map V.int := by rw [List.map_map]; rfl
      refine ⟨_, rfl, _, rfl, d, .ref l, rfl, hvl ▸ DGet.k (k := Sum.inr k) (S5 _ _ (X4 _ _ ndx hd)), l, (mvs k).map (fun x => ((x : Nat) : Int)), rfl, emv ▸ SqL.of (S5 _ _ (X4 _ _ nlx hl)), fun ns' p2 perm sorted hp2 => ?_⟩
      have ens := sorted_range P' perm sorted
      have Sp2 := S5.trans (Smn (o := .lst (ns'.map V.int)) hp2)
      have ep2 : (upd H5 p2 (.lst (ns'.map V.int))) p2 = some (.lst (ns'.map V.int)) := upd_same
      generalize (upd H5 p2 (.lst (ns'.map V.int))) = H6 at *
      refine ⟨_, rfl, ((n : Nat) : Int), rfl, RgOk.of_le (by omega) (by omega) (by omega) (by omega), fun p3 hp3 => ?_⟩
      have erg : rgV 0 ((n : Nat) : Int) = ns'.map V.int := by
        rw [ens]
        unfold rgV
        rw [List.map_map, show (((n : Nat) : Int) - 0).toNat = n by omega]
        refine List.map_congr_left fun a _ => ?_
        show V.int (0 + _) = V.int _
        rw [Int.zero_add]
      rw [erg]
      have S7 := Sp2.trans (Smn (o := .lst (ns'.map V.int)) hp3)
      have lay : ∀ z ∈ ns'.map PyData.int, z.canLay0 = true ∧ z.depth ≤ 8 := fun z hz => by
        obtain ⟨i, _, rfl⟩ := List.mem_map.mp hz
        exact lay_int i
      refine ⟨.list (ns'.map PyData.int), .list (ns'.map PyData.int), .lst (SqL.of (Smn (o := .lst (ns'.map V.int)) hp3 _ _ ep2)) (dpAll_int _), .lst (SqL.of upd_same) (dpAll_int _), (shaped_of _ lay).2, (shaped_of _ lay).2, ?_⟩
      have eqd : PyData.eqv (.list (ns'.map PyData.int)) (.list (ns'.map PyData.int)) = true := by
        have := eqvAll_map PyData.int eqv_int ns' ns'
        unfold PyData.eqv
        rw [this]
        exact decide_eq_true rfl
      rw [eqd]
      refine ⟨_, rfl, ite_f rfl ?_⟩
      generalize (upd H6 p3 (.lst (ns'.map V.int))) = H7 at *
      refine ⟨_, rfl, _, rfl, d, .ref l, rfl, hvl ▸ DGet.k (k := Sum.inr k) (S7 _ _ (X4 _ _ ndx hd)), l, _, rfl, .inl ⟨SqL.of (S7 _ _ (X4 _ _ nlx hl)), fun a ha => ?_⟩⟩
      have S8 := S7.trans (Smn (o := .tup ((mvs k).map vN)) ha)
      have ea : (upd H7 a (.tup ((mvs k).map vN))) a = some (.tup ((mvs k).map vN)) := upd_same
      generalize (upd H7 a (.tup ((mvs k).map vN))) = H8 at *
      have eom8 := S8 _ _ eom4
      refine ⟨_, rfl, x, _, dx, fs2, _, rfl, S8 _ _ ex4, T.cl_Store, T.na_Store_own_moves, f2o, _, rfl, om, _, rfl, DPut.k (k := Sum.inr k) eom8 (by omega), ?_⟩
      have td := Tup_dK (u := .dK (putK kvs (Sum.inr k) (.ref a))) eom8
      have npom : p ≠ om := ne_of ep4 eom4 (fun z => nomatch z)
      refine ⟨fun c u nc e => ?_, by rw [upd_ne npom]; exact S8 _ _ ep4, by rw [upd_ne xom.symm]; exact S8 _ _ ex4, _, putK kvs (Sum.inr k) (.ref a), rfl, upd_same, ?_, fun kv hkv2 => ?_, fun k' hk2 => ?_⟩
      · rw [upd_ne (ne_of_none e nom)]
        exact S8 _ _ (X4 c u nc e)
      · have := length_putK kvs (Sum.inr k) (.ref a)
        omega
      · rcases mem_putK hkv2 with h | h
        · obtain ⟨k', a', h1, h2, h3⟩ := hkv kv h
          exact ⟨k', a', h1, h2, td _ _ (S8 _ _ h3)⟩
        · exact ⟨k, a, kk, h, td _ _ ea⟩
      · rw [valV_put]
        by_cases c : (Sum.inr k' : Key) = Sum.inr k
        · rw [if_pos c]
          exact ⟨_, rfl⟩
        · rw [if_neg c]
          rw [take_snoc hk] at hk2
          rcases List.mem_append.mp hk2 with h | h
          · exact hkt k' h
          · exact absurd (by rw [List.mem_singleton.mp h]) c
    · rintro σ H4 ⟨X4, ep4, ex4, v3, kvs, rfl, eom4, kl, hkv, hkt⟩
      rw [List.length_map, List.take_length] at hkt
      rw [List.length_map] at kl
      refine ⟨_, rfl, x, _, dx, fs2, _, rfl, ex4, T.cl_Store, T.na_Store_own_moves, f2o, om, kvs, rfl, eom4, fun o => ⟨om, o, kvs, rfl, upd_same, fun D hD => ?_⟩⟩
      have td := Tup_dK (u := .frz o (.dK kvs)) eom4
      have X5 : ∀ c u, c ≠ x → H c = some u → (upd H4 om (.frz o (.dK kvs))) c = some u := fun c u nc e => by
        rw [upd_ne (ne_of_none e nom)]
        exact X4 c u nc e
      have ex5 : (upd H4 om (.frz o (.dK kvs))) x = some (.ins (He.ga K "Store") dx fs2) := by
        rw [upd_ne xom.symm]
        exact ex4
      have eom5 : (upd H4 om (.frz o (.dK kvs))) om = some (.frz o (.dK kvs)) := upd_same
      have hkv5 : ∀ kv ∈ kvs, ∃ k a, k ∈ ks ∧ kv = (Sum.inr k, V.ref a) ∧ (upd H4 om (.frz o (.dK kvs))) a = some (.tup ((mvs k).map vN)) := fun kv h => by
        obtain ⟨k', a', h1, h2, h3⟩ := hkv kv h
        exact ⟨k', a', h1, h2, td _ _ h3⟩
      generalize (upd H4 om (.frz o (.dK kvs))) = H5 at *
      refine dc_it (walk_items (d := om) (o := o) (kvs := kvs)) (fun i H' => Same H5 H' ∧ ∃ rv, H' D = some (.dK rv) ∧ rv.length ≤ i ∧ ∀ (j : Nat) kv, j < i → kvs[j]? = some kv → ∃ a, valV rv kv.1 = some (.ref a) ∧ ∀ k, kv.1 = .inr k → RingsAt A0 H' a (app (mvs k)) n)
        ⟨Smn hD, [], upd_same, Nat.le_refl _, fun j kv h => by omega⟩ (fun i H' _ p => p.1 _ _ eom5) ?_ ?_
      · rintro i y H6 H7 hi ⟨S6, rv, eD, rl, hrv⟩ ⟨b, x1, x2, rfl, hb, rfl, e1, e2⟩
        obtain ⟨kv, hkv'⟩ : ∃ kv, kvs[i]? = some kv := ⟨_, List.getElem?_eq_getElem hi⟩
        obtain ⟨k, a, kk, rfl, ea⟩ := hkv5 kv (List.mem_of_getElem? hkv')
        have e1' : kvs[i]?.map (fun kv => kV kv.1) = some x1 := e1
        have e2' : kvs[i]?.map Prod.snd = some x2 := e2
        rw [hkv'] at e1' e2'
        have ex1' : x1 = .str k := (Option.some.inj e1').symm
        have ex2' : x2 = .ref a := (Option.some.inj e2').symm
        subst ex1' ex2'
        have Sb := Smn (o := .tup [.str k, .ref a]) hb
        refine g2 (SqT.of upd_same) ⟨rfl, ?_⟩
        refine ⟨_, rfl, _, rfl, A0, a, mvs k, n, rfl, fun c hc => hA0 c ?_, Sb _ _ (S6 _ _ ea), hpm k kk, by omega, fun H8 g S8 hg => ?_⟩
        · have hc5 : H5 c = none := Same.none5 (S6.trans Sb) hc
          have ncx : c ≠ x := fun z => by rw [z, ex5] at hc5; cases hc5
          cases e : H c with
          | none => rfl
          | some u =>
            have := X5 c u ncx e
            rw [hc5] at this
            cases this
        have S68 := S6.trans (Sb.trans S8)
        have eD8 := (Sb.trans S8) _ _ eD
        refine ⟨rv, Sum.inr k, rfl, eD8, by omega, Sup S68 hD, putK rv (Sum.inr k) (.ref g), upd_same, ?_, fun j kv hj hjv => ?_⟩
        · have := length_putK rv (Sum.inr k) (.ref g)
          omega
        · have SX : SameX D H8 (upd H8 D (.dK (putK rv (Sum.inr k) (.ref g)))) := SameX.upd
          have rmono : ∀ {H' : Hp} {g' : Addr} {p : Nat → Nat}, RingsAt A0 H8 g' p n → RingsAt A0 (upd H8 D (.dK (putK rv (Sum.inr k) (.ref g)))) g' p n := fun {_ g' p} ⟨items, r1, r2, r3⟩ => by
            have ngD : g' ≠ D := ne_of r1 eD8 (fun z => nomatch z)
            refine ⟨items, SX _ _ ngD r1, r2, fun s v hv => ?_⟩
            obtain ⟨b', r', ring, pl, t1, t2, t3, t4, t5, t6⟩ := r3 s v hv
            exact ⟨b', r', ring, pl, t1, t2, t3, SX _ _ (ne_of t4 eD8 (fun z => nomatch z)) t4, SX _ _ (ne_of t5 eD8 (fun z => nomatch z)) t5, t6⟩
          rw [valV_put]
          by_cases c : kv.1 = Sum.inr k
          · rw [if_pos c]
            refine ⟨g, rfl, fun k' hk' => ?_⟩
            have : k' = k := Sum.inr.inj (hk'.symm.trans c)
            rw [this]
            exact rmono (H' := H8) hg
          · rw [if_neg c]
            by_cases cj : j = i
            · rw [cj, hkv'] at hjv
              rw [← Option.some.inj hjv] at c
              exact absurd rfl c
            · obtain ⟨a', h1, h2⟩ := hrv j kv (by omega) hjv
              exact ⟨a', h1, fun k' hk' => rmono (H' := H8) ((h2 k' hk').mono (Sb.trans S8))⟩
      · rintro H6 ⟨S6, rv, eD, rl, hrv⟩
        have ex6 := S6 _ _ ex5
        refine ⟨_, rfl, x, _, dx, fs2, rfl, ex6, T.cl_Store, T.na_Store_rings, by omega, ?_⟩
        have SX : SameX x H6 (upd H6 x (.ins (He.ga K "Store") dx (putF "rings" (.ref D) fs2))) := SameX.upd
        have tx : TupS H6 (upd H6 x (.ins (He.ga K "Store") dx (putF "rings" (.ref D) fs2))) := Same.ins ex6 (fun c u _ e => e) (gs' := [])
        have rmono : ∀ {g' : Addr} {p : Nat → Nat}, RingsAt A0 H6 g' p n → RingsAt A0 (upd H6 x (.ins (He.ga K "Store") dx (putF "rings" (.ref D) fs2))) g' p n := fun {g' p} ⟨items, r1, r2, r3⟩ => by
          refine ⟨items, SX _ _ (ne_of r1 ex6 (fun z => nomatch z)) r1, r2, fun s v hv => ?_⟩
          obtain ⟨b', r', ring, pl, t1, t2, t3, t4, t5, t6⟩ := r3 s v hv
          exact ⟨b', r', ring, pl, t1, t2, t3, SX _ _ (ne_of t4 ex6 (fun z => nomatch z)) t4, SX _ _ (ne_of t5 ex6 (fun z => nomatch z)) t5, t6⟩
        have eom6 := S6 _ _ eom5
        refine q _ (fun c u nc e => SX _ _ nc (S6 _ _ (X5 c u nc e))) ⟨⟨dx, _, om, D, o, kvs, rv, upd_same, ?_, ?_, ?_, ?_, ?_, SX _ _ xom eom6, SX _ _ (ne_of eD ex6 (fun z => nomatch z)) eD, fun k hk => ?_, fun k hk => ?_⟩, hpm, hsm⟩
        · show List.lookup _ (putF _ _ _) = _
          rw [lkf_other _ _ (by decide)]
          exact f2s
        · show List.lookup _ (putF _ _ _) = _
          rw [lkf_other _ _ (by decide)]
          exact f2o
        · show List.lookup _ (putF _ _ _) = _
          rw [lkf_same]
        · show List.lookup _ (putF _ _ _) = _
          rw [lkf_other _ _ (by decide)]
          exact f2c
        · show List.lookup _ (putF _ _ _) = _
          rw [lkf_other _ _ (by decide)]
          exact f2k
        · obtain ⟨v, hv⟩ := hkt k (kp.mem_iff.mpr hk)
          obtain ⟨k', a', h1, h2, h3⟩ := hkv5 _ (valV_mem hv)
          injection h2 with h2 h4
          have e5 := Sum.inr.inj h2
          subst e5
          subst h4
          exact ⟨a', hv, tx _ _ (S6 _ _ h3)⟩
        · obtain ⟨v, hv⟩ := hkt k (kp.mem_iff.mpr hk)
          obtain ⟨j, hj⟩ := List.getElem?_of_mem (valV_mem hv)
          obtain ⟨a, h1, h2⟩ := hrv j _ (List.getElem?_eq_some_iff.mp hj).1 hj
          exact ⟨a, h1, rmono (h2 k rfl)⟩
end
end Un

/-! ## D17 -/
set_option Elab.async false
set_option linter.all false
set_option maxRecDepth 100000
set_option maxHeartbeats 4000000
namespace Un
open PySem PySem.Spec PyProof.Rows L2 StX
section
variable {P : Program} {w : World} {K : PySem.W.Frag} {mg : Str → Option Value} {base : Heap}
/-- a row or a version: what a store asks of it -/
def HasSyl (K : PySem.W.Frag) (H : Hp) (a : Addr) (ss : List (Str × Int)) : Prop := ∃ C dx fs p vs, H a = some (.ins C dx fs) ∧ Cls K C ∧ NoAttr K C "syllables" ∧ lk fs "syllables" = some (.ref p) ∧ H p = some (.tup vs) ∧ Syls H vs ss
theorem RowAt.has {H : Hp} {r t : Addr} {Tt : Tb} {ss : List (Str × Int)} (h : RowAt K H r t Tt ss) (T : Txt K mg) : HasSyl K H r ss := by
  obtain ⟨dx, fs, p, vs, h1, h2, h3, h4, h5, _⟩ := h.ex
  exact ⟨_, dx, fs, p, vs, h1, T.cl_Row, T.na_Row_syllables, h3, h4, h5⟩
theorem VerAt.has {H : Hp} {r t : Addr} {Tt : Tb} {ss : List (Str × Int)} (h : VerAt K H r t Tt ss) (T : Txt K mg) : HasSyl K H r ss := by
  obtain ⟨dx, fs, p, vs, h1, h2, h3, h4, h5⟩ := h.ex
  exact ⟨_, dx, fs, p, vs, h1, T.cl_Version, T.na_Version_syllables, h3, h4, h5⟩
theorem HasSyl.mono {H H' : Hp} {a : Addr} {ss : List (Str × Int)} (S : Same H H') (h : HasSyl K H a ss) : HasSyl K H' a ss := by
  obtain ⟨C, dx, fs, p, vs, h1, h2, h3, h4, h5, h6⟩ := h
  exact ⟨C, dx, fs, p, vs, S _ _ h1, h2, h3, h4, S _ _ h5, Syls.mono (Smt S) h6⟩
/-- what a kind's count does to a place -/
def stp (n : Nat) (mvs : Str → List Nat) (k : Str) (c : Int) (s : Nat) : Nat := pw n (app (mvs k)) c s
theorem stp_lt {n : Nat} {mvs : Str → List Nat} {ks : List Str} (pm : ∀ k ∈ ks, Pm n (mvs k)) : ∀ (ss : List (Str × Int)), (∀ z ∈ ss, z.1 ∈ ks) → ∀ s, s < n → runL (stp n mvs) ss s < n
  | [], _, s, h => h
  | z :: r, hz, s, h => stp_lt pm r (fun y hy => hz y (List.mem_cons_of_mem _ hy)) _ (pw_lt (pm z.1 (hz z (List.mem_cons_self ..))) h z.2)
theorem runL_snoc {κ β : Type} (act : κ → Int → β → β) (l : List (κ × Int)) (z : κ × Int) (x : β) : runL act (l ++ [z]) x = act z.1 z.2 (runL act l x) := by
  rw [runL_app]
  rfl
/-! Store.__call__ -/
abbrev s_Store___call__ : Stmt := (inClass (top 59) 2)
abbrev N_Store___call__ : List Str := ["self", "row", "standing", "here", "kind", "count", "ring", "place"]
abbrev P_Store___call__ : List Str := ["self", "row", "standing"]
theorem sc_Store___call__ : FnScope N_Store___call__ P_Store___call__ (defScope s_Store___call__) := ⟨rfl, rfl, rfl, by decide +kernel, rfl, by decide +kernel, by decide +kernel⟩

def spCall (K : PySem.W.Frag) : Sp := fun vs H Q _ => ∃ (A : Addr → Prop) (s r st n : Nat) (ks : List Str) (mvs : Str → List Nat) (ss : List (Str × Int)), vs = [.ref s, .ref r, vN st] ∧ StoreAt A K H s n ks mvs ∧ HasSyl K H r ss ∧ (∀ z ∈ ss, z.1 ∈ ks) ∧ st < n ∧ Q (vN (runL (stp n mvs) ss st)) H
theorem ok_Store___call__ (T : Txt K mg) {f : Addr} (F : FnT K "__call__" "Store.__call__" s_Store___call__ f) : FnR P w K mg base CX0 1 f (spCall K) := by
  refine F.ok sc_Store___call__ (fun _ _ _ _ _ _ us hl => match us, hl with | [_, _, _], _ => rfl) (fun vs H Q E h => ?_) (fun cdv A outer s H vs Q E hr h => ?_)
  · obtain ⟨A0, s, r, st, n, ks, mvs, ss, rfl, _⟩ := h
    rfl
  · obtain ⟨A0, s, r, st, n, ks, mvs, ss, rfl, hS, hR, hk, hst, q⟩ := h
    refine ⟨_, (pss_cons (ps_set (i := 3) sc_Store___call__.nd rfl (Or.inl rfl) (pv 2))
      (pss_cons (ps_for PassesOwn.never rfl (pi_tup (pe_fld (pv 1) rfl)) (pg_tup (n := 2) rfl (pgs_cons (pg_name (i := 4) sc_Store___call__.nd rfl (Or.inl rfl)) (pgs_cons (pg_name (i := 5) sc_Store___call__.nd rfl (Or.inl rfl)) pgs_nil))) (pss_one (ps_if (pt_cmp (pc_din (hu_of hr) (pv 4) (pe_fld (pv 0) rfl))) (pss_cons (ps_asg (pe_ix ix_list (pe_dget (hu_of hr) (pe_fld (pv 0) rfl) (pv 4) (fun _ _ => rfl)) (pv 3) (fun _ _ => rfl)) (pg_tup (n := 2) rfl (pgs_cons (pg_name (i := 6) sc_Store___call__.nd rfl (Or.inl rfl)) (pgs_cons (pg_name (i := 7) sc_Store___call__.nd rfl (Or.inl rfl)) pgs_nil))))
      (pss_one (ps_set (i := 3) sc_Store___call__.nd rfl (Or.inl rfl) (pe_ix ix_list (pv 6) (pe_op op_mod (pe_op op_add (pv 7) (pv 5)) (pe_callB call_len rfl T.f_len boot_len (pa_cons (pv 6) pa_nil))) (fun _ _ => rfl))))) pss_nil)))
      (pss_one (ps_ret (pv 3))))), ?_⟩
    obtain ⟨dx, fs, om, rg, o, kvs, rvs, h1, h2, h3, h4, h5, h6, h7, h8, h9, h10⟩ := hS.ex
    obtain ⟨C, rdx, rfs, p, vs, r1, r2, r3, r4, r5, r6⟩ := hR
    have exs := Pr.len r6
    refine ⟨_, rfl, ?_⟩
    refine ⟨_, rfl, r, _, rdx, rfs, _, rfl, r1, r2, r3, r4, p, rfl, ⟨_, SqT.of r5⟩, ?_⟩
    refine for_it (walk_tup (K := K) (a := p) (xs := vs)) (fun i σ H' => H' = H ∧ ∃ v4 v5 v6 v7, σ = [some (.ref s), some (.ref r), some (vN st), some (vN (runL (stp n mvs) (ss.take i) st)), v4, v5, v6, v7])
      ⟨rfl, none, none, none, none, rfl⟩ (fun i σ H' _ p => p.1 ▸ SqT.of r5) ?_ ?_
    · rintro i y σ H1 H2 hi ⟨rfl, v4, v5, v6, v7, rfl⟩ y'
      obtain ⟨z, hz, ⟨qb, rfl, hqb⟩, rfl⟩ := yat_pair r6 y'
      have zk := hk z (List.mem_of_getElem? hz)
      refine g2 (SqT.of hqb) ?_
      obtain ⟨g, hg, items, g1, g2, g3⟩ := h10 z.1 zk
      refine ⟨_, rfl, _, rfl, s, _, dx, fs, _, rfl, h1, T.cl_Store, T.na_Store_rings, h4, rg, some (.ref g), rfl, hg ▸ DGet.k (k := Sum.inr z.1) h8, _, rfl, ite_t rfl ?_⟩
      have hlt : runL (stp n mvs) (ss.take i) st < n := stp_lt hS.pm _ (fun y hy => hk y (List.mem_of_mem_take hy)) st hst
      obtain ⟨v, hv⟩ : ∃ v, items[runL (stp n mvs) (ss.take i) st]? = some v := ⟨_, List.getElem?_eq_getElem (by omega)⟩
      obtain ⟨b, rr, ring, pl, rfl, t2, t3, t4, t5, t6, t7, t8⟩ := g3 _ _ hv
      refine ⟨_, rfl, s, _, dx, fs, _, rfl, h1, T.cl_Store, T.na_Store_rings, h4, _, rfl, rg, .ref g, rfl, hg ▸ DGet.k (k := Sum.inr z.1) h8, ?_⟩
      refine ⟨_, rfl, g, items, _, _, rfl, rfl, SqL.of g1, at_of rfl hv, ?_⟩
      refine Un.g2 (SqT.of t4) ?_
      have hpos : (0 : Int) < (ring.length : Nat) := Int.ofNat_lt.mpr t6.pos
      refine ⟨_, rfl, _, rfl, _, rfl, _, _, rfl, rfl, ?_⟩
      refine ⟨_, rfl, _, ring.length, rfl, .inl ⟨_, SqL.of t5, by rw [List.length_map]⟩, _, _, rfl, rfl, hpos, ?_⟩
      have ha := t6.act t8 t7 z.2
      have hvr : (ring.map vN)[((((pl : Nat) : Int) + z.2) % (ring.length : Nat)).toNat]? = some (vN (pw n (app (mvs z.1)) z.2 (runL (stp n mvs) (ss.take i) st))) := by
        rw [List.getElem?_map, ha]
        rfl
      refine ⟨rr, _, _, _, rfl, rfl, SqL.of t5, at_of (by rw [Int.toNat_of_nonneg (Int.emod_nonneg _ (by omega))]) hvr, ?_⟩
      rw [take_snoc hz, runL_snoc]
      exact ⟨rfl, _, _, _, _, rfl⟩
    · rintro σ H1 ⟨rfl, v4, v5, v6, v7, rfl⟩
      rw [exs, List.take_length]
      exact ⟨_, rfl, q⟩
/-! Store.clash -/
abbrev s_Store_clash : Stmt := (inClass (top 59) 3)
abbrev N_Store_clash : List Str := ["self", "table", "one", "other", "mine", "its", "standing"]
abbrev P_Store_clash : List Str := ["self", "table"]
theorem sc_Store_clash : FnScope N_Store_clash P_Store_clash (defScope s_Store_clash) := ⟨rfl, rfl, rfl, by decide +kernel, rfl, by decide +kernel, by decide +kernel⟩

def spClash (K : PySem.W.Frag) : Sp := fun vs H Q _ => ∃ (A : Addr → Prop) (s t n : Nat) (ks : List Str) (mvs : Str → List Nat) (T : Tb), vs = [.ref s, .ref t] ∧ StoreAt A K H s n ks mvs ∧ TabAt K H t T ∧ (∀ k ∈ T.kinds, k ∈ ks) ∧ (∀ p ∈ T.pairs, ∀ x, x < n → app (mvs p.2) (app (mvs p.1) x) = app (mvs p.1) (app (mvs p.2) x)) ∧ Q .non H
theorem ok_Store_clash (T : Txt K mg) {f : Addr} (F : FnT K "clash" "Store.clash" s_Store_clash f) : FnR P w K mg base CX0 1 f (spClash K) := by
  refine F.ok sc_Store_clash (fun _ _ _ _ _ _ us hl => match us, hl with | [_, _], _ => rfl) (fun vs H Q E h => ?_) (fun cdv A outer s H vs Q E hr h => ?_)
  · obtain ⟨A0, s, t, n, ks, mvs, Tt, rfl, _⟩ := h
    rfl
  · obtain ⟨A0, s, t, n, ks, mvs, Tt, rfl, hS, hT, hk, hc, q⟩ := h
    refine ⟨_, (pss_cons (ps_for PassesOwn.never rfl (pi_tup (pe_fld (pv 1) rfl)) (pg_tup (n := 2) rfl (pgs_cons (pg_name (i := 2) sc_Store_clash.nd rfl (Or.inl rfl)) (pgs_cons (pg_name (i := 3) sc_Store_clash.nd rfl (Or.inl rfl)) pgs_nil))) (pss_one (ps_if (PW.pt (pw_and (pt_cmp (pc_din (hu_of hr) (pv 2) (pe_fld (pv 0) rfl))) (pw_and1 (pt_cmp (pc_din (hu_of hr) (pv 3) (pe_fld (pv 0) rfl)))))) (pss_cons (ps_par (i := 4) (j := 5) rfl sc_Store_clash.nd rfl rfl (by decide) rfl rfl (pa_cons (pe_dget (hu_of hr) (pe_fld (pv 0) rfl) (pv 2) (fun _ _ => rfl)) (pa_cons (pe_dget (hu_of hr) (pe_fld (pv 0) rfl) (pv 3) (fun _ _ => rfl)) pa_nil)) (by rfl))
      (pss_one (ps_for PassesOwn.never rfl (pi_range1 rfl T.f_range (pa_cons (pe_fld (pv 0) rfl) pa_nil)) (pg_name (i := 6) sc_Store_clash.nd rfl (Or.inl rfl)) (pss_one (ps_if (pt_cmpR op_ne (pe_ix ix_tup (pv 5) (pe_ix ix_tup (pv 4) (pv 6) (fun _ _ => rfl)) (fun _ _ => rfl)) (pe_ix ix_tup (pv 4) (pe_ix ix_tup (pv 5) (pv 6) (fun _ _ => rfl)) (fun _ _ => rfl)) (nomark _)) (pss_one (ps_ret (pe_tup (pa_cons (pv 2) (pa_cons (pv 3) (pa_cons (pv 6) pa_nil)))))) pss_nil))))) pss_nil)))
      (pss_one (ps_ret pe_non))), ?_⟩
    obtain ⟨dx, fs, om, rg, o, kvs, rvs, h1, h2, h3, h4, h5, h6, h7, h8, h9, h10⟩ := hS.ex
    obtain ⟨tdx, tfs, tks, ps, ln, tkvs, pvs, t1, t2, t3, t4, t5, t6, t7, _⟩ := hT.ex
    have sm := hS.sm
    refine ⟨_, rfl, t, _, tdx, tfs, _, rfl, t1, T.cl_Table, T.na_Table_pairs, t5, ps, rfl, ⟨_, SqT.of t6⟩, ?_⟩
    refine for_it (walk_tup (K := K) (a := ps) (xs := pvs)) (fun i σ H' => H' = H ∧ ∃ v2 v3 v4 v5 v6, σ = [some (.ref s), some (.ref t), v2, v3, v4, v5, v6])
      ⟨rfl, none, none, none, none, none, rfl⟩ (fun i σ H' _ p => p.1 ▸ SqT.of t6) ?_ ?_
    · rintro i y σ H1 H2 hi ⟨rfl, v2, v3, v4, v5, v6, rfl⟩ y'
      obtain ⟨z, hz, ⟨qb, rfl, hqb⟩, rfl⟩ := yat_pair t7 y'
      have zm := List.mem_of_getElem? hz
      obtain ⟨z1, z2⟩ := hT.ok.sub z zm
      obtain ⟨a1, ha1, e1⟩ := h9 z.1 (hk _ z1)
      obtain ⟨a2, ha2, e2⟩ := h9 z.2 (hk _ z2)
      have P1 := hS.pm z.1 (hk _ z1)
      have P2 := hS.pm z.2 (hk _ z2)
      have L1 := P1.len
      have L2 := P2.len
      refine g2 (SqT.of hqb) ?_
      refine ⟨_, rfl, _, rfl, s, _, dx, fs, _, rfl, h1, T.cl_Store, T.na_Store_own_moves, h3, om, some (.ref a1), rfl, ha1 ▸ dget_frz (k := Sum.inr z.1) h7, _, rfl, ite_t rfl ?_⟩
      refine ⟨_, rfl, _, rfl, s, _, dx, fs, _, rfl, h1, T.cl_Store, T.na_Store_own_moves, h3, om, some (.ref a2), rfl, ha2 ▸ dget_frz (k := Sum.inr z.2) h7, _, rfl, ite_t rfl ?_⟩
      refine ⟨_, rfl, s, _, dx, fs, _, rfl, h1, T.cl_Store, T.na_Store_own_moves, h3, _, rfl, om, .ref a1, rfl, ha1 ▸ dget_frz (k := Sum.inr z.1) h7, ?_⟩
      refine ⟨_, rfl, s, _, dx, fs, _, rfl, h1, T.cl_Store, T.na_Store_own_moves, h3, _, rfl, om, .ref a2, rfl, ha2 ▸ dget_frz (k := Sum.inr z.2) h7, ?_⟩
      refine ⟨_, _, rfl, ?_⟩
      refine ⟨_, rfl, s, _, dx, fs, _, rfl, h1, T.cl_Store, T.na_Store_size, h2, ((n : Nat) : Int), rfl, by omega, by omega, ?_⟩
      refine for_it (walk_range (lo := 0) (n := ((n : Nat) : Int).toNat)) (fun j σ H' => H' = H2 ∧ ∃ v6, σ = [some (.ref s), some (.ref t), some (.str z.1), some (.str z.2), some (.ref a1), some (.ref a2), v6])
        ⟨rfl, _, rfl⟩ (fun _ _ _ _ _ => trivial) ?_ ?_
      · rintro j y σ H30 H3 hj ⟨rfl, v6', rfl⟩ y2
        obtain ⟨rfl, rfl⟩ := yrng y2
        have hj' : j < n := by omega
        have b1 := P1.lt j hj'
        have b2 := P2.lt j hj'
        refine ⟨_, rfl, _, rfl, _, rfl, a1, _, _, _, rfl, rfl, SqT.of e1, at_of rfl (map_at (by omega)), a2, _, _, _, rfl, rfl, SqT.of e2, at_of rfl (map_at (by omega)), ?_⟩
        refine ⟨_, rfl, _, rfl, _, rfl, a2, _, _, _, rfl, rfl, SqT.of e2, at_of rfl (map_at (by omega)), a1, _, _, _, rfl, rfl, SqT.of e1, at_of rfl (map_at (by omega)), ?_⟩
        refine ⟨rfl, _, rfl, ite_f ?_ ?_⟩
        · rw [hc z zm j hj']
          simp
        · exact ⟨rfl, _, rfl⟩
      · rintro σ H3 ⟨rfl, v6', rfl⟩
        exact ⟨rfl, _, _, _, _, _, rfl⟩
    · rintro σ H1 ⟨rfl, v2, v3, v4, v5, v6, rfl⟩
      exact q
/-! Store.keeps -/
abbrev s_Store_keeps : Stmt := (inClass (top 59) 4)
abbrev N_Store_keeps : List Str := ["self", "table"]
abbrev P_Store_keeps : List Str := ["self", "table"]
theorem sc_Store_keeps : FnScope N_Store_keeps P_Store_keeps (defScope s_Store_keeps) := ⟨rfl, rfl, rfl, by decide +kernel, rfl, by decide +kernel, by decide +kernel⟩

def spKeeps (K : PySem.W.Frag) : Sp := fun vs H Q _ => ∃ (A : Addr → Prop) (s t n : Nat) (ks : List Str) (mvs : Str → List Nat) (T : Tb), vs = [.ref s, .ref t] ∧ StoreAt A K H s n ks mvs ∧ TabAt K H t T ∧ (∀ k ∈ T.kinds, k ∈ ks) ∧ (∀ p ∈ T.pairs, ∀ x, x < n → app (mvs p.2) (app (mvs p.1) x) = app (mvs p.1) (app (mvs p.2) x)) ∧ Q (.bl true) H
theorem ok_Store_keeps (T : Txt K mg) {f : Addr} (F : FnT K "keeps" "Store.keeps" s_Store_keeps f) (F_Store_clash : FnR P w K mg base CX0 1 (He.ma K (He.ga K "Store") "clash") (spClash K)) : FnR P w K mg base CX0 2 f (spKeeps K) := by
  refine F.ok sc_Store_keeps (fun _ _ _ _ _ _ us hl => match us, hl with | [_, _], _ => rfl) (fun vs H Q E h => ?_) (fun cdv A outer s H vs Q E hr h => ?_)
  · obtain ⟨A0, s, t, n, ks, mvs, Tt, rfl, _⟩ := h
    rfl
  · obtain ⟨A0, s, t, n, ks, mvs, Tt, rfl, hS, hT, hk, hc, q⟩ := h
    refine ⟨_, (pss_one (ps_ret (pe_cmpR op_isN (pe_methR (pv 0) T.cl_Store T.me_Store_clash F_Store_clash (hr.mono (by decide)) pass0 (pa_cons (pv 1) pa_nil)) pe_non (nomark _)))), ?_⟩
    obtain ⟨dx, fs, om, rg, o, kvs, rvs, h1, h2, h3, h4, h5, h6, h7⟩ := hS.ex
    exact ⟨_, rfl, s, dx, fs, rfl, h1, h5, _, rfl, A0, s, t, n, ks, mvs, Tt, rfl, hS, hT, hk, hc, rfl, q⟩
end
end Un

/-! ## B12 -/
set_option Elab.async false
set_option linter.all false
set_option maxRecDepth 100000
set_option maxHeartbeats 4000000
namespace Un
open PySem PySem.Spec PyProof.Rows L2 StX
/-- o(..), o an instance with a dict -/
def tCallOI (C : Addr) (sp : Sp) (E : XK) (tf : TE) (t : TA) : TE := fun σ H Q => tf σ H fun y H1 => ∃ a, y = V.ref a ∧ t σ H1 fun vs H2 => (∃ dx fs, H2 a = some (.ins C dx fs)) ∧ sp (V.ref a :: vs) H2 Q E
section
variable {X : Cx} {CX : CXT} {k : Nat} {C g : Addr} {sp : Sp} {E : XK} {e fe : Expr} {es : List Expr} {tf te : TE} {t : TA} {pos apos : Pos}
theorem pe_callOI (hf : PE X fe tf) (c : CallO X.K C g) (F : FnR X.prog X.w X.K X.mg X.base CX k g sp) (hr : Room k X.A) (hx : Passes CX X E) (ha : PA X (e :: es) t)
    (ht : eval (.Call fe (e :: es) [] pos) X.env = (do callWith pos (← eval fe X.env) [] (backTo pos (starEach (e :: es) X.env)) (backToKw pos (keywordEach [] X.env))) := by rfl)
    (he : starEach (e :: es) X.env = (false, eval e X.env) :: starEach es X.env := by rfl) (hpl : (backTo pos (starEach es X.env)).any (·.1) = false := by rfl) : PE X (.Call fe (e :: es) [] pos) (tCallOI C sp E tf t) := by
  constructor
  intro pins s σ H Q I h
  apply Call_ (thn (hf.run pins s σ H _ I h) ?_) ht
  rintro u s1 ⟨_, H1, I1, ry, a, rfl, q⟩
  cases (show u = Value.ref a from ry)
  apply callO_with (thn (ha.run pos pins s1 σ H1 _ I1 q) ?_) he hpl
  rintro us s2 ⟨vs, H2, I2, r, hi, q2⟩
  have hI : InsC X H2 a C := Or.inr hi
  obtain ⟨ox, od, J, hd⟩ := insC_at I2 hI
  exact ⟨⟨C, ox, od, J, hd⟩, run_callO c F hr hx I2 hI r q2⟩
theorem mt_indexD' {K : PySem.W.Frag} (hK : X.K = K) (hu : X.A.units + 65 < cLine) : MtR X "list.index" (rIndexD K) := by
  subst hK
  exact mt_indexD hu
theorem tbmK {K : PySem.W.Frag} (hK : X.K = K) {T : String} {r : V → List V → Hp → VK → Prop} (h : PE X e (tBM X.K T r te t)) : PE X e (tBM K T r te t) := by
  rw [← hK]
  exact h
end
/-- a list comprehension over a Walk, told by what stands after each turn -/
theorem lc_it {J : It} {n : Nat} {G : Hp → Prop} {Y : Nat → Hp → V → Hp → Prop} (w : Walk J n G Y) {g : TG} {tt : TT} {te : TE} {vs : List Nat} {σ : L2.St} {H1 : Hp} {D : Addr} {Qd : Hp → Prop} (Pv : Nat → Hp → Prop) (h0 : Pv 0 (upd H1 D (.lst []))) (hG : ∀ i H, i ≤ n → Pv i H → G H)
    (hs : ∀ i x H H', i < n → Pv i H → Y i H x H' → g x (wipe σ vs) H' fun σ2 H2 => wipe σ2 vs = wipe σ vs ∧ tt σ2 H2 fun b H3 =>
      if b = true then te σ2 H3 fun y H4 => ∃ acc, H4 D = some (.lst acc) ∧ acc.length < sizeLine ∧ Pv (i + 1) (upd H4 D (.lst (acc ++ [y]))) else Pv (i + 1) H3) (hd : ∀ H, Pv n H → Qd H) :
    ∃ W : Nat → Nat → Hp → Prop, (∃ m, W 0 m (upd H1 D (.lst []))) ∧ ∀ i m H, W i m H →
      (J.stop i H ∧ Qd H) ∨ (J.go i H ∧ ∃ Nx : Hp → Prop, (∀ H', Nx H' → ∃ m', m' < m ∧ W (i + 1) m' H') ∧ ∀ x H', J.yld i H x H' → g x (wipe σ vs) H' fun σ2 H2 => wipe σ2 vs = wipe σ vs ∧ tt σ2 H2 fun b H3 =>
        if b = true then te σ2 H3 fun y H4 => ∃ acc, H4 D = some (.lst acc) ∧ acc.length < sizeLine ∧ Nx (upd H4 D (.lst (acc ++ [y]))) else Nx H3) := by
  refine ⟨fun i m H => m = n - i ∧ i ≤ n ∧ Pv i H, ⟨n, by simp, Nat.zero_le _, h0⟩, ?_⟩
  rintro i m H ⟨rfl, hi, p⟩
  have q := hG i H hi p
  by_cases hlt : i < n
  · exact .inr ⟨w.goes i H hlt q, Pv (i + 1), fun H' p' => ⟨n - (i + 1), by omega, rfl, hlt, p'⟩, fun x H' y => hs i x H H' hlt p (w.yields i H x H' hlt q y)⟩
  · have e : i = n := by omega
    subst e
    exact .inl ⟨w.stops H q, hd H p⟩
theorem cutV_map {α : Type} (f : α → V) (zs : List α) (lo hi : Option Int) : ∃ ws : List α, cutV (zs.map f) lo hi = ws.map f ∧ ws.length ≤ zs.length ∧ ∀ x ∈ ws, x ∈ zs := by
  unfold cutV
  rw [← List.map_drop, ← List.map_take]
  exact ⟨_, rfl, by rw [List.length_take, List.length_drop]; omega, fun x hx => List.mem_of_mem_drop (List.mem_of_mem_take hx)⟩
/-! the deal -/
def SameD (d l : Addr) (H H' : Hp) : Prop := ∀ c u, c ≠ d → c ≠ l → H c = some u → H' c = some u
theorem Same.d {d l : Addr} {H H' : Hp} (s : Same H H') : SameD d l H H' := fun c u _ _ e => s c u e
theorem SameD.trans {d l : Addr} {H H1 H2 : Hp} (a : SameD d l H H1) (b : SameD d l H1 H2) : SameD d l H H2 := fun c u n m e => b c u n m (a c u n m e)
/-- a new thing written anew -/
theorem SameD.sup {d l p : Addr} {H H' : Hp} {o : HO} (s : SameD d l H H') (h : H p = none) : SameD d l H (upd H' p o) := fun c u n m e => by rw [upd_ne (ne_of_none e h)]; exact s c u n m e
structure DealAt (H : Hp) (d l : Addr) : Prop where
  ne : d ≠ l
  ex : ∃ (cells : List Int) (m : Int), H d = some (.lst [.ref l, .int m]) ∧ H l = some (.lst (cells.map V.int)) ∧ cells.length ≤ 63 ∧ 0 ≤ m ∧ m < 2147483647
theorem DealAt.mono {H H' : Hp} {d l : Addr} (s : Same H H') (h : DealAt H d l) : DealAt H' d l := by
  obtain ⟨cells, m, h1, h2, h3⟩ := h.ex
  exact ⟨h.ne, cells, m, s _ _ h1, s _ _ h2, h3⟩
theorem SameD.tup {d l : Addr} {H H' : Hp} (D : DealAt H d l) (s : SameD d l H H') : TupS H H' := fun b xs e => by
  obtain ⟨cells, m, h1, h2, _⟩ := D.ex
  exact s _ _ (ne_of e h1 (fun z => nomatch z)) (ne_of e h2 (fun z => nomatch z)) e
end Un

/-! ## D18 -/
set_option Elab.async false
set_option linter.all false
set_option maxRecDepth 100000
set_option maxHeartbeats 4000000
namespace Un
open PySem PySem.Spec PyProof.Rows L2 StX
section
variable {P : Program} {w : World} {K : PySem.W.Frag} {mg : Str → Option Value} {base : Heap}
/-! _law_deal -/
abbrev s__law_deal : Stmt := (top 61)
abbrev N__law_deal : List Str := ["_law_script", "_law_base", "_law_cells_here", "_law_mixed_here", "_law_cell"]
abbrev P__law_deal : List Str := ["_law_script", "_law_base"]
theorem sc__law_deal : FnScope N__law_deal P__law_deal (defScope s__law_deal) := ⟨rfl, rfl, rfl, by decide +kernel, rfl, by decide +kernel, by decide +kernel⟩

def spDeal (K : PySem.W.Frag) : Sp := fun vs H Q _ => ∃ (a : Addr) (zs : List Int) (b : Nat), vs = [.ref a, vN b] ∧ SqL K H a (zs.map V.int) ∧ zs.length ≤ 63 ∧ b ≤ 1 ∧ ∀ H' d l, Same H H' → H d = none → H l = none → DealAt H' d l → Q (.ref d) H'
theorem Same.none {H H' : Hp} {a : Addr} (s : Same H H') (h : H' a = none) : H a = none := by
  cases e : H a with
  | none => rfl
  | some u =>
    have := s _ _ e
    rw [h] at this
    cases this
theorem ok__law_deal (T : Txt K mg) {f : Addr} (F : FnT K "_law_deal" "_law_deal" s__law_deal f) : FnR P w K mg base CX0 1 f (spDeal K) := by
  refine F.ok sc__law_deal (fun _ _ _ _ _ _ us hl => match us, hl with | [_, _], _ => rfl) (fun vs H Q E h => ?_) (fun cdv A outer s H vs Q E hr h => ?_)
  · obtain ⟨a, zs, b, rfl, _⟩ := h
    rfl
  · obtain ⟨a, zs, b, rfl, ha, hl, hb, q⟩ := h
    refine ⟨_, (pss_cons (ps_setLc (i := 2) rfl sc__law_deal.nd rfl rfl (sw_true rfl rfl rfl (by decide +kernel)) (pi_list (pe_slice sl_list (pv 0) (po_some (pv 1)) (po_some pe_int))) (blkOk_by (own := [("_law_cell", 4)]) (N := N__law_deal) (sc := defScope s__law_deal) (by decide +kernel)) (fun _ _ _ _ _ => (pg_name (i := 4) sc__law_deal.nd rfl (Or.inl rfl))) (fun _ _ _ _ _ => pts_nil) (fun _ _ _ _ _ => (pe_callB (call_max2 rfl) rfl T.f_max boot_max (pa_cons (pv 4) (pa_cons (pe_op op_sub pe_int (pv 4)) pa_nil)))))
      (pss_cons (ps_set (i := 3) sc__law_deal.nd rfl (Or.inl rfl) (pe_op op_add pe_int (pe_op op_mul pe_int (pv 1))))
      (pss_cons (ps_for PassesOwn.never rfl (pi_list (pv 2)) (pg_name (i := 4) sc__law_deal.nd rfl (Or.inl rfl)) (pss_one (ps_set (i := 3) sc__law_deal.nd rfl (Or.inl rfl) (pe_op op_mod (pe_op op_add (pe_op op_mul (pv 3) pe_int) (pe_op op_mod (pv 4) pe_int)) pe_int))))
      (pss_one (ps_ret (pe_lst (pa_cons (pe_revL (pe_lc rfl sc__law_deal.nd (pi_list (pv 2)) (blkOk_by (own := [("_law_cell", 4)]) (N := N__law_deal) (sc := defScope s__law_deal) (by decide +kernel)) (fun _ _ _ _ _ => (pg_name (i := 4) sc__law_deal.nd rfl (Or.inl rfl))) (fun _ _ _ _ _ => pts_one (pt_cmpR op_ge (pv 4) (pe_op op_pow pe_int pe_int) (nomark _))) (fun _ _ _ _ _ => (pv 4)))) (pa_cons (pv 3) pa_nil)))))))), ?_⟩
    have line : sizeLine = 16777216 := sizeLine_eq
    refine ⟨_, rfl, _, rfl, _, rfl, _, rfl, a, _, rfl, ha, fun p hp => ?_⟩
    obtain ⟨ws, ews, lws, _⟩ := cutV_map V.int zs (some ((b : Nat) : Int)) (some 63)
    rw [ews]
    have S1 := Smn (o := .lst (ws.map V.int)) hp
    have ep : (upd H p (.lst (ws.map V.int))) p = some (.lst (ws.map V.int)) := upd_same
    generalize (upd H p (.lst (ws.map V.int))) = H1 at *
    refine ⟨p, rfl, ⟨_, SqL.of ep⟩, fun D hD => ?_⟩
    refine lcV (walk_list (K := K) (a := p) (xs := ws.map V.int)) ws (by rw [List.length_map]) (fun _ => true) (fun z => V.int (if 0 - z > z then 0 - z else z)) hD (by omega) (fun H' S' => SqL.of (S' _ _ ep)) ?_ ?_
    · rintro j z x2 H12 H13 K4 K3 hz S12 hA y2 k1 k2
      obtain ⟨z', hz', rfl, rfl⟩ := yat_map y2
      have : z' = z := Option.some.inj (hz'.symm.trans hz)
      subst this
      exact ⟨rfl, _, rfl, _, rfl, _, _, rfl, rfl, _, _, rfl, k1 rfl _ (Same.refl _)⟩
    intro H2 S2 eD
    rw [filter_all] at eD
    obtain ⟨cs, ecs, lcs⟩ : ∃ cs : List Int, ws.map (fun z => V.int (if 0 - z > z then 0 - z else z)) = cs.map V.int ∧ cs.length = ws.length := ⟨ws.map fun z => if 0 - z > z then 0 - z else z, by rw [List.map_map]; rfl, by rw [List.length_map]⟩
    rw [ecs] at eD
    have S12 := S1.trans S2
    refine ⟨_, rfl, _, _, rfl, rfl, .inl ⟨by omega, by omega⟩, _, _, rfl, rfl, ?_⟩
    refine ⟨_, rfl, D, rfl, ⟨_, SqL.of eD⟩, ?_⟩
    refine for_it (walk_list (K := K) (a := D) (xs := cs.map V.int)) (fun i σ H' => H' = H2 ∧ ∃ (m : Int) (v4 : Option V), σ = [some (.ref a), some (vN b), some (.ref D), some (.int m), v4] ∧ 0 ≤ m ∧ m < 2147483647)
      ⟨rfl, _, none, rfl, by omega, by omega⟩ (fun i σ H' _ p => p.1 ▸ SqL.of eD) ?_ ?_
    · rintro i y σ H30 H3 hi ⟨rfl, m, v4, rfl, m0, m1⟩ y'
      obtain ⟨z, hz, rfl, rfl⟩ := yat_map y'
      refine ⟨_, rfl, _, _, rfl, rfl, .inr ⟨by omega, by omega⟩, _, rfl, _, _, rfl, rfl, by omega, _, _, rfl, rfl, _, _, rfl, rfl, by omega, ?_⟩
      exact ⟨rfl, _, _, rfl, Int.emod_nonneg _ (by omega), Int.emod_lt_of_pos _ (by omega)⟩
    · rintro σ H3 ⟨rfl, m, v4, rfl, m0, m1⟩
      refine ⟨_, rfl, D, rfl, ⟨_, SqL.of eD⟩, fun G hG => ?_⟩
      refine lcV (walk_list (K := K) (a := D) (xs := cs.map V.int)) cs (by rw [List.length_map]) (fun z => decide (z ≥ 10 ^ 18)) V.int hG (by omega) (fun H' S' => SqL.of (S' _ _ eD)) ?_ ?_
      · rintro j z x2 H12 H13 K4 K3 hz S12 hA y2 k1 k2
        obtain ⟨z', hz', rfl, rfl⟩ := yat_map y2
        have : z' = z := Option.some.inj (hz'.symm.trans hz)
        subst this
        refine ⟨rfl, _, rfl, 10, 18, rfl, rfl, ⟨by omega, by omega, by omega⟩, _, _, rfl, rfl, _, rfl, ?_⟩
        exact ite2 (fun c => ⟨_, rfl, k1 c _ (Same.refl _)⟩) (fun c => k2 (by simpa using c) _ (Same.refl _))
      intro H4 S4 eG
      obtain ⟨es, ees⟩ : ∃ es, es = cs.filter fun z => decide (z ≥ 10 ^ 18) := ⟨_, rfl⟩
      rw [← ees] at eG
      have les : es.length ≤ 63 := by
        have := List.length_filter_le (fun z => decide (z ≥ (10 : Int) ^ 18)) cs
        rw [ees]
        omega
      refine ⟨G, _, rfl, SqL.of eG, fun l hl' => ?_⟩
      have S5 := S4.trans (Smn (o := .lst (es.map V.int).reverse) hl')
      have el : (upd H4 l (.lst (es.map V.int).reverse)) l = some (.lst (es.map V.int).reverse) := upd_same
      have S15 := S12.trans S4
      have hl0 := Same.none S15 hl'
      generalize (upd H4 l (.lst (es.map V.int).reverse)) = H5 at *
      refine ⟨_, rfl, by show 2 ≤ sizeLine; omega, fun d hd => ?_⟩
      have S6 := S12.trans S5
      have hd0 := Same.none S6 hd
      have nld : l ≠ d := ne_of_none el hd
      refine q _ d l (S6.trans (Smn hd)) hd0 hl0 ⟨nld.symm, es.reverse, m, upd_same, ?_, by rw [List.length_reverse]; exact les, m0, m1⟩
      rw [upd_ne nld, el, List.map_reverse]
/-! _law_draw -/
abbrev s__law_draw : Stmt := (top 62)
abbrev N__law_draw : List Str := ["_law_deal_here", "_law_many", "_law_left", "_law_digit"]
abbrev P__law_draw : List Str := ["_law_deal_here", "_law_many"]
theorem sc__law_draw : FnScope N__law_draw P__law_draw (defScope s__law_draw) := ⟨rfl, rfl, rfl, by decide +kernel, rfl, by decide +kernel, by decide +kernel⟩

def spDraw : Sp := fun vs H Q _ => ∃ d l n, vs = [.ref d, vN n] ∧ DealAt H d l ∧ 0 < n ∧ n ≤ 1000 ∧ ∀ (H' : Hp) (i : Nat), i < n → DealAt H' d l → SameD d l H H' → Q (vN i) H'
theorem ok__law_draw (T : Txt K mg) {f : Addr} (F : FnT K "_law_draw" "_law_draw" s__law_draw f) : FnR P w K mg base CX0 1 f spDraw := by
  refine F.ok sc__law_draw (fun _ _ _ _ _ _ us hl => match us, hl with | [_, _], _ => rfl) (fun vs H Q E h => ?_) (fun cdv A outer s H vs Q E hr h => ?_)
  · obtain ⟨d, l, n, rfl, _⟩ := h
    rfl
  · obtain ⟨d, l, n, rfl, hD, hn, hn2, q⟩ := h
    refine ⟨_, (pss_cons (ps_if (pt_cmpR (op_neD hr.units) (pe_ix ix_list (pv 0) pe_int (fun _ _ => rfl)) (pe_lst pa_nil) (nomark _)) (pss_cons (ps_set (i := 2) sc__law_draw.nd rfl (Or.inl rfl) (pe_ix ix_list (pe_ix ix_list (pv 0) pe_int (fun _ _ => rfl)) (pe_op op_sub (pe_callB call_len rfl T.f_len boot_len (pa_cons (pe_ix ix_list (pv 0) pe_int (fun _ _ => rfl)) pa_nil)) pe_int) (fun _ _ => rfl)))
      (pss_cons (ps_set (i := 3) sc__law_draw.nd rfl (Or.inl rfl) (pe_op op_mod (pv 2) (pv 1)))
      (pss_cons (ps_if (pt_cmpR op_gt (pe_op op_fdiv (pv 2) (pv 1)) pe_int (nomark _)) (pss_one (ps_asg (pe_op op_fdiv (pv 2) (pv 1)) (pg_sub (pe_ix ix_list (pv 0) pe_int (fun _ _ => rfl)) (pe_op op_sub (pe_callB call_len rfl T.f_len boot_len (pa_cons (pe_ix ix_list (pv 0) pe_int (fun _ _ => rfl)) pa_nil)) pe_int) set_list))) (pss_one (ps_expr (pe_bm0 PySem.F.plainAttrs_list PySem.F.slot_list_pop PySem.F.type_list_pop mt_pop (pe_ix ix_list (pv 0) pe_int (fun _ _ => rfl))))))
      (pss_one (ps_ret (pv 3)))))) pss_nil)
      (pss_cons (ps_asg (pe_op op_mod (pe_op op_add (pe_op op_mul (pe_ix ix_list (pv 0) pe_int (fun _ _ => rfl)) pe_int) pe_int) pe_int) (pg_sub (pv 0) pe_int set_list))
      (pss_one (ps_ret (pe_op op_mod (pe_op op_fdiv (pe_ix ix_list (pv 0) pe_int (fun _ _ => rfl)) pe_int) (pv 1)))))), ?_⟩
    have line : sizeLine = 16777216 := sizeLine_eq
    obtain ⟨cells, m, h1, h2, h3, h4, h5⟩ := hD.ex
    have lay : ∀ z ∈ cells.map PyData.int, z.canLay0 = true ∧ z.depth ≤ 8 := fun z hz => by
      obtain ⟨i, _, rfl⟩ := List.mem_map.mp hz
      exact lay_int i
    refine ⟨_, rfl, d, _, _, _, rfl, rfl, SqL.of h1, rfl, ?_⟩
    refine ⟨Nat.zero_le _, fun e he => ?_⟩
    have Se := Smn (o := .lst []) he
    refine ⟨.list (cells.map PyData.int), .list [], .lst (SqL.of (Se _ _ h2)) (dpAll_int _), .lst (SqL.of upd_same) .nil, (shaped_of _ lay).2, (shaped_of [] (fun _ h => by cases h)).2, ?_⟩
    have h1e := Se _ _ h1
    have h2e := Se _ _ h2
    have nde : d ≠ e := ne_of_none h1 he
    generalize (upd H e (.lst [])) = H1 at *
    have hemp : PyData.eqv (.list (cells.map PyData.int)) (.list []) = decide (cells = []) := by
      have := eqvAll_map PyData.int eqv_int cells []
      unfold PyData.eqv
      rw [← this]
      rfl
    rw [hemp]
    have nd := hD.ne
    have dig : ∀ z : Int, ∃ i : Nat, i < n ∧ V.int (z % (n : Nat)) = vN i := fun z => by
      have a1 := Int.emod_nonneg z (b := ((n : Nat) : Int)) (by omega)
      have a2 := Int.emod_lt_of_pos z (b := ((n : Nat) : Int)) (by omega)
      refine ⟨(z % (n : Nat)).toNat, by omega, ?_⟩
      show V.int _ = V.int _
      rw [Int.toNat_of_nonneg a1]
    refine ⟨_, rfl, ?_⟩
    refine ite2 (fun c => ?_) (fun c => ?_)
    · have hne : cells ≠ [] := fun z => by simp [z] at c
      have hpos : 0 < cells.length := List.length_pos_iff.mpr hne
      obtain ⟨x, hx⟩ : ∃ x, cells[cells.length - 1]? = some x := ⟨_, List.getElem?_eq_getElem (by omega)⟩
      have hxv : (cells.map V.int)[cells.length - 1]? = some (V.int x) := by
        rw [List.getElem?_map, hx]
        rfl
      have eix : ((((cells.map V.int).length : Nat) : Int) - 1) = ((cells.length - 1 : Nat) : Int) := by
        rw [List.length_map]
        omega
      refine ⟨_, rfl, d, _, _, _, rfl, rfl, SqL.of h1e, rfl, _, rfl, d, _, _, _, rfl, rfl, SqL.of h1e, rfl, _, (cells.map V.int).length, rfl, .inl ⟨_, SqL.of h2e, rfl⟩, _, _, rfl, rfl, ?_⟩
      refine ⟨l, _, _, _, rfl, rfl, SqL.of h2e, at_of eix hxv, ?_⟩
      refine ⟨_, rfl, _, rfl, _, _, rfl, rfl, by omega, ?_⟩
      refine ⟨_, rfl, _, rfl, _, _, rfl, rfl, ⟨by omega, by omega⟩, _, _, rfl, rfl, _, rfl, ?_⟩
      obtain ⟨i, hi, ei⟩ := dig x
      have fin : ∀ (xs : List Int), xs.length ≤ 63 → DealAt (upd H1 l (.lst (xs.map V.int))) d l ∧ SameD d l H (upd H1 l (.lst (xs.map V.int))) := fun xs hx => by
        refine ⟨⟨nd, xs, m, by rw [upd_ne nd]; exact h1e, upd_same, hx, h4, h5⟩, fun c u n1 n2 e => ?_⟩
        rw [upd_ne n2]
        exact Se _ _ e
      refine ite2 (fun c2 => ?_) (fun c2 => ?_)
      · refine ⟨_, rfl, _, rfl, _, _, rfl, rfl, ⟨by omega, by omega⟩, ?_⟩
        refine ⟨_, rfl, d, _, _, _, rfl, rfl, SqL.of h1e, rfl, _, rfl, d, _, _, _, rfl, rfl, SqL.of h1e, rfl, _, (cells.map V.int).length, rfl, .inl ⟨_, SqL.of h2e, rfl⟩, _, _, rfl, rfl, ?_⟩
        refine ⟨l, _, _, cells.length - 1, rfl, rfl, h2e, by rw [eix]; exact ixN_nat (by rw [List.length_map]; omega), ?_⟩
        refine ⟨_, rfl, ?_⟩
        obtain ⟨f1, f2⟩ := fin (cells.set (cells.length - 1) (x / ((n : Nat) : Int))) (by rw [List.length_set]; exact h3)
        rw [List.map_set] at f1 f2
        show Q (V.int (x % (n : Nat))) _
        rw [ei]
        exact q _ i hi f1 f2
      · refine ⟨_, rfl, d, _, _, _, rfl, rfl, SqL.of h1e, rfl, tyL h2e, l, _, V.int x, rfl, rfl, h2e, by rw [List.length_map]; exact hxv, ?_⟩
        refine ⟨_, rfl, ?_⟩
        obtain ⟨f1, f2⟩ := fin cells.dropLast (by rw [List.length_dropLast]; omega)
        rw [List.map_dropLast] at f1 f2
        show Q (V.int (x % (n : Nat))) _
        rw [ei]
        exact q _ i hi f1 f2
    · refine ⟨_, rfl, d, _, _, _, rfl, rfl, SqL.of h1e, rfl, _, _, rfl, rfl, .inr ⟨by omega, by omega⟩, _, _, rfl, rfl, _, _, rfl, rfl, by omega, ?_⟩
      refine ⟨_, rfl, d, _, _, 1, rfl, rfl, h1e, rfl, ?_⟩
      obtain ⟨i, hi, ei⟩ := dig ((m * 48271 + 11) % 2147483647 / 97)
      refine ⟨_, rfl, d, _, _, V.int ((m * 48271 + 11) % 2147483647), rfl, rfl, SqL.of upd_same, rfl, _, _, rfl, rfl, ⟨by omega, by omega⟩, _, rfl, _, _, rfl, rfl, by omega, ?_⟩
      show Q (V.int ((m * 48271 + 11) % 2147483647 / 97 % (n : Nat))) _
      rw [ei]
      refine q _ i hi ⟨nd, cells, (m * 48271 + 11) % 2147483647, upd_same, by rw [upd_ne nd.symm]; exact h2e, h3, Int.emod_nonneg _ (by omega), Int.emod_lt_of_pos _ (by omega)⟩ fun c u n1 n2 e => ?_
      rw [upd_ne n1]
      exact Se _ _ e
end
end Un

/-! ## D19 -/
set_option Elab.async false
set_option linter.all false
set_option maxRecDepth 100000
set_option maxHeartbeats 4000000
namespace Un
open PySem PySem.Spec PyProof.Rows L2 StX
theorem any_encP (a : Str × Str) : ∀ ps : List (Str × Str), ((ps.map encP).any fun z => PyData.eqv z (encP a)) = decide (a ∈ ps)
  | [] => by simp
  | p :: ps => by
    rw [List.map_cons, List.any_cons, eqv_pair, any_encP a ps]
    by_cases e : p = a
    · rw [e]
      simp
    · have : a ≠ p := fun z => e z.symm
      simp [e, this]
def freeL (ps : List (Str × Str)) (a b : Str) : Bool := decide ((a, b) ∈ ps) || decide ((b, a) ∈ ps)
theorem SameD.none {d l a : Addr} {H H' : Hp} (s : SameD d l H H') (n1 : a ≠ d) (n2 : a ≠ l) (h : H' a = none) : H a = none := by
  cases e : H a with
  | none => rfl
  | some u =>
    have := s _ _ n1 n2 e
    rw [h] at this
    cases this
theorem DealAt.new {H : Hp} {d l a : Addr} (D : DealAt H d l) (h : H a = none) : a ≠ d ∧ a ≠ l := by
  obtain ⟨cells, m, h1, h2, _⟩ := D.ex
  exact ⟨(fun z => by rw [z, h1] at h; cases h), fun z => by rw [z, h2] at h; cases h⟩
theorem DealAt.put {H : Hp} {d l a : Addr} {u : HO} (D : DealAt H d l) (n1 : a ≠ d) (n2 : a ≠ l) : DealAt (upd H a u) d l := by
  obtain ⟨cells, m, h1, h2, h3⟩ := D.ex
  exact ⟨D.ne, cells, m, by rw [upd_ne n1.symm]; exact h1, by rw [upd_ne n2.symm]; exact h2, h3⟩
def AllI : List V → Prop
  | [] => True
  | .int _ :: r => AllI r
  | _ :: _ => False
theorem erase_map {α β : Type} (f : α → β) : ∀ (xs : List α) (j : Nat), (xs.map f).eraseIdx j = (xs.eraseIdx j).map f
  | [], _ => rfl
  | _ :: _, 0 => rfl
  | x :: xs, j + 1 => by
    show f x :: (xs.map f).eraseIdx j = f x :: (xs.eraseIdx j).map f
    rw [erase_map f xs j]
theorem erase_perm {α : Type} : ∀ {xs : List α} {j : Nat} {y : α}, xs[j]? = some y → xs.Perm (y :: xs.eraseIdx j)
  | x :: xs, 0, y, h => by
    cases h
    exact .refl _
  | x :: xs, j + 1, y, h => ((erase_perm (xs := xs) h).cons x).trans (.swap _ _ _)
theorem seqIx {n j : Nat} (h : j < n) : seqIndex? ((j : Nat) : Int) n = some j := (ixN_seq (ixN_nat h)).1
theorem AllI.at : ∀ {vs : List V}, AllI vs → ∀ {j : Nat}, j < vs.length → ∃ c, vs[j]? = some (.int c)
  | .int c :: _, _, 0, _ => ⟨c, rfl⟩
  | .int _ :: r, h, j + 1, hj => AllI.at (vs := r) h (Nat.lt_of_succ_lt_succ hj)
section
variable {P : Program} {w : World} {K : PySem.W.Frag} {mg : Str → Option Value} {base : Heap}
/-! _law_is_free -/
abbrev s__law_is_free : Stmt := (top 65)
abbrev N__law_is_free : List Str := ["_law_pairs", "_law_one", "_law_other"]
abbrev P__law_is_free : List Str := ["_law_pairs", "_law_one", "_law_other"]
theorem sc__law_is_free : FnScope N__law_is_free P__law_is_free (defScope s__law_is_free) := ⟨rfl, rfl, rfl, by decide +kernel, rfl, by decide +kernel, by decide +kernel⟩

def okP (p : Str × Str) : Prop := PyData.strOk p.1 = true ∧ PyData.strOk p.2 = true
def spIsFree (K : PySem.W.Frag) : Sp := fun vs H Q _ => ∃ p a b pvs ps, vs = [.ref p, .str a, .str b] ∧ SqL K H p pvs ∧ Prs H pvs ps ∧ okP (a, b) ∧ (∀ p ∈ ps, okP p) ∧ ∀ H', Same H H' → Q (.bl (freeL ps a b)) H'
theorem ok__law_is_free (T : Txt K mg) {f : Addr} (F : FnT K "_law_is_free" "_law_is_free" s__law_is_free f) : FnR P w K mg base CX0 1 f (spIsFree K) := by
  refine F.ok sc__law_is_free (fun _ _ _ _ _ _ us hl => match us, hl with | [_, _, _], _ => rfl) (fun vs H Q E h => ?_) (fun cdv A outer s H vs Q E hr h => ?_)
  · obtain ⟨p, a, b, pvs, ps, rfl, _⟩ := h
    rfl
  · obtain ⟨p, a, b, pvs, ps, rfl, hp, hps, hab, hok, q⟩ := h
    refine ⟨_, (pss_one (ps_ret (pe_or (pe_cmpR (op_inD hr.units65) (pe_tup (pa_cons (pv 1) (pa_cons (pv 2) pa_nil))) (pv 0) (by rfl)) (pe_one (pe_cmpR (op_inD hr.units65) (pe_tup (pa_cons (pv 2) (pa_cons (pv 1) pa_nil))) (pv 0) (by rfl)))))), ?_⟩
    have line : sizeLine = 16777216 := sizeLine_eq
    have lay : ∀ z ∈ ps.map encP, z.canLay0 = true ∧ z.depth ≤ 8 := fun z hz => by
      obtain ⟨c, hc, rfl⟩ := List.mem_map.mp hz
      exact lay_pair (hok c hc).1 (hok c hc).2
    have sp : ∀ {x y : Str}, PyData.strOk x = true → PyData.strOk y = true → SeqAt.shaped (encP (x, y)) = true := fun {x y} h1 h2 => (shaped_of [.str x, .str y] (fun d hd => by
      rcases List.mem_cons.mp hd with h | h
      · rw [h]; exact lay_str h1
      · rw [List.mem_singleton.mp h]; exact lay_str h2)).1
    refine ⟨_, rfl, _, rfl, by show 2 ≤ sizeLine; omega, fun t ht => ?_⟩
    have S1 := Smn (o := .tup [.str a, .str b]) ht
    refine ⟨_, rfl, encP (a, b), ps.map encP, dp_pair ⟨t, rfl, upd_same⟩, .lst (SqL.mono S1 hp) (dpAll_pair (Prs.mono (Smt S1) hps)), sp hab.1 hab.2, (shaped_of _ lay).2, ?_⟩
    rw [any_encP]
    have ef : freeL ps a b = (decide ((a, b) ∈ ps) || decide ((b, a) ∈ ps)) := rfl
    generalize (upd H t (.tup [.str a, .str b])) = H1 at *
    cases c : decide ((a, b) ∈ ps) with
    | true =>
      refine ⟨true, rfl, ite_t rfl ?_⟩
      have := q _ S1
      rw [ef, c, Bool.true_or] at this
      exact this
    | false =>
      refine ⟨false, rfl, ite_f rfl ?_⟩
      refine ⟨_, rfl, _, rfl, by show 2 ≤ sizeLine; omega, fun t2 ht2 => ?_⟩
      have S2 := S1.trans (Smn (o := .tup [.str b, .str a]) ht2)
      refine ⟨_, rfl, encP (b, a), ps.map encP, dp_pair ⟨t2, rfl, upd_same⟩, .lst (SqL.mono S2 hp) (dpAll_pair (Prs.mono (Smt S2) hps)), sp hab.2 hab.1, (shaped_of _ lay).2, ?_⟩
      rw [any_encP]
      have := q _ S2
      rw [ef, c, Bool.false_or] at this
      exact this
/-! _law_count -/
abbrev s__law_count : Stmt := (top 66)
abbrev N__law_count : List Str := ["_law_deal_here", "_law_form_here"]
abbrev P__law_count : List Str := ["_law_deal_here"]
theorem sc__law_count : FnScope N__law_count P__law_count (defScope s__law_count) := ⟨rfl, rfl, rfl, by decide +kernel, rfl, by decide +kernel, by decide +kernel⟩

def spCount : Sp := fun vs H Q _ => ∃ d l, vs = [.ref d] ∧ DealAt H d l ∧ ∀ (H' : Hp) (c : Int), DealAt H' d l → SameD d l H H' → Q (.int c) H'
theorem ok__law_count (T : Txt K mg) {f : Addr} (F : FnT K "_law_count" "_law_count" s__law_count f) (F__law_draw : FnR P w K mg base CX0 1 (He.ga K "_law_draw") spDraw) : FnR P w K mg base CX0 2 f spCount := by
  refine F.ok sc__law_count (fun _ _ _ _ _ _ us hl => match us, hl with | [_], _ => rfl) (fun vs H Q E h => ?_) (fun cdv A outer s H vs Q E hr h => ?_)
  · obtain ⟨d, l, rfl, _⟩ := h
    rfl
  · obtain ⟨d, l, rfl, hD, q⟩ := h
    refine ⟨_, (pss_cons (ps_set (i := 1) sc__law_count.nd rfl (Or.inl rfl) (pe_callR F__law_draw (hr.mono (by decide)) rfl T.m__law_draw T.k__law_draw pass0 (pa_cons (pv 0) (pa_cons pe_int pa_nil))))
      (pss_cons (ps_if (pt_cmpR op_eq (pv 1) pe_int (nomark _)) (pss_one (ps_ret (pe_ix ix_list (pe_lst (pa_cons pe_int (pa_cons (pe_op op_pow pe_int pe_int) (pa_cons (pe_op op_sub pe_int (pe_op op_pow pe_int pe_int)) (pa_cons pe_int (pa_cons pe_int (pa_cons (pe_op op_sub pe_int pe_int) pa_nil))))))) (pe_callR F__law_draw (hr.mono (by decide)) rfl T.m__law_draw T.k__law_draw pass0 (pa_cons (pv 0) (pa_cons pe_int pa_nil))) (fun _ _ => rfl)))) pss_nil)
      (pss_one (ps_ret (pe_ix ix_list (pe_lst (pa_cons pe_int (pa_cons (pe_op op_sub pe_int pe_int) (pa_cons pe_int (pa_cons (pe_op op_sub pe_int pe_int) (pa_cons pe_int (pa_cons (pe_op op_sub pe_int pe_int) (pa_cons pe_int (pa_cons (pe_op op_sub pe_int pe_int) pa_nil))))))))) (pe_op op_mod (pv 1) pe_int) (fun _ _ => rfl)))))), ?_⟩
    have line : sizeLine = 16777216 := sizeLine_eq
    refine ⟨_, rfl, d, l, 16, rfl, hD, by omega, by omega, fun H1 i hi D1 S1 => ?_⟩
    refine ⟨_, rfl, rfl, _, rfl, ?_⟩
    refine ite2 (fun c => ?_) (fun c => ?_)
    · refine ⟨10, 18, rfl, rfl, ⟨by omega, by omega, by omega⟩, 10, 18, rfl, rfl, ⟨by omega, by omega, by omega⟩, _, _, rfl, rfl, _, _, rfl, rfl, by show 6 ≤ sizeLine; omega, fun a ha => ?_⟩
      refine ⟨_, rfl, d, l, 6, rfl, D1.mono (Smn ha), by omega, by omega, fun H2 j hj D2 S3 => ?_⟩
      obtain ⟨n1, n2⟩ := D1.new ha
      have ea := S3 _ _ n1 n2 upd_same
      obtain ⟨c', hc⟩ := AllI.at (vs := [V.int 0, .int _, .int _, .int 6, .int 12, .int _]) True.intro (j := j) hj
      exact ⟨a, _, _, _, rfl, rfl, SqL.of ea, at_of rfl hc, q H2 c' D2 ((S1.trans (Same.d (Smn ha))).trans S3)⟩
    · refine ⟨_, _, rfl, rfl, _, _, rfl, rfl, _, _, rfl, rfl, _, _, rfl, rfl, by show 8 ≤ sizeLine; omega, fun a ha => ?_⟩
      refine ⟨_, rfl, _, _, rfl, rfl, by omega, ?_⟩
      obtain ⟨c', hc⟩ := AllI.at (vs := [V.int 1, .int _, .int 1, .int _, .int 2, .int _, .int 3, .int _]) True.intro (j := i % 8) (Nat.mod_lt _ (by omega))
      exact ⟨a, _, _, _, rfl, rfl, SqL.of upd_same, at_of (by show ((i : Nat) : Int) % 8 = ((i % 8 : Nat) : Int); omega) hc, q _ c' (D1.mono (Smn ha)) (S1.trans (Same.d (Smn ha)))⟩
/-! _law_mixed -/
abbrev s__law_mixed : Stmt := (top 63)
abbrev N__law_mixed : List Str := ["_law_deal_here", "_law_items", "_law_left", "_law_found"]
abbrev P__law_mixed : List Str := ["_law_deal_here", "_law_items"]
theorem sc__law_mixed : FnScope N__law_mixed P__law_mixed (defScope s__law_mixed) := ⟨rfl, rfl, rfl, by decide +kernel, rfl, by decide +kernel, by decide +kernel⟩

def spMixed : Sp := fun vs H Q _ => ∃ (d l i : Addr) (zs : List Str), vs = [.ref d, .ref i] ∧ DealAt H d l ∧ i ≠ d ∧ i ≠ l ∧ H i = some (.lst (zs.map V.str)) ∧ zs.length ≤ 100 ∧ (∀ z ∈ zs, PyData.strOk z = true) ∧
  ∀ (H' : Hp) (p : Addr) (ws : List Str), ws.Perm zs → H' p = some (.lst (ws.map V.str)) → p ≠ d → p ≠ l → DealAt H' d l → SameD d l H H' → Q (.ref p) H'
theorem ok__law_mixed (T : Txt K mg) {f : Addr} (F : FnT K "_law_mixed" "_law_mixed" s__law_mixed f) (F__law_draw : FnR P w K mg base CX0 1 (He.ga K "_law_draw") spDraw) : FnR P w K mg base CX0 2 f spMixed := by
  refine F.ok sc__law_mixed (fun _ _ _ _ _ _ us hl => match us, hl with | [_, _], _ => rfl) (fun vs H Q E h => ?_) (fun cdv A outer s H vs Q E hr h => ?_)
  · obtain ⟨d, l, i, zs, rfl, _⟩ := h
    rfl
  · obtain ⟨d, l, i, zs, rfl, hD, n1, n2, hi, hl, hok, q⟩ := h
    refine ⟨_, (pss_cons (ps_par (i := 2) (j := 3) rfl sc__law_mixed.nd rfl rfl (by decide) rfl rfl (pa_cons (pe_callTy call_list_of rfl T.f_list boot_list (pa_cons (pv 1) pa_nil)) (pa_cons (pe_lst pa_nil) pa_nil)) (by rfl))
      (pss_cons (ps_while PassesOwn.never (pt_cmpR (op_neD hr.units) (pv 2) (pe_lst pa_nil) (nomark _)) (pss_one (ps_expr (pe_bm PySem.F.plainAttrs_list PySem.F.slot_list_append PySem.F.type_list_append mt_append (pv 3) (pa_cons (pe_bm PySem.F.plainAttrs_list PySem.F.slot_list_pop PySem.F.type_list_pop mt_popAt (pv 2) (pa_cons (pe_callR F__law_draw (hr.mono (by decide)) rfl T.m__law_draw T.k__law_draw pass0 (pa_cons (pv 0) (pa_cons (pe_callB call_len rfl T.f_len boot_len (pa_cons (pv 2) pa_nil)) pa_nil))) pa_nil)) pa_nil)))))
      (pss_one (ps_ret (pv 3))))), ?_⟩
    have line : sizeLine = 16777216 := sizeLine_eq
    refine ⟨_, rfl, i, _, rfl, .inl (SqL.of hi), fun L hL => ?_⟩
    obtain ⟨L1, L2⟩ := hD.new hL
    have D1 := hD.mono (Smn (o := .lst (zs.map V.str)) hL)
    have S1 : SameD d l H _ := Same.d (Smn (o := .lst (zs.map V.str)) hL)
    refine ⟨Nat.zero_le _, fun G hG => ?_⟩
    have eL : (upd H L (.lst (zs.map V.str))) L = some (.lst (zs.map V.str)) := upd_same
    obtain ⟨G1, G2⟩ := D1.new hG
    have nLG : L ≠ G := ne_of_none eL hG
    have D2 := D1.mono (Smn (o := .lst []) hG)
    have S2 : SameD d l H _ := S1.trans (Same.d (Smn (o := .lst []) hG))
    have eL2 := Smn (o := .lst []) hG _ _ eL
    have eG2 : (upd (upd H L (.lst (zs.map V.str))) G (.lst [])) G = some (.lst []) := upd_same
    have hG0 := S1.none G1 G2 hG
    generalize (upd (upd H L (.lst (zs.map V.str))) G (.lst [])) = H2 at *
    refine ⟨_, _, rfl, ?_⟩
    refine ⟨fun m σ H' => ∃ (left found : List Str), m = left.length ∧ σ = [some (.ref d), some (.ref i), some (.ref L), some (.ref G)] ∧ DealAt H' d l ∧ SameD d l H H' ∧ H' L = some (.lst (left.map V.str)) ∧ H' G = some (.lst (found.map V.str)) ∧ (found ++ left).Perm zs, ⟨zs.length, zs, [], rfl, rfl, D2, S2, eL2, eG2, .refl _⟩, ?_⟩
    rintro m σ H3 ⟨left, found, rfl, rfl, D3, S3, eL3, eG3, pm⟩
    have pl := pm.length_eq
    rw [List.length_append] at pl
    refine ⟨_, rfl, Nat.zero_le _, fun e he => ?_⟩
    have Se := Smn (o := .lst []) he
    have lay : ∀ z ∈ left.map PyData.str, z.canLay0 = true ∧ z.depth ≤ 8 := fun z hz => by
      obtain ⟨x, hx, rfl⟩ := List.mem_map.mp hz
      exact lay_str (hok x (pm.mem_iff.mp (List.mem_append_right _ hx)))
    refine ⟨.list (left.map PyData.str), .list [], .lst (SqL.of (Se _ _ eL3)) (dpAll_str _), .lst (SqL.of upd_same) .nil, (shaped_of _ lay).2, (shaped_of [] (fun _ h => by cases h)).2, ?_⟩
    have hemp : PyData.eqv (.list (left.map PyData.str)) (.list []) = decide (left = []) := by
      have := eqvAll_map PyData.str eqv_str left []
      unfold PyData.eqv
      rw [← this]
      rfl
    rw [hemp]
    have D4 := D3.mono Se
    have S4 := S3.trans (Same.d Se)
    have eL4 := Se _ _ eL3
    have eG4 := Se _ _ eG3
    generalize (upd H3 e (.lst [])) = H4 at *
    refine ⟨_, rfl, ?_⟩
    refine ite2 (fun c => ?_) (fun c => ?_)
    · have hne : left ≠ [] := fun z => by simp [z] at c
      have hpos : 0 < left.length := List.length_pos_iff.mpr hne
      refine ⟨fun σ' H' => ∃ (left' found' : List Str), left'.length < left.length ∧ σ' = [some (.ref d), some (.ref i), some (.ref L), some (.ref G)] ∧ DealAt H' d l ∧ SameD d l H H' ∧ H' L = some (.lst (left'.map V.str)) ∧ H' G = some (.lst (found'.map V.str)) ∧ (found' ++ left').Perm zs, fun σ' H' ⟨left', found', h1, h2⟩ => ⟨_, h1, left', found', rfl, h2⟩, ?_⟩
      refine ⟨_, rfl, tyL eG4, _, rfl, tyL eL4, _, rfl, _, rfl, _, (left.map V.str).length, rfl, .inl ⟨_, SqL.of eL4, rfl⟩, d, l, left.length, by rw [List.length_map], D4, hpos, by omega, fun H5 j hj D5 S5 => ?_⟩
      have eL5 := S5 _ _ L1 L2 eL4
      have eG5 := S5 _ _ G1 G2 eG4
      obtain ⟨y, hy⟩ : ∃ y, left[j]? = some y := ⟨_, List.getElem?_eq_getElem hj⟩
      refine ⟨L, _, _, j, .str y, rfl, rfl, eL5, by omega, by omega, (seqIx (by rw [List.length_map]; exact hj)), by rw [List.getElem?_map, hy]; rfl, ?_⟩
      refine ⟨G, _, _, rfl, rfl, by rw [upd_ne nLG.symm]; exact eG5, by rw [List.length_map]; omega, ?_⟩
      have nL0 : H L = none := hL
      refine ⟨left.eraseIdx j, found ++ [y], by rw [List.length_eraseIdx_of_lt hj]; omega, rfl, (D5.put L1 L2).put G1 G2, ((S4.trans S5).sup nL0).sup hG0, ?_, ?_, ?_⟩
      · rw [upd_ne nLG, upd_same, erase_map]
      · rw [upd_same, List.map_append]
        rfl
      · have h1 : left.Perm (y :: left.eraseIdx j) := by
          exact erase_perm hy
        rw [List.append_assoc]
        exact ((h1.symm.append_left found).trans pm)
    · have he' : left = [] := by simpa using c
      subst he'
      rw [List.append_nil] at pm
      exact ⟨_, rfl, q H4 G found pm eG4 G1 G2 D4 S4⟩
end
end Un

/-! ## D20 -/
set_option Elab.async false
set_option linter.all false
set_option maxRecDepth 100000
set_option maxHeartbeats 4000000
namespace Un
open PySem PySem.Spec PyProof.Rows L2 StX
theorem SameD.syls {d l : Addr} {H H' : Hp} {vs : List V} {ss : List (Str × Int)} (D : DealAt H d l) (s : SameD d l H H') (h : Syls H vs ss) : Syls H' vs ss := Syls.mono (SameD.tup D s) h
theorem emp_syl (ss : List (Str × Int)) : PyData.eqv (.list (ss.map encS)) (.list []) = decide (ss = []) := by
  have := eqvAll_map encS eqv_syl ss []
  unfold PyData.eqv
  rw [← this]
  rfl
theorem lay_syls {ss : List (Str × Int)} (h : ∀ z ∈ ss, PyData.strOk z.1 = true) : ∀ d ∈ ss.map encS, d.canLay0 = true ∧ d.depth ≤ 8 := fun d hd => by
  obtain ⟨s, hs, rfl⟩ := List.mem_map.mp hd
  exact lay_syl (h s hs)
section
variable {P : Program} {w : World} {K : PySem.W.Frag} {mg : Str → Option Value} {base : Heap}
/-! _law_row -/
abbrev s__law_row : Stmt := (top 67)
abbrev N__law_row : List Str := ["_law_deal_here", "_law_kinds", "_law_many", "_law_found", "_law_turn", "_law_kind", "_law_count_here"]
abbrev P__law_row : List Str := ["_law_deal_here", "_law_kinds", "_law_many"]
theorem sc__law_row : FnScope N__law_row P__law_row (defScope s__law_row) := ⟨rfl, rfl, rfl, by decide +kernel, rfl, by decide +kernel, by decide +kernel⟩

def spRow : Sp := fun vs H Q _ => ∃ (d l kk : Addr) (n : Nat) (ks : List Str), vs = [.ref d, .ref kk, vN n] ∧ DealAt H d l ∧ kk ≠ d ∧ kk ≠ l ∧ H kk = some (.lst (ks.map V.str)) ∧ 0 < ks.length ∧ ks.length ≤ 100 ∧ (∀ k ∈ ks, PyData.strOk k = true) ∧ n ≤ 100 ∧
  ∀ (H' : Hp) (p : Addr) (us : List V) (ss : List (Str × Int)), ss.length = n → (∀ z ∈ ss, z.1 ∈ ks) → H' p = some (.lst us) → Syls H' us ss → p ≠ d → p ≠ l → DealAt H' d l → SameD d l H H' → Q (.ref p) H'
theorem ok__law_row (T : Txt K mg) {f : Addr} (F : FnT K "_law_row" "_law_row" s__law_row f) (F__law_draw : FnR P w K mg base CX0 1 (He.ga K "_law_draw") spDraw) (F__law_count : FnR P w K mg base CX0 2 (He.ga K "_law_count") spCount) : FnR P w K mg base CX0 3 f spRow := by
  refine F.ok sc__law_row (fun _ _ _ _ _ _ us hl => match us, hl with | [_, _, _], _ => rfl) (fun vs H Q E h => ?_) (fun cdv A outer s H vs Q E hr h => ?_)
  · obtain ⟨d, l, kk, n, ks, rfl, _⟩ := h
    rfl
  · obtain ⟨d, l, kk, n, ks, rfl, hD, n1, n2, hkk, hpos, hl, hok, hn, q⟩ := h
    refine ⟨_, (pss_cons (ps_set (i := 3) sc__law_row.nd rfl (Or.inl rfl) (pe_lst pa_nil))
      (pss_cons (ps_for PassesOwn.never rfl (pi_range1 rfl T.f_range (pa_cons (pv 2) pa_nil)) (pg_name (i := 4) sc__law_row.nd rfl (Or.inl rfl)) (pss_cons (ps_par (i := 5) (j := 6) rfl sc__law_row.nd rfl rfl (by decide) rfl rfl (pa_cons (pe_ix ix_list (pv 1) (pe_callR F__law_draw (hr.mono (by decide)) rfl T.m__law_draw T.k__law_draw pass0 (pa_cons (pv 0) (pa_cons (pe_callB call_len rfl T.f_len boot_len (pa_cons (pv 1) pa_nil)) pa_nil))) (fun _ _ => rfl)) (pa_cons (pe_callR F__law_count (hr.mono (by decide)) rfl T.m__law_count T.k__law_count pass0 (pa_cons (pv 0) pa_nil)) pa_nil)) (by rfl))
      (pss_cons (ps_if (PW.pt (pw_and (pt_cmpR (op_neD hr.units) (pv 3) (pe_lst pa_nil) (nomark _)) (pw_and1 (pt_cmpR op_eq (pe_callR F__law_draw (hr.mono (by decide)) rfl T.m__law_draw T.k__law_draw pass0 (pa_cons (pv 0) (pa_cons pe_int pa_nil))) pe_int (nomark _))))) (pss_cons (ps_asg (pe_ix ix_list (pv 3) (pe_callR F__law_draw (hr.mono (by decide)) rfl T.m__law_draw T.k__law_draw pass0 (pa_cons (pv 0) (pa_cons (pe_callB call_len rfl T.f_len boot_len (pa_cons (pv 3) pa_nil)) pa_nil))) (fun _ _ => rfl)) (pg_tup (n := 2) rfl (pgs_cons (pg_name (i := 5) sc__law_row.nd rfl (Or.inl rfl)) (pgs_cons (pg_name (i := 6) sc__law_row.nd rfl (Or.inl rfl)) pgs_nil))))
      (pss_one (ps_set (i := 6) sc__law_row.nd rfl (Or.inl rfl) (pe_op op_sub pe_int (pv 6))))) pss_nil)
      (pss_one (ps_expr (pe_bm PySem.F.plainAttrs_list PySem.F.slot_list_append PySem.F.type_list_append mt_append (pv 3) (pa_cons (pe_tup (pa_cons (pv 5) (pa_cons (pv 6) pa_nil))) pa_nil)))))))
      (pss_one (ps_ret (pv 3))))), ?_⟩
    have line : sizeLine = 16777216 := sizeLine_eq
    refine ⟨Nat.zero_le _, fun G hG => ?_⟩
    obtain ⟨G1, G2⟩ := hD.new hG
    have D1 := hD.mono (Smn (o := .lst []) hG)
    have S1 : SameD d l H _ := Same.d (Smn (o := .lst []) hG)
    refine ⟨_, rfl, ((n : Nat) : Int), rfl, by omega, by omega, ?_⟩
    refine for_it (walk_range (lo := 0) (n := ((n : Nat) : Int).toNat)) (fun i σ H' => DealAt H' d l ∧ SameD d l H H' ∧ ∃ (v4 v5 v6 : Option V) (us : List V) (ss : List (Str × Int)), σ = [some (.ref d), some (.ref kk), some (vN n), some (.ref G), v4, v5, v6] ∧ ss.length = i ∧ (∀ z ∈ ss, z.1 ∈ ks) ∧ H' G = some (.lst us) ∧ Syls H' us ss)
      ⟨D1, S1, none, none, none, [], [], rfl, rfl, (fun z hz => by cases hz), upd_same, .nil⟩ (fun _ _ _ _ _ => trivial) ?_ ?_
    · rintro i y σ H30 H3 hi ⟨D3, S3, v4, v5, v6, us, ss, rfl, ls, hk, eG, hS⟩ y'
      obtain ⟨rfl, rfl⟩ := yrng y'
      have tailok : ∀ (H5 : Hp) (kd : Str) (c : Int) (t : Addr), DealAt H5 d l → SameD d l H H5 → SameD d l H3 H5 → kd ∈ ks → H5 t = none → DealAt (upd (upd H5 t (.tup [.str kd, .int c])) G (.lst (us ++ [.ref t]))) d l ∧ SameD d l H (upd (upd H5 t (.tup [.str kd, .int c])) G (.lst (us ++ [.ref t]))) ∧ ∃ (v4' v5' v6' : Option V) (us' : List V) (ss' : List (Str × Int)), [some (V.ref d), some (.ref kk), some (vN n), some (.ref G), some (vN i), some (.str kd), some (.int c)] = [some (V.ref d), some (.ref kk), some (vN n), some (.ref G), v4', v5', v6'] ∧ ss'.length = i + 1 ∧ (∀ z ∈ ss', z.1 ∈ ks) ∧ (upd (upd H5 t (.tup [.str kd, .int c])) G (.lst (us ++ [.ref t]))) G = some (.lst us') ∧ Syls (upd (upd H5 t (.tup [.str kd, .int c])) G (.lst (us ++ [.ref t]))) us' ss' := fun H5 kd c t D5 S5 S35 hkd ht => by
        have St := Smn (o := .tup [.str kd, .int c]) ht
        have eG5 := S35 _ _ G1 G2 eG
        have et : (upd H5 t (.tup [.str kd, .int c])) t = some (.tup [.str kd, .int c]) := upd_same
        have eG6 := St _ _ eG5
        have D6 := D5.mono St
        have S6 := S5.trans (Same.d St)
        have hS6 := SameD.syls D3 (S35.trans (Same.d St)) hS
        generalize (upd H5 t (.tup [.str kd, .int c])) = H6 at *
        have tG := Tup_lst (ys := us ++ [.ref t]) eG6
        refine ⟨D6.put G1 G2, S6.sup hG, _, _, _, us ++ [.ref t], ss ++ [(kd, c)], rfl, by rw [List.length_append, ls]; rfl, fun z hz => ?_, upd_same, Pr.app (Syls.mono tG hS6) (Pr.one ⟨t, rfl, tG _ _ et⟩)⟩
        rcases List.mem_append.mp hz with h | h
        · exact hk z h
        · rw [List.mem_singleton.mp h]
          exact hkd
      have lus := Pr.len hS
      -- the kind and the count
      refine ⟨_, rfl, _, rfl, _, rfl, _, (ks.map V.str).length, rfl, .inl ⟨_, SqL.of (S3 _ _ n1 n2 hkk), rfl⟩, d, l, ks.length, by rw [List.length_map], D3, hpos, by omega, fun H4 j hj D4 S4 => ?_⟩
      obtain ⟨kd, hkd⟩ : ∃ kd, ks[j]? = some kd := ⟨_, List.getElem?_eq_getElem hj⟩
      have kdm := List.mem_of_getElem? hkd
      have S04 := S3.trans S4
      refine ⟨kk, _, _, .str kd, rfl, rfl, SqL.of (S04 _ _ n1 n2 hkk), at_of rfl (by rw [List.getElem?_map, hkd]; rfl), ?_⟩
      refine ⟨_, rfl, d, l, rfl, D4, fun H5 c D5 S5 => ?_⟩
      refine ⟨_, _, rfl, ?_⟩
      have S05 := S04.trans S5
      have S35 := S4.trans S5
      have eG5 := S35 _ _ G1 G2 eG
      have hS5 := SameD.syls D3 S35 hS
      -- the test
      refine ⟨_, rfl, Nat.zero_le _, fun e he => ?_⟩
      have Se := Smn (o := .lst []) he
      refine ⟨.list (ss.map encS), .list [], .lst (SqL.of (Se _ _ eG5)) (dpAll_syl (Syls.mono (Smt Se) hS5)), .lst (SqL.of upd_same) .nil, (shaped_of _ (lay_syls fun z hz => hok _ (hk z hz))).2, (shaped_of [] (fun _ h => by cases h)).2, ?_⟩
      rw [emp_syl]
      have D6 := D5.mono Se
      have S06 := S05.trans (Same.d Se)
      have S36 := S35.trans (Same.d Se)
      generalize (upd H5 e (.lst [])) = H6 at *
      refine ⟨_, rfl, ?_⟩
      refine ite2 (fun c1 => ?_) (fun c1 => ?_)
      · have hne : ss ≠ [] := fun z => by simp [z] at c1
        have spos : 0 < ss.length := List.length_pos_iff.mpr hne
        refine ⟨_, rfl, d, l, 4, rfl, D6, by omega, by omega, fun H7 j2 hj2 D7 S7 => ?_⟩
        refine ⟨rfl, _, rfl, ?_⟩
        have S07 := S06.trans S7
        have S37 := S36.trans S7
        refine ite2 (fun c2 => ?_) (fun c2 => ?_)
        · refine ⟨_, rfl, _, rfl, _, rfl, _, us.length, rfl, .inl ⟨_, SqL.of (S37 _ _ G1 G2 eG), rfl⟩, d, l, ss.length, by rw [lus], D7, spos, by omega, fun H8 j3 hj3 D8 S8 => ?_⟩
          have S08 := S07.trans S8
          have S38 := S37.trans S8
          obtain ⟨z, hz⟩ : ∃ z, ss[j3]? = some z := ⟨_, List.getElem?_eq_getElem hj3⟩
          obtain ⟨v, hv, qb, rfl, hqb⟩ := Pr.get2 (SameD.syls D3 S38 hS) hz
          refine ⟨G, _, _, .ref qb, rfl, rfl, SqL.of (S38 _ _ G1 G2 eG), at_of rfl hv, ?_⟩
          refine g2 (SqT.of hqb) ?_
          refine ⟨_, rfl, _, _, rfl, rfl, ?_⟩
          refine ⟨_, rfl, tyL (S38 _ _ G1 G2 eG), _, rfl, _, rfl, by show 2 ≤ sizeLine; omega, fun t ht => ?_⟩
          refine ⟨G, us, _, rfl, rfl, Smn ht _ _ (S38 _ _ G1 G2 eG), by omega, ?_⟩
          exact tailok H8 z.1 (0 - z.2) t D8 S08 S38 (hk z (List.mem_of_getElem? hz)) ht
        · refine ⟨_, rfl, tyL (S37 _ _ G1 G2 eG), _, rfl, _, rfl, by show 2 ≤ sizeLine; omega, fun t ht => ?_⟩
          refine ⟨G, us, _, rfl, rfl, Smn ht _ _ (S37 _ _ G1 G2 eG), by omega, ?_⟩
          exact tailok H7 kd c t D7 S07 S37 kdm ht
      · refine ⟨_, rfl, tyL (S36 _ _ G1 G2 eG), _, rfl, _, rfl, by show 2 ≤ sizeLine; omega, fun t ht => ?_⟩
        refine ⟨G, us, _, rfl, rfl, Smn ht _ _ (S36 _ _ G1 G2 eG), by omega, ?_⟩
        exact tailok H6 kd c t D6 S06 S36 kdm ht
    · rintro σ H3 ⟨D3, S3, v4, v5, v6, us, ss, rfl, ls, hk, eG, hS⟩
      exact ⟨_, rfl, q H3 G us ss (by omega) hk eG hS G1 G2 D3 S3⟩
end
end Un

/-! ## B13 -/
set_option Elab.async false
set_option linter.all false
set_option maxRecDepth 100000
set_option maxHeartbeats 4000000
/-! Lists of (depth, syllable) sorted; melting and depths told of a row. -/
namespace Un
open PySem PySem.Spec PyProof.Rows L2 StX
abbrev Ky := Nat × (Str × Int)
def KeyV (H : Hp) (v : V) (x : Ky) : Prop := ∃ a b, v = V.ref a ∧ H a = some (.tup [vN x.1, .ref b]) ∧ H b = some (.tup [.str x.2.1, .int x.2.2])
theorem KeyV.mono {H H' : Hp} (t : TupS H H') {v : V} {x : Ky} (h : KeyV H v x) : KeyV H' v x := let ⟨a, b, e, h1, h2⟩ := h; ⟨a, b, e, t _ _ h1, t _ _ h2⟩
def encK (x : Ky) : PyData := .tuple [.int (x.1 : Nat), encS x.2]
theorem pair_list {α β : Type} {F : α → β → Prop} : ∀ {vs : List α} {zs : List β}, Paired F vs zs → ∃ T : List (α × β), T.map Prod.fst = vs ∧ T.map Prod.snd = zs ∧ ∀ t ∈ T, F t.1 t.2
  | _, _, .nil => ⟨[], rfl, rfl, fun t h => by cases h⟩
  | _, _, .cons r t => by
    obtain ⟨T, h1, h2, h3⟩ := pair_list t
    refine ⟨(_, _) :: T, by rw [List.map_cons, h1], by rw [List.map_cons, h2], fun t ht => ?_⟩
    rcases List.mem_cons.mp ht with h | h
    · rw [h]
      exact r
    · exact h3 t h
theorem list_pair {α β : Type} {F : α → β → Prop} : ∀ {T : List (α × β)}, (∀ t ∈ T, F t.1 t.2) → Paired F (T.map Prod.fst) (T.map Prod.snd)
  | [], _ => .nil
  | t :: T, h => .cons (h t (List.mem_cons_self ..)) (list_pair fun u hu => h u (List.mem_cons_of_mem _ hu))
theorem un_map {α β : Type} (g : α → β) : ∀ {l : List β} {T : List α}, l.Perm (T.map g) → ∃ T' : List α, T'.Perm T ∧ l = T'.map g := by
  intro l T p
  generalize hm : T.map g = m at p
  induction p generalizing T with
  | nil =>
    have : T = [] := List.map_eq_nil_iff.mp hm
    subst this
    exact ⟨[], .refl _, rfl⟩
  | @cons x l1 l2 _ ih =>
    cases T with
    | nil => cases hm
    | cons t T =>
      rw [List.map_cons] at hm
      injection hm with e1 e2
      obtain ⟨T', h1, h2⟩ := ih e2
      exact ⟨t :: T', h1.cons t, by rw [List.map_cons, e1, h2]⟩
  | @swap x y l =>
    cases T with
    | nil => cases hm
    | cons t T =>
      cases T with
      | nil => cases hm
      | cons u T =>
        rw [List.map_cons, List.map_cons] at hm
        injection hm with e1 hm
        injection hm with e2 e3
        exact ⟨u :: t :: T, .swap _ _ _, by rw [List.map_cons, List.map_cons, e1, e2, e3]⟩
  | trans _ _ ih1 ih2 =>
    obtain ⟨T1, h1, h2⟩ := ih2 hm
    obtain ⟨T2, h3, h4⟩ := ih1 h2.symm
    exact ⟨T2, h3.trans h1, h4⟩
theorem srt_keys {H : Hp} {vs : List V} {zs : List Ky} (p : Paired (KeyV H) vs zs) (hl : zs.length ≤ 100000) : ∃ bs, SrtIn H vs bs ∧ ∃ zs', zs'.Perm zs ∧ Paired (KeyV H) (srt bs) zs' ∧ zs'.Pairwise fun x y => x.1 ≤ y.1 := by
  obtain ⟨T, e1, e2, hT⟩ := pair_list p
  let g : V × Ky → V × PyData := fun t => (t.1, encK t.2)
  have esn : (T.map g).map Prod.snd = (T.map Prod.snd).map encK := by rw [List.map_map, List.map_map]; rfl
  have al : ∀ a b : Ky, PySem.W.alike (encK a) (encK b) = true := fun a b => by simp [encK, PySem.W.alike, PySem.W.alikeAll]
  refine ⟨T.map g, ⟨?_, ?_, ?_, ?_, ?_, ?_⟩, ?_⟩
  · rw [List.map_map]
    exact e1.symm
  · intro b hb
    obtain ⟨t, ht, rfl⟩ := List.mem_map.mp hb
    obtain ⟨a, b, e, h1, h2⟩ := hT t ht
    show RdV H t.1 (encK t.2)
    rw [e]
    exact .two h1 (.int _) (.two h2 (.str _) (.int _))
  · rw [esn]
    exact PySem.W.AllAlike.of al
  · rw [esn]
    exact PySem.W.Sortable.tuples fun b => ⟨_, _, rfl⟩
  · intro b hb
    obtain ⟨t, ht, rfl⟩ := List.mem_map.mp hb
    show (encK t.2).depth ≤ 8
    simp [encK, PyData.depth, PyData.depthAll]
  · rw [List.length_map]
    have := congrArg List.length e2
    rw [List.length_map] at this
    omega
  · have pm : ((T.map g).mergeSort (PySem.W.dataLe false Prod.snd)).Perm (T.map g) := List.mergeSort_perm _ _
    obtain ⟨T', pT, eT⟩ := un_map g pm
    have pw := PySem.W.sort_pairwise (PySem.W.sortLe_total (PyProof.Rows.listOrd PyProof.Rows.itemOrd) false fun b : V × PyData => PySem.W.keyToks b.2) (T.map g)
    have pw2 : (T'.map g).Pairwise fun a b => PySem.W.dataLe false Prod.snd a b = true := by
      rw [← eT]
      exact pw
    refine ⟨T'.map Prod.snd, e2 ▸ pT.map _, ?_, ?_⟩
    · have : srt (T.map g) = T'.map Prod.fst := by
        unfold srt
        rw [eT, List.map_map]
        rfl
      rw [this]
      exact list_pair fun t ht => hT t (pT.mem_iff.mp ht)
    · rw [List.pairwise_map] at pw2 ⊢
      refine pw2.imp fun {a b} h => ?_
      have h' : (!PySem.W.dataLt (encK b.2) (encK a.2)) = true := h
      unfold encK at h'
      rw [PySem.W.dataLt_pair (by simp [PySem.W.alike]) (by simp [PySem.W.alike, PySem.W.alikeAll]), eqv_int, PySem.W.dataLt_int] at h'
      apply Nat.not_lt.mp
      intro hlt
      rw [if_neg (by simp; omega)] at h'
      simp at h'
      omega
/-! melting -/
def MeltOk (ps : List (Str × Str)) (ss : List (Str × Int)) (i j : Nat) : Prop := ∃ z, ss[i]? = some z ∧ ((j = i ∧ z.2 = 0) ∨ (i < j ∧ ∃ y, ss[j]? = some y ∧ y.1 = z.1 ∧ ∀ (m : Nat) x, i < m → m < j → ss[m]? = some x → freeL ps z.1 x.1 = true))
/-- what is left behind i, without j -/
def restL (ss : List (Str × Int)) (i j : Nat) : List (Str × Int) := (ss.zipIdx.filter fun p => decide (i < p.2) && decide (p.2 ≠ j)).map Prod.fst
theorem zip_drop {α : Type} (i j : Nat) : ∀ (ss : List α) (k : Nat), i < k → j < k → ((ss.zipIdx k).filter fun p => decide (i < p.2) && decide (p.2 ≠ j)).map Prod.fst = ss
  | [], _, _, _ => rfl
  | s :: ss, k, h1, h2 => by
    have e : (decide (i < k) && decide (k ≠ j)) = true := by
      rw [decide_eq_true h1, decide_eq_true (by omega : k ≠ j)]
      rfl
    rw [List.zipIdx_cons, List.filter_cons, if_pos e, List.map_cons, zip_drop i j ss (k + 1) (by omega) (by omega)]
theorem zip_mid {α : Type} (i j : Nat) : ∀ (b : List α) (y : α) (r : List α) (k : Nat), i < k → j = k + b.length → (((b ++ y :: r).zipIdx k).filter fun p => decide (i < p.2) && decide (p.2 ≠ j)).map Prod.fst = b ++ r
  | [], y, r, k, h1, h2 => by
    have e : (decide (i < k) && decide (k ≠ j)) = false := by
      have : ¬ (k ≠ j) := by simp at h2; omega
      rw [decide_eq_false this, Bool.and_false]
    rw [List.nil_append, List.zipIdx_cons, List.filter_cons, if_neg (by rw [e]; exact Bool.false_ne_true), List.nil_append]
    exact zip_drop i j r (k + 1) (by omega) (by simp at h2; omega)
  | x :: b, y, r, k, h1, h2 => by
    rw [List.length_cons] at h2
    have e : (decide (i < k) && decide (k ≠ j)) = true := by
      rw [decide_eq_true h1, decide_eq_true (by omega : k ≠ j)]
      rfl
    rw [List.cons_append, List.zipIdx_cons, List.filter_cons, if_pos e, List.map_cons, zip_mid i j b y r (k + 1) (by omega) (by omega)]
    rfl
theorem zip_skip {α : Type} (i j : Nat) : ∀ (a t : List α) (k : Nat), k + a.length ≤ i + 1 → (((a ++ t).zipIdx k).filter fun p => decide (i < p.2) && decide (p.2 ≠ j)) = ((t.zipIdx (k + a.length)).filter fun p => decide (i < p.2) && decide (p.2 ≠ j))
  | [], t, k, _ => rfl
  | x :: a, t, k, h => by
    rw [List.length_cons] at h
    have e : (decide (i < k) && decide (k ≠ j)) = false := by
      rw [decide_eq_false (by omega), Bool.false_and]
    rw [List.cons_append, List.zipIdx_cons, List.filter_cons, if_neg (by rw [e]; exact Bool.false_ne_true), zip_skip i j a t (k + 1) (by omega), List.length_cons, show k + 1 + a.length = k + (a.length + 1) by omega]
def meltL (ss : List (Str × Int)) (i j : Nat) (z y : Str × Int) : List (Str × Int) := ss.take i ++ (if i < j then [(z.1, z.2 + y.2)] else []) ++ restL ss i j
theorem melt_step {ps : List (Str × Str)} {ss : List (Str × Int)} {i j : Nat} {z y : Str × Int} (M : MeltOk ps ss i j) (hz : ss[i]? = some z) (hy : ss[j]? = some y) : Eqv (freeL ps) ss (meltL ss i j z y) ∧ (meltL ss i j z y).length < ss.length ∧ ∀ x ∈ meltL ss i j z y, ∃ x' ∈ ss, x.1 = x'.1 := by
  obtain ⟨z', hz', M⟩ := M
  have ezz : z' = z := Option.some.inj (hz'.symm.trans hz)
  subst ezz
  have hi := (List.getElem?_eq_some_iff.mp hz).1
  have es : ss = ss.take i ++ z' :: ss.drop (i + 1) := by
    have e1 := List.drop_eq_getElem_cons hi
    have e2 : ss[i] = z' := by
      rw [List.getElem?_eq_getElem hi] at hz
      exact Option.some.inj hz
    rw [e2] at e1
    rw [← e1, List.take_append_drop]
  have lt : (ss.take i).length = i := by rw [List.length_take]; omega
  rcases M with ⟨rfl, h0⟩ | ⟨hij, y', hy', hk, hf⟩
  · have er : restL ss j j = ss.drop (j + 1) := by
      unfold restL
      have e2 : ss = (ss.take j ++ [z']) ++ ss.drop (j + 1) := by
        rw [List.append_assoc]
        exact es
      have e3 := zip_skip j j (ss.take j ++ [z']) (ss.drop (j + 1)) 0 (by rw [List.length_append, lt]; simp)
      rw [← e2] at e3
      rw [e3]
      exact zip_drop j j _ _ (by rw [List.length_append, lt]; simp) (by rw [List.length_append, lt]; simp)
    have em : meltL ss j j z' y = ss.take j ++ ss.drop (j + 1) := by
      unfold meltL
      rw [if_neg (Nat.lt_irrefl _), List.append_nil, er]
    rw [em]
    refine ⟨?_, ?_, fun x hx => ⟨x, ?_, rfl⟩⟩
    · have ez : z' = (z'.1, 0) := Prod.ext rfl h0
      rw [ez] at es
      conv => lhs; rw [es]
      exact .zero _ _ _
    · rw [List.length_append, lt, List.length_drop]
      omega
    · rcases List.mem_append.mp hx with h | h
      · exact List.mem_of_mem_take h
      · exact List.mem_of_mem_drop h
  · have eyy : y' = y := Option.some.inj (hy'.symm.trans hy)
    subst eyy
    have hj := (List.getElem?_eq_some_iff.mp hy).1
    obtain ⟨t, et⟩ : ∃ t, t = ss.drop (i + 1) := ⟨_, rfl⟩
    have htl : t.length = ss.length - (i + 1) := by rw [et, List.length_drop]
    have hty : t[j - (i + 1)]? = some y' := by
      rw [et, List.getElem?_drop, show i + 1 + (j - (i + 1)) = j by omega]
      exact hy
    have hjl : j - (i + 1) < t.length := by omega
    obtain ⟨b, eb⟩ : ∃ b, b = t.take (j - (i + 1)) := ⟨_, rfl⟩
    obtain ⟨r, er⟩ : ∃ r, r = t.drop (j - (i + 1) + 1) := ⟨_, rfl⟩
    have lb : b.length = j - (i + 1) := by rw [eb, List.length_take]; omega
    have es2 : t = b ++ y' :: r := by
      have e1 := List.drop_eq_getElem_cons hjl
      have e2 : t[j - (i + 1)] = y' := by
        rw [List.getElem?_eq_getElem hjl] at hty
        exact Option.some.inj hty
      rw [e2, ← er] at e1
      rw [eb, ← e1, List.take_append_drop]
    rw [← et, es2] at es
    have err : restL ss i j = b ++ r := by
      unfold restL
      have e2 : ss = (ss.take i ++ [z']) ++ (b ++ y' :: r) := by
        rw [List.append_assoc]
        exact es
      have e3 := zip_skip i j (ss.take i ++ [z']) (b ++ y' :: r) 0 (by rw [List.length_append, lt]; simp)
      rw [← e2] at e3
      rw [e3]
      exact zip_mid i j b y' r _ (by rw [List.length_append, lt]; simp) (by rw [List.length_append, lt]; simp; omega)
    have em : meltL ss i j z' y' = ss.take i ++ (z'.1, z'.2 + y'.2) :: b ++ r := by
      unfold meltL
      rw [if_pos hij, err]
      simp
    rw [em]
    have hfree : ∀ x ∈ b, freeL ps z'.1 x.1 = true := fun x hx => by
      obtain ⟨m, hm, e⟩ := List.getElem_of_mem hx
      have hxm : b[m]? = some x := by rw [List.getElem?_eq_getElem hm, e]
      refine hf (i + 1 + m) x (by omega) (by omega) ?_
      have : t[m]? = some x := by
        rw [es2, List.getElem?_append_left hm]
        exact hxm
      rw [et, List.getElem?_drop] at this
      exact this
    have ey : y' = (z'.1, y'.2) := Prod.ext hk rfl
    refine ⟨?_, ?_, fun x hx => ?_⟩
    · have h1 := (Eqv.melt (fr := freeL ps) (a := ss.take i) (b := b) (k := z'.1) (c := z'.2) (d := y'.2) hfree).right r
      conv => lhs; rw [es, ey]
      have e : ss.take i ++ (z'.1, z'.2) :: b ++ [(z'.1, y'.2)] ++ r = ss.take i ++ z' :: (b ++ (z'.1, y'.2) :: r) := by simp
      rw [e] at h1
      exact h1
    · have h1 := congrArg List.length es
      rw [List.length_append, List.length_cons, List.length_append, List.length_cons] at h1
      rw [List.length_append, List.length_append, List.length_cons]
      omega
    · rw [List.append_assoc] at hx
      rcases List.mem_append.mp hx with h | h
      · exact ⟨x, List.mem_of_mem_take h, rfl⟩
      · rcases List.mem_cons.mp h with h | h
        · exact ⟨z', List.mem_of_getElem? hz, by rw [h]⟩
        · refine ⟨x, ?_, rfl⟩
          rw [es]
          refine List.mem_append_right _ (List.mem_cons_of_mem _ ?_)
          rcases List.mem_append.mp h with h | h
          · exact List.mem_append_left _ h
          · exact List.mem_append_right _ (List.mem_cons_of_mem _ h)
theorem freeL_comm (ps : List (Str × Str)) (a b : Str) : freeL ps a b = freeL ps b a := Bool.or_comm _ _
end Un

/-! ## D21 -/
set_option Elab.async false
set_option linter.all false
set_option maxRecDepth 100000
set_option maxHeartbeats 4000000
namespace Un
open PySem PySem.Spec PyProof.Rows L2 StX
section
variable {P : Program} {w : World} {K : PySem.W.Frag} {mg : Str → Option Value} {base : Heap}
/-- the pairs and a row, as _law_melting and the others take them -/
structure PrRw (K : PySem.W.Frag) (H : Hp) (p a : Addr) (ps : List (Str × Str)) (xs : List V) (ss : List (Str × Int)) : Prop where
  pr : ∃ pvs, SqL K H p pvs ∧ Prs H pvs ps
  okp : ∀ c ∈ ps, okP c
  rw : H a = some (.lst xs)
  sy : Syls H xs ss
  oks : ∀ z ∈ ss, PyData.strOk z.1 = true
  few : ss.length ≤ 1000
theorem PrRw.mono {H H' : Hp} {p a : Addr} {ps : List (Str × Str)} {xs : List V} {ss : List (Str × Int)} (S : Same H H') (h : PrRw K H p a ps xs ss) : PrRw K H' p a ps xs ss := by
  obtain ⟨pvs, h1, h2⟩ := h.pr
  exact ⟨⟨pvs, SqL.mono S h1, Prs.mono (Smt S) h2⟩, h.okp, S _ _ h.rw, Syls.mono (Smt S) h.sy, h.oks, h.few⟩
/-! _law_melting -/
abbrev s__law_melting : Stmt := (top 68)
abbrev N__law_melting : List Str := ["_law_pairs", "_law_row_here", "_law_at", "_law_kind", "_law_count_here", "_law_to"]
abbrev P__law_melting : List Str := ["_law_pairs", "_law_row_here"]
theorem sc__law_melting : FnScope N__law_melting P__law_melting (defScope s__law_melting) := ⟨rfl, rfl, rfl, by decide +kernel, rfl, by decide +kernel, by decide +kernel⟩

def spMelting (K : PySem.W.Frag) : Sp := fun vs H Q _ => ∃ p a ps xs ss, vs = [.ref p, .ref a] ∧ PrRw K H p a ps xs ss ∧ (∀ H', Same H H' → Q .non H') ∧ ∀ (H' : Hp) (t : Addr) (i j : Nat), Same H H' → H' t = some (.tup [vN i, vN j]) → MeltOk ps ss i j → Q (.ref t) H'
theorem ok__law_melting (T : Txt K mg) {f : Addr} (F : FnT K "_law_melting" "_law_melting" s__law_melting f) (F__law_is_free : FnR P w K mg base CX0 1 (He.ga K "_law_is_free") (spIsFree K)) : FnR P w K mg base CX0 2 f (spMelting K) := by
  refine F.ok sc__law_melting (fun _ _ _ _ _ _ us hl => match us, hl with | [_, _], _ => rfl) (fun vs H Q E h => ?_) (fun cdv A outer s H vs Q E hr h => ?_)
  · obtain ⟨p, a, ps, xs, ss, rfl, _⟩ := h
    rfl
  · obtain ⟨p, a, ps, xs, ss, rfl, R, q1, q2⟩ := h
    refine ⟨_, (pss_cons (ps_for PassesOwn.never rfl (pi_enum rfl T.f_enumerate (pa_cons (pv 1) pa_nil)) (pg_tup (n := 2) rfl (pgs_cons (pg_name (i := 2) sc__law_melting.nd rfl (Or.inl rfl)) (pgs_cons (pg_tup (n := 2) rfl (pgs_cons (pg_name (i := 3) sc__law_melting.nd rfl (Or.inl rfl)) (pgs_cons (pg_name (i := 4) sc__law_melting.nd rfl (Or.inl rfl)) pgs_nil))) pgs_nil))) (pss_cons (ps_if (pt_cmpR op_eq (pv 4) pe_int (nomark _)) (pss_one (ps_ret (pe_tup (pa_cons (pv 2) (pa_cons (pv 2) pa_nil))))) pss_nil)
      (pss_one (ps_for PassesOwn.never rfl (pi_range2 rfl T.f_range (pa_cons (pe_op op_add (pv 2) pe_int) (pa_cons (pe_callB call_len rfl T.f_len boot_len (pa_cons (pv 1) pa_nil)) pa_nil))) (pg_name (i := 5) sc__law_melting.nd rfl (Or.inl rfl)) (pss_cons (ps_if (pt_cmpR op_eq (pe_ix ix_tup (pe_ix ix_list (pv 1) (pv 5) (fun _ _ => rfl)) pe_int (fun _ _ => rfl)) (pv 3) (nomark _)) (pss_one (ps_ret (pe_tup (pa_cons (pv 2) (pa_cons (pv 5) pa_nil))))) pss_nil)
      (pss_one (ps_if (pt_not (pt_val (pe_callR F__law_is_free (hr.mono (by decide)) rfl T.m__law_is_free T.k__law_is_free pass0 (pa_cons (pv 0) (pa_cons (pv 3) (pa_cons (pe_ix ix_tup (pe_ix ix_list (pv 1) (pv 5) (fun _ _ => rfl)) pe_int (fun _ _ => rfl)) pa_nil)))))) (pss_one ps_break) pss_nil)))))))
      (pss_one (ps_ret pe_non))), ?_⟩
    have line : sizeLine = 16777216 := sizeLine_eq
    have exs := Pr.len R.sy
    have few := R.few
    refine ⟨_, rfl, a, xs, rfl, SqL.of R.rw, ?_⟩
    refine for_it (walk_enum (K := K) (a := a) (xs := xs)) (fun i σ H' => Same H H' ∧ ∃ v2 v3 v4 v5, σ = [some (.ref p), some (.ref a), v2, v3, v4, v5])
      ⟨Same.refl _, none, none, none, none, rfl⟩ (fun i σ H' _ h => SqL.of (h.1 _ _ R.rw)) ?_ ?_
    · rintro i x σ H1 H' hi ⟨S, v2, v3, v4, v5, rfl⟩ y
      obtain ⟨b, v, z, hv, hz, ⟨qb, rfl, hqb⟩, rfl, hb, rfl⟩ := yp_enumP R.sy y
      have Sb := Smn (o := .tup [.int ((i : Nat) : Int), .ref qb]) hb
      have zm := List.mem_of_getElem? hz
      refine ⟨b, [.int (i : Nat), .ref qb], rfl, SqT.of upd_same, rfl, _, _, rfl, _, _, rfl, ?_⟩
      refine ⟨qb, [.str z.1, .int z.2], rfl, SqT.of (Sb _ _ (S _ _ hqb)), rfl, _, _, rfl, _, _, rfl, rfl, rfl, ?_⟩
      have S2 := S.trans Sb
      generalize (upd H1 b (.tup [.int ((i : Nat) : Int), .ref qb])) = H2 at *
      refine ⟨_, rfl, rfl, _, rfl, ?_⟩
      refine ite2 (fun c => ?_) (fun c => ?_)
      · have hc : z.2 = 0 := V.int.inj (of_decide_eq_true c)
        refine ⟨_, rfl, _, rfl, by show 2 ≤ sizeLine; omega, fun t ht => ?_⟩
        exact q2 _ t i i (S2.trans (Smn ht)) upd_same ⟨z, hz, .inl ⟨rfl, hc⟩⟩
      · refine ⟨_, rfl, _, _, rfl, rfl, _, rfl, _, xs.length, rfl, .inl ⟨_, SqL.of (S2 _ _ R.rw), rfl⟩, ?_⟩
        refine ⟨((i : Nat) : Int) + 1, ((xs.length : Nat) : Int), rfl, ⟨by omega, by omega, by omega, by omega⟩, ?_⟩
        refine for_it (walk_range (lo := ((i : Nat) : Int) + 1) (n := (((xs.length : Nat) : Int) - (((i : Nat) : Int) + 1)).toNat)) (fun m σ H' => Same H H' ∧ (∃ v5, σ = [some (.ref p), some (.ref a), some (vN i), some (.str z.1), some (.int z.2), v5]) ∧ ∀ (m' : Nat) x, i < m' → m' < i + 1 + m → ss[m']? = some x → freeL ps z.1 x.1 = true)
          ⟨S2, ⟨_, rfl⟩, fun m' x h1 h2 => by omega⟩ (fun _ _ _ _ _ => trivial) ?_ ?_
        · rintro m y2 σ H30 H3 hm ⟨S3, ⟨v5', rfl⟩, hf⟩ y3
          obtain ⟨rfl, rfl⟩ : H3 = H30 ∧ y2 = vN (i + 1 + m) := by
            obtain ⟨e1, e2⟩ := y3
            refine ⟨e1, e2.trans ?_⟩
            show V.int _ = V.int _
            congr 1
          have hjl : i + 1 + m < ss.length := by omega
          obtain ⟨u, hu⟩ : ∃ u, ss[i + 1 + m]? = some u := ⟨_, List.getElem?_eq_getElem hjl⟩
          obtain ⟨v, hv, qc, rfl, hqc⟩ := Pr.get2 R.sy hu
          refine ⟨_, rfl, _, rfl, a, xs, _, _, rfl, rfl, SqL.of (S3 _ _ R.rw), at_of rfl hv, qc, _, 0, .str u.1, rfl, rfl, SqT.of (S3 _ _ hqc), rfl, _, rfl, rfl, _, rfl, ?_⟩
          refine ite2 (fun c2 => ?_) (fun c2 => ?_)
          · have hk : u.1 = z.1 := V.str.inj (of_decide_eq_true c2)
            refine ⟨_, rfl, _, rfl, by show 2 ≤ sizeLine; omega, fun t ht => ?_⟩
            exact q2 _ t i (i + 1 + m) (S3.trans (Smn ht)) upd_same ⟨z, hz, .inr ⟨by omega, u, hu, hk, fun m' x h1 h2 => hf m' x h1 (by omega)⟩⟩
          · obtain ⟨pvs, p1, p2⟩ := R.pr
            refine ⟨_, rfl, _, rfl, _, rfl, _, rfl, a, xs, _, _, rfl, rfl, SqL.of (S3 _ _ R.rw), at_of rfl hv, qc, _, 0, .str u.1, rfl, rfl, SqT.of (S3 _ _ hqc), rfl, ?_⟩
            refine ⟨p, z.1, u.1, pvs, ps, rfl, SqL.mono S3 p1, Prs.mono (Smt S3) p2, ⟨R.oks z zm, R.oks u (List.mem_of_getElem? hu)⟩, R.okp, fun H4 S4 => ?_⟩
            refine ⟨_, rfl, ?_⟩
            cases cf : freeL ps z.1 u.1 with
            | true =>
              refine ⟨S3.trans S4, ⟨_, rfl⟩, fun m' x h1 h2 hx => ?_⟩
              by_cases e : m' = i + 1 + m
              · rw [e, hu] at hx
                rw [← Option.some.inj hx]
                exact cf
              · exact hf m' x h1 (by omega) hx
            | false => exact ⟨S3.trans S4, _, _, _, _, rfl⟩
        · rintro σ H3 ⟨S3, ⟨v5', rfl⟩, hf⟩
          exact ⟨S3, _, _, _, _, rfl⟩
    · rintro σ H' ⟨S, v2, v3, v4, v5, rfl⟩
      exact q1 H' S
end
end Un

/-! ## D22 -/
set_option Elab.async false
set_option linter.all false
set_option maxRecDepth 100000
set_option maxHeartbeats 4000000
namespace Un
open PySem PySem.Spec PyProof.Rows L2 StX
/-- both ways of a choice lead to what R tells -/
theorem if_to {c : Bool} {ta tb : VK → Prop} {Q : VK} (R : VK) (h : ∀ v H', R v H' → Q v H') (k : (∀ v H', R v H' → Q v H') → if c = true then ta Q else tb Q) : if c = true then ta Q else tb Q := k h
theorem dec_lt {i j : Nat} : decide (((i : Nat) : Int) < ((j : Nat) : Int)) = decide (i < j) := decide_eq_decide.mpr (by omega)
section
variable {P : Program} {w : World} {K : PySem.W.Frag} {mg : Str → Option Value} {base : Heap}
def MeltV (H : Hp) (ps : List (Str × Str)) (ss : List (Str × Int)) (v : V) : Prop := v = .non ∨ ∃ t i j, v = .ref t ∧ H t = some (.tup [vN i, vN j]) ∧ MeltOk ps ss i j
def spMeltV (K : PySem.W.Frag) : Sp := fun vs H Q _ => ∃ p a ps xs ss, vs = [.ref p, .ref a] ∧ PrRw K H p a ps xs ss ∧ ∀ (H' : Hp) (v : V), Same H H' → MeltV H' ps ss v → Q v H'
theorem melt_v {f : Addr} (F : FnR P w K mg base CX0 2 f (spMelting K)) : FnR P w K mg base CX0 2 f (spMeltV K) := F.imp fun vs H Q E ⟨p, a, ps, xs, ss, e, R, q⟩ => ⟨p, a, ps, xs, ss, e, R, fun H' S => q H' .non S (.inl rfl), fun H' t i j S et M => q H' (.ref t) S (.inr ⟨t, i, j, rfl, et, M⟩)⟩
/-! _law_short -/
abbrev s__law_short : Stmt := (top 69)
abbrev N__law_short : List Str := ["_law_pairs", "_law_row_here", "_law_pair", "_law_at", "_law_to", "_law_rest", "_law_place", "_law_one"]
abbrev P__law_short : List Str := ["_law_pairs", "_law_row_here"]
theorem sc__law_short : FnScope N__law_short P__law_short (defScope s__law_short) := ⟨rfl, rfl, rfl, by decide +kernel, rfl, by decide +kernel, by decide +kernel⟩

def spShortL (K : PySem.W.Frag) : Sp := fun vs H Q _ => ∃ p a ps xs ss, vs = [.ref p, .ref a] ∧ PrRw K H p a ps xs ss ∧ ∀ (H' : Hp) (b : Addr) (us : List V) (rs : List (Str × Int)), Same H H' → H' b = some (.lst us) → Syls H' us rs → Eqv (freeL ps) ss rs → rs.length ≤ ss.length → (∀ x ∈ rs, ∃ x' ∈ ss, x.1 = x'.1) → Q (.ref b) H'
theorem ok__law_short (T : Txt K mg) {f : Addr} (F : FnT K "_law_short" "_law_short" s__law_short f) (F__law_melting : FnR P w K mg base CX0 2 (He.ga K "_law_melting") (spMeltV K)) : FnR P w K mg base CX0 3 f (spShortL K) := by
  refine F.ok sc__law_short (fun _ _ _ _ _ _ us hl => match us, hl with | [_, _], _ => rfl) (fun vs H Q E h => ?_) (fun cdv A outer s H vs Q E hr h => ?_)
  · obtain ⟨p, a, ps, xs, ss, rfl, _⟩ := h
    rfl
  · obtain ⟨p, a, ps, xs, ss, rfl, R, q⟩ := h
    refine ⟨_, (pss_cons (ps_par (i := 1) (j := 2) rfl sc__law_short.nd rfl rfl (by decide) rfl rfl (pa_cons (pe_callTy call_list_of rfl T.f_list boot_list (pa_cons (pv 1) pa_nil)) (pa_cons (pe_callR F__law_melting (hr.mono (by decide)) rfl T.m__law_melting T.k__law_melting pass0 (pa_cons (pv 0) (pa_cons (pv 1) pa_nil))) pa_nil)) (by rfl))
      (pss_cons (ps_while PassesOwn.never (pt_cmpR op_notN (pv 2) pe_non (nomark _)) (pss_cons (ps_asg (pv 2) (pg_tup (n := 2) rfl (pgs_cons (pg_name (i := 3) sc__law_short.nd rfl (Or.inr rfl)) (pgs_cons (pg_name (i := 4) sc__law_short.nd rfl (Or.inr rfl)) pgs_nil))))
      (pss_cons (ps_set (i := 5) sc__law_short.nd rfl (Or.inl rfl) (pe_ifExp (pt_cmpR op_lt (pv 3) (pv 4) (nomark _)) (pe_lst (pa_cons (pe_tup (pa_cons (pe_ix ix_tup (pe_ix ix_list (pv 1) (pv 3) (fun _ _ => rfl)) pe_int (fun _ _ => rfl)) (pa_cons (pe_op op_add (pe_ix ix_tup (pe_ix ix_list (pv 1) (pv 3) (fun _ _ => rfl)) pe_int (fun _ _ => rfl)) (pe_ix ix_tup (pe_ix ix_list (pv 1) (pv 4) (fun _ _ => rfl)) pe_int (fun _ _ => rfl))) pa_nil))) pa_nil)) (pe_lst pa_nil)))
      (pss_cons (ps_set (i := 1) sc__law_short.nd rfl (Or.inl rfl) (pe_op op_cat (pe_op op_cat (pe_slice sl_list (pv 1) po_none (po_some (pv 3))) (pv 5)) (pe_lc rfl sc__law_short.nd (pi_enum rfl T.f_enumerate (pa_cons (pv 1) pa_nil)) (blkOk_by (own := [("_law_place", 6), ("_law_one", 7)]) (N := N__law_short) (sc := defScope s__law_short) (by decide +kernel)) (fun _ _ _ _ _ => (pg_tup' (K := K) rfl (n := 2) rfl (pgs_cons (pg_name (i := 6) sc__law_short.nd rfl (Or.inl rfl)) (pgs_cons (pg_name (i := 7) sc__law_short.nd rfl (Or.inl rfl)) pgs_nil)))) (fun _ _ _ _ _ => pts_one (PW.pt (pw_and (pt_cmpR op_gt (pv 6) (pv 3) (nomark _)) (pw_and1 (pt_cmpR op_ne (pv 6) (pv 4) (nomark _)))))) (fun _ _ _ _ _ => (pv 7)))))
      (pss_one (ps_set (i := 2) sc__law_short.nd rfl (Or.inl rfl) (pe_callR F__law_melting (hr.mono (by decide)) rfl T.m__law_melting T.k__law_melting pass0 (pa_cons (pv 0) (pa_cons (pv 1) pa_nil)))))))))
      (pss_one (ps_ret (pv 1))))), ?_⟩
    have line : sizeLine = 16777216 := sizeLine_eq
    have few := R.few
    have exs := Pr.len R.sy
    refine ⟨_, rfl, a, xs, rfl, .inl (SqL.of R.rw), fun L hL => ?_⟩
    have S1 := Smn (o := .lst xs) hL
    have eL : (upd H L (.lst xs)) L = some (.lst xs) := upd_same
    refine ⟨_, rfl, _, rfl, p, a, ps, xs, ss, rfl, R.mono S1, fun H1 pair S2 M => ?_⟩
    refine ⟨_, _, rfl, ?_⟩
    refine ⟨fun m σ H' => ∃ b pair us rs v3 v4 v5, m = rs.length ∧ σ = [some (.ref p), some (.ref b), some pair, v3, v4, v5, none, none] ∧ Same H H' ∧ H' b = some (.lst us) ∧ Syls H' us rs ∧ Eqv (freeL ps) ss rs ∧ rs.length ≤ ss.length ∧ (∀ x ∈ rs, ∃ x' ∈ ss, x.1 = x'.1) ∧ MeltV H' ps rs pair,
      ⟨_, L, pair, xs, ss, none, none, none, rfl, rfl, S1.trans S2, S2 _ _ eL, Syls.mono (Smt (S1.trans S2)) R.sy, .refl _, Nat.le_refl _, fun x hx => ⟨x, hx, rfl⟩, M⟩, ?_⟩
    rintro m σ H2 ⟨b, pair, us, rs, v3, v4, v5, rfl, rfl, S3, eb, hS, ev, hl, hk, M⟩
    refine ⟨_, rfl, rfl, _, rfl, ?_⟩
    have lus := Pr.len hS
    rcases M with rfl | ⟨t, i, j, rfl, et, M⟩
    · exact ite_f (by simp) ⟨_, rfl, q H2 b us rs S3 eb hS ev hl hk⟩
    · refine ite_t (by simp) ?_
      refine ⟨fun σ' H' => ∃ b pair us rs' v3 v4 v5, rs'.length < rs.length ∧ σ' = [some (.ref p), some (.ref b), some pair, v3, v4, v5, none, none] ∧ Same H H' ∧ H' b = some (.lst us) ∧ Syls H' us rs' ∧ Eqv (freeL ps) ss rs' ∧ rs'.length ≤ ss.length ∧ (∀ x ∈ rs', ∃ x' ∈ ss, x.1 = x'.1) ∧ MeltV H' ps rs' pair,
        fun σ' H' ⟨b', pair', us', rs', w3, w4, w5, h1, h2⟩ => ⟨_, h1, b', pair', us', rs', w3, w4, w5, rfl, h2⟩, ?_⟩
      refine ⟨_, rfl, g2 (SqT.of et) ?_⟩
      obtain ⟨z, hz, M'⟩ := M
      have hi := (List.getElem?_eq_some_iff.mp hz).1
      obtain ⟨y, hy⟩ : ∃ y, rs[j]? = some y := by
        rcases M' with ⟨rfl, _⟩ | ⟨_, y, hy, _⟩
        · exact ⟨z, hz⟩
        · exact ⟨y, hy⟩
      obtain ⟨st1, st2, st3⟩ := melt_step ⟨z, hz, M'⟩ hz hy
      have hij : i ≤ j := by
        rcases M' with ⟨rfl, _⟩ | ⟨h, _⟩
        · exact Nat.le_refl _
        · omega
      obtain ⟨vz, hvz, qz, rfl, hqz⟩ := Pr.get2 hS hz
      obtain ⟨vy, hvy, qy, rfl, hqy⟩ := Pr.get2 hS hy
      -- the rest
      refine ⟨_, rfl, _, rfl, _, _, rfl, rfl, _, rfl, ?_⟩
      refine if_to (fun v H' => ∃ r0 rv, v = .ref r0 ∧ Same H2 H' ∧ H' r0 = some (.lst rv) ∧ Syls H' rv (if i < j then [(z.1, z.2 + y.2)] else [])) ?_ (fun k => ite2 (fun c => ?_) (fun c => ?_))
      · rintro v H3 ⟨r0, rv, rfl, S4, er, hr0⟩
        have lrv : rv.length ≤ 1 := by
          have := Pr.len hr0
          rw [this]
          split
          · exact Nat.le_refl _
          · exact Nat.zero_le _
        have few2 : us.length ≤ 1000 := by omega
        have eb3 := S4 _ _ eb
        refine ⟨_, rfl, _, rfl, _, rfl, b, us, rfl, SqL.of eb3, fun a1 ha1 => ?_⟩
        rw [cutV_take (by omega)]
        have Sa := Smn (o := .lst (us.take i)) ha1
        refine ⟨_, rfl, a1, r0, _, _, rfl, rfl, upd_same, Sa _ _ er, by rw [List.length_take]; omega, fun a2 ha2 => ?_⟩
        have Sb := Sa.trans (Smn (o := .lst (us.take i ++ rv)) ha2)
        have ea2 : (upd (upd H3 a1 (.lst (us.take i))) a2 (.lst (us.take i ++ rv))) a2 = some (.lst (us.take i ++ rv)) := upd_same
        have eb4 := Sb _ _ eb3
        have S24 := S4.trans Sb
        generalize (upd (upd H3 a1 (.lst (us.take i))) a2 (.lst (us.take i ++ rv))) = H4 at *
        have hS4 := Syls.mono (Smt S24) hS
        refine ⟨_, rfl, b, us, rfl, SqL.of eb4, fun D hD => ?_⟩
        refine lcP (walk_enum (K := K) (a := b) (xs := us)) rs.zipIdx (by rw [List.length_zipIdx]; exact lus) (fun q => decide (i < q.2) && decide (q.2 ≠ j)) (fun q v H' => SylV H' v q.1) hD (by rw [List.length_zipIdx]; omega) (fun H' S' => SqL.of (S' _ _ eb4)) (fun z v H' H'' S' h => h.mono (Smt S')) (fun z v H' acc ys eD S' h => h.mono (Tup_lst eD)) ?_ ?_
        · rintro n x1 x2 H12 H13 K4 K3 hx1 S12 hA y2 k1 k2
          obtain ⟨bb, v, z', hv, hz', ⟨qb, rfl, hqb⟩, rfl, hbb, rfl⟩ := yp_enumP hS4 y2
          have ex : x1 = (z', n) := by
            rw [List.getElem?_zipIdx, hz'] at hx1
            have := Option.some.inj hx1
            rw [← this, Nat.zero_add]
          subst ex
          have Sbb := Smn (o := .tup [.int ((n : Nat) : Int), .ref qb]) hbb
          refine g2 (SqT.of upd_same) ?_
          refine ⟨rfl, _, rfl, _, rfl, _, _, rfl, rfl, _, rfl, ?_⟩
          refine ite2 (fun c => ?_) (fun c => ?_)
          · have hin : i < n := by
              rw [dec_lt] at c
              exact of_decide_eq_true c
            refine ⟨_, rfl, _, rfl, rfl, _, rfl, ?_⟩
            refine ite2 (fun c2 => ?_) (fun c2 => ?_)
            · refine ⟨_, rfl, k1 ?_ _ _ Sbb ⟨qb, rfl, Sbb _ _ (S12 _ _ hqb)⟩⟩
              show (decide (i < n) && decide (n ≠ j)) = true
              have hnj : n ≠ j := fun e => by rw [e] at c2; simp at c2
              rw [decide_eq_true hin, decide_eq_true hnj]
              rfl
            · refine k2 ?_ _ Sbb
              show (decide (i < n) && decide (n ≠ j)) = false
              have : ¬ n ≠ j := fun e => c2 (by
                have : vN n ≠ vN j := fun h => e (Int.ofNat.inj (V.int.inj h))
                rw [decide_eq_false this]
                rfl)
              rw [decide_eq_false this, Bool.and_false]
          · refine k2 ?_ _ Sbb
            show (decide (i < n) && decide (n ≠ j)) = false
            have : ¬ i < n := fun h => c (by rw [dec_lt]; exact decide_eq_true h)
            rw [decide_eq_false this, Bool.false_and]
        intro H5 acc S5 eD hacc
        have hacc' : Syls H5 acc (restL rs i j) := Pr.mapR (F := SylV H5) (g := Prod.fst) hacc
        have lrest := Pr.len hacc'
        have lr2 : (restL rs i j).length ≤ rs.length := by
          unfold restL
          rw [List.length_map]
          have := List.length_filter_le (fun q : (Str × Int) × Nat => decide (i < q.2) && decide (q.2 ≠ j)) rs.zipIdx
          rw [List.length_zipIdx] at this
          exact this
        refine ⟨a2, D, _, _, rfl, rfl, S5 _ _ ea2, eD, by rw [List.length_append, List.length_take]; omega, fun b' hb' => ?_⟩
        have S6 := S5.trans (Smn (o := .lst ((us.take i ++ rv) ++ acc)) hb')
        have S26 := S24.trans S6
        have eb6 : (upd H5 b' (.lst ((us.take i ++ rv) ++ acc))) b' = some (.lst ((us.take i ++ rv) ++ acc)) := upd_same
        have hS6 : Syls (upd H5 b' (.lst ((us.take i ++ rv) ++ acc))) ((us.take i ++ rv) ++ acc) (meltL rs i j z y) := by
          refine Pr.app (Pr.app (Pr.take i (Syls.mono (Smt S26) hS)) ?_) (Syls.mono (Smt (Smn hb')) hacc')
          exact Syls.mono (Smt (Sb.trans S6)) hr0
        generalize (upd H5 b' (.lst ((us.take i ++ rv) ++ acc))) = H6 at *
        have hk' : ∀ x ∈ meltL rs i j z y, ∃ x' ∈ ss, x.1 = x'.1 := fun x hx => by
          obtain ⟨x1, h1, e1⟩ := st3 x hx
          obtain ⟨x2, h2, e2⟩ := hk x1 h1
          exact ⟨x2, h2, e1.trans e2⟩
        have S06 := S3.trans S26
        obtain ⟨pvs, p1, p2⟩ := R.pr
        refine ⟨_, rfl, _, rfl, p, b', ps, _, meltL rs i j z y, rfl, ⟨⟨pvs, SqL.mono S06 p1, Prs.mono (Smt S06) p2⟩, R.okp, eb6, hS6, fun x hx => ?_, by omega⟩, fun H7 v S7 M7 => ?_⟩
        · obtain ⟨x', h1, e1⟩ := hk' x hx
          rw [e1]
          exact R.oks x' h1
        · exact ⟨b', v, _, meltL rs i j z y, _, _, _, st2, rfl, S06.trans S7, S7 _ _ eb6, Syls.mono (Smt S7) hS6, ev.trans st1, by omega, hk', M7⟩
      · have c' : i < j := by
          rw [dec_lt] at c
          exact of_decide_eq_true c
        refine ⟨_, rfl, _, rfl, b, us, _, _, rfl, rfl, SqL.of eb, at_of rfl hvz, qz, _, 0, .str z.1, rfl, rfl, SqT.of hqz, rfl, ?_⟩
        refine ⟨_, rfl, _, rfl, b, us, _, _, rfl, rfl, SqL.of eb, at_of rfl hvz, qz, _, 1, .int z.2, rfl, rfl, SqT.of hqz, rfl, ?_⟩
        refine ⟨_, rfl, _, rfl, b, us, _, _, rfl, rfl, SqL.of eb, at_of rfl hvy, qy, _, 1, .int y.2, rfl, rfl, SqT.of hqy, rfl, _, _, rfl, rfl, ?_⟩
        refine ⟨by show 2 ≤ sizeLine; omega, fun t1 ht1 => ?_⟩
        have St := Smn (o := .tup [.str z.1, .int (z.2 + y.2)]) ht1
        refine ⟨by show 1 ≤ sizeLine; omega, fun r0 hr0 => ?_⟩
        have Sr := Smn (o := .lst [.ref t1]) hr0
        refine k _ _ ⟨r0, [.ref t1], rfl, St.trans Sr, upd_same, ?_⟩
        rw [if_pos c']
        exact Pr.one ⟨t1, rfl, Sr _ _ upd_same⟩
      · have c' : ¬ i < j := fun h => c (by rw [dec_lt]; exact decide_eq_true h)
        refine ⟨Nat.zero_le _, fun r0 hr0 => ?_⟩
        refine k _ _ ⟨r0, [], rfl, Smn hr0, upd_same, ?_⟩
        rw [if_neg c']
        exact .nil
end
end Un

/-! ## D23 -/
set_option Elab.async false
set_option linter.all false
set_option maxRecDepth 100000
set_option maxHeartbeats 4000000
namespace Un
open PySem PySem.Spec PyProof.Rows L2 StX
theorem emp_int (ns : List Int) : PyData.eqv (.list (ns.map PyData.int)) (.list []) = decide (ns = []) := by
  have := eqvAll_map PyData.int eqv_int ns []
  unfold PyData.eqv
  rw [← this]
  rfl
theorem lay_ints (ns : List Int) : ∀ d ∈ ns.map PyData.int, d.canLay0 = true ∧ d.depth ≤ 8 := fun d hd => by
  obtain ⟨i, _, rfl⟩ := List.mem_map.mp hd
  exact lay_int i
abbrev iN (x : Nat) : Int := ((x : Nat) : Int)
theorem map_vN (l : List Nat) : l.map vN = (l.map iN).map V.int := by rw [List.map_map]; rfl
section
variable {P : Program} {w : World} {K : PySem.W.Frag} {mg : Str → Option Value} {base : Heap}
/-! _law_layers -/
abbrev s__law_layers : Stmt := (top 70)
abbrev N__law_layers : List Str := ["_law_pairs", "_law_row_here", "_law_found", "_law_at", "_law_kind", "_law_count_here", "_law_under", "_law_to"]
abbrev P__law_layers : List Str := ["_law_pairs", "_law_row_here"]
theorem sc__law_layers : FnScope N__law_layers P__law_layers (defScope s__law_layers) := ⟨rfl, rfl, rfl, by decide +kernel, rfl, by decide +kernel, by decide +kernel⟩

def spLayersL (K : PySem.W.Frag) : Sp := fun vs H Q _ => ∃ p a ps xs ss, vs = [.ref p, .ref a] ∧ PrRw K H p a ps xs ss ∧ ∀ (H' : Hp) (b : Addr) (ds : List Nat), Same H H' → H' b = some (.lst (ds.map vN)) → DepOk (freeL ps) ss ds → Q (.ref b) H'
theorem ok__law_layers (T : Txt K mg) {f : Addr} (F : FnT K "_law_layers" "_law_layers" s__law_layers f) (F__law_is_free : FnR P w K mg base CX0 1 (He.ga K "_law_is_free") (spIsFree K)) : FnR P w K mg base CX0 2 f (spLayersL K) := by
  refine F.ok sc__law_layers (fun _ _ _ _ _ _ us hl => match us, hl with | [_, _], _ => rfl) (fun vs H Q E h => ?_) (fun cdv A outer s H vs Q E hr h => ?_)
  · obtain ⟨p, a, ps, xs, ss, rfl, _⟩ := h
    rfl
  · obtain ⟨p, a, ps, xs, ss, rfl, R, q⟩ := h
    refine ⟨_, (pss_cons (ps_set (i := 2) sc__law_layers.nd rfl (Or.inr rfl) (pe_lst pa_nil))
      (pss_cons (ps_for PassesOwn.never rfl (pi_enum rfl T.f_enumerate (pa_cons (pv 1) pa_nil)) (pg_tup (n := 2) rfl (pgs_cons (pg_name (i := 3) sc__law_layers.nd rfl (Or.inl rfl)) (pgs_cons (pg_tup (n := 2) rfl (pgs_cons (pg_name (i := 4) sc__law_layers.nd rfl (Or.inr rfl)) (pgs_cons (pg_name (i := 5) sc__law_layers.nd rfl (Or.inl rfl)) pgs_nil))) pgs_nil))) (pss_cons (ps_setLc (i := 6) rfl sc__law_layers.nd rfl rfl (sw_true rfl rfl rfl (by decide +kernel)) (pi_range1 rfl T.f_range (pa_cons (pv 3) pa_nil)) (blkOk_by (own := [("_law_to", 7)]) (N := N__law_layers) (sc := defScope s__law_layers) (by decide +kernel)) (fun _ _ _ _ _ => (pg_name (i := 7) sc__law_layers.nd rfl (Or.inl rfl))) (fun _ _ _ _ _ => pts_one (pt_not (pt_val (pe_callR F__law_is_free (hr.mono (by decide)) rfl T.m__law_is_free T.k__law_is_free pass0 (pa_cons (pv 0) (pa_cons (pv 4) (pa_cons (pe_ix (ix_tup' (K := K) rfl) (pe_ix (ix_list' (K := K) rfl) (pv 1) (pv 7) (fun _ _ => rfl)) pe_int (fun _ _ => rfl)) pa_nil))))))) (fun _ _ _ _ _ => (pe_op op_add (pe_ix (ix_list' (K := K) rfl) (pv 2) (pv 7) (fun _ _ => rfl)) pe_int)))
      (pss_one (ps_expr (pe_bm PySem.F.plainAttrs_list PySem.F.slot_list_append PySem.F.type_list_append mt_append (pv 2) (pa_cons (pe_ifExp (pt_cmpR (op_neD hr.units) (pv 6) (pe_lst pa_nil) (nomark _)) (pe_callB (cr_max rfl) rfl T.f_max boot_max (pa_cons (pv 6) pa_nil)) pe_int) pa_nil))))))
      (pss_one (ps_ret (pv 2))))), ?_⟩
    have line : sizeLine = 16777216 := sizeLine_eq
    have few := R.few
    have exs := Pr.len R.sy
    obtain ⟨pvs, p1, p2⟩ := R.pr
    refine ⟨Nat.zero_le _, fun G hG => ?_⟩
    have S1 := Smn (o := .lst []) hG
    refine ⟨_, rfl, a, xs, rfl, SqL.of (S1 _ _ R.rw), ?_⟩
    refine for_it (walk_enum (K := K) (a := a) (xs := xs)) (fun i σ H' => Same H H' ∧ ∃ (v3 v4 v5 v6 : Option V) (ds : List Nat), σ = [some (.ref p), some (.ref a), some (.ref G), v3, v4, v5, v6, none] ∧ H' G = some (.lst (ds.map vN)) ∧ DepOk (freeL ps) (ss.take i) ds)
      ⟨S1, none, none, none, none, [], rfl, upd_same, .nil⟩ (fun i σ H' _ h => SqL.of (h.1 _ _ R.rw)) ?_ ?_
    · rintro i x σ H1 H' hi ⟨S, v3, v4, v5, v6, ds, rfl, eG, D⟩ y
      obtain ⟨b, v, z, hv, hz, ⟨qb, rfl, hqb⟩, rfl, hb, rfl⟩ := yp_enumP R.sy y
      have Sb := Smn (o := .tup [.int ((i : Nat) : Int), .ref qb]) hb
      have zm := List.mem_of_getElem? hz
      have hi2 : i < ss.length := (List.getElem?_eq_some_iff.mp hz).1
      have ld : ds.length = i := by
        rw [D.len, List.length_take]
        omega
      refine ⟨b, [.int (i : Nat), .ref qb], rfl, SqT.of upd_same, rfl, _, _, rfl, _, _, rfl, ?_⟩
      refine ⟨qb, [.str z.1, .int z.2], rfl, SqT.of (Sb _ _ (S _ _ hqb)), rfl, _, _, rfl, _, _, rfl, rfl, rfl, ?_⟩
      have S2 := S.trans Sb
      have eG2 := Sb _ _ eG
      generalize (upd H1 b (.tup [.int ((i : Nat) : Int), .ref qb])) = H2 at *
      -- what lies under it
      refine ⟨_, rfl, ((i : Nat) : Int), rfl, by omega, by omega, fun U hU => ?_⟩
      refine lcV (walk_range (lo := 0) (n := ((i : Nat) : Int).toNat)) (List.range i) (by rw [List.length_range]; omega) (fun m => !freeL ps z.1 (ss.getD m z).1) (fun m => V.int (iN (ds.getD m 0) + 1)) hU (by rw [List.length_range]; omega) (fun _ _ => trivial) ?_ ?_
      · rintro j m x2 H12 H13 K4 K3 hm S12 hA y2 k1 k2
        have hj : j < i := by
          have := (List.getElem?_eq_some_iff.mp hm).1
          rw [List.length_range] at this
          exact this
        have ejm : j = m := by
          rw [List.getElem?_range hj] at hm
          exact Option.some.inj hm
        subst ejm
        obtain ⟨rfl, rfl⟩ := yrng y2
        have S02 := S2.trans S12
        obtain ⟨u, hu⟩ : ∃ u, ss[j]? = some u := ⟨_, List.getElem?_eq_getElem (by omega)⟩
        obtain ⟨v, hv, qc, rfl, hqc⟩ := Pr.get2 R.sy hu
        have egd : ss.getD j z = u := by rw [List.getD_eq_getElem?_getD, hu]; rfl
        obtain ⟨dj, hdj⟩ : ∃ dj, ds[j]? = some dj := ⟨_, List.getElem?_eq_getElem (by omega)⟩
        have edd : ds.getD j 0 = dj := by rw [List.getD_eq_getElem?_getD, hdj]; rfl
        refine ⟨rfl, ?_⟩
        refine ⟨_, rfl, _, rfl, _, rfl, _, rfl, a, xs, _, _, rfl, rfl, SqL.of (S02 _ _ R.rw), at_of rfl hv, qc, _, 0, .str u.1, rfl, rfl, SqT.of (S02 _ _ hqc), rfl, ?_⟩
        refine ⟨p, z.1, u.1, pvs, ps, rfl, SqL.mono S02 p1, Prs.mono (Smt S02) p2, ⟨R.oks z zm, R.oks u (List.mem_of_getElem? hu)⟩, R.okp, fun H4 S4 => ?_⟩
        refine ⟨_, rfl, ?_⟩
        rw [egd] at k1 k2
        cases cf : freeL ps z.1 u.1 with
        | true =>
          refine k2 (by rw [cf]; rfl) _ S4
        | false =>
          refine ⟨_, rfl, _, rfl, G, _, _, vN dj, rfl, rfl, SqL.of (S4 _ _ (S12 _ _ eG2)), at_of rfl (by rw [List.getElem?_map, hdj]; rfl), _, _, rfl, rfl, ?_⟩
          rw [edd] at k1
          exact k1 (by rw [cf]; rfl) _ S4
      intro H3 S3 eU
      obtain ⟨fl, efl⟩ : ∃ fl, fl = (List.range i).filter fun m => !freeL ps z.1 (ss.getD m z).1 := ⟨_, rfl⟩
      rw [← efl] at eU
      have memfl : ∀ m, m ∈ fl ↔ m < i ∧ freeL ps z.1 (ss.getD m z).1 = false := fun m => by
        rw [efl, List.mem_filter, List.mem_range]
        simp
      have lfl : fl.length ≤ i := by
        rw [efl]
        have := List.length_filter_le (fun m => !freeL ps z.1 (ss.getD m z).1) (List.range i)
        rw [List.length_range] at this
        exact this
      obtain ⟨ns, ens⟩ : ∃ ns : List Int, ns = fl.map fun m => iN (ds.getD m 0) + 1 := ⟨_, rfl⟩
      have eU' : H3 U = some (.lst (ns.map V.int)) := by
        rw [eU, ens, List.map_map]
        rfl
      have S03 := S2.trans S3
      have eG3 := S3 _ _ eG2
      refine ⟨_, rfl, tyL eG3, ?_⟩
      refine ⟨_, rfl, Nat.zero_le _, fun e he => ?_⟩
      have Se := Smn (o := .lst []) he
      refine ⟨.list (ns.map PyData.int), .list [], .lst (SqL.of (Se _ _ eU')) (dpAll_int _), .lst (SqL.of upd_same) .nil, (shaped_of _ (lay_ints _)).2, (shaped_of [] (fun _ h => by cases h)).2, ?_⟩
      rw [emp_int]
      have eG4 := Se _ _ eG3
      have eU4 := Se _ _ eU'
      have S04 := S03.trans Se
      generalize (upd H3 e (.lst [])) = H4 at *
      refine ⟨_, rfl, ?_⟩
      refine if_to (fun v H' => ∃ d : Nat, v = vN d ∧ H' = H4 ∧ (∀ m, m ∈ fl → ds.getD m 0 < d) ∧ ∀ e, d = e + 1 → ∃ m, m ∈ fl ∧ ds.getD m 0 = e) ?_ (fun k => ite2 (fun c => ?_) (fun c => ?_))
      · rintro v H5 ⟨d, rfl, rfl, h1, h2⟩
        refine ⟨G, _, _, rfl, rfl, eG4, by rw [List.length_map]; omega, ?_⟩
        have hG0 : H G = none := hG
        refine ⟨Sup S04 hG0, _, _, _, _, ds ++ [d], rfl, by rw [upd_same, List.map_append]; rfl, ?_⟩
        rw [take_snoc hz]
        refine D.snoc (fun m x e hx hfr he' => ?_) (fun e he' => ?_)
        · have hm : m < i := by
            have := (List.getElem?_eq_some_iff.mp hx).1
            rw [List.length_take] at this
            omega
          have hx' : ss[m]? = some x := by
            rw [List.getElem?_take] at hx
            rw [if_pos hm] at hx
            exact hx
          have := h1 m ((memfl m).mpr ⟨hm, by rw [List.getD_eq_getElem?_getD, hx', freeL_comm]; exact hfr⟩)
          rw [List.getD_eq_getElem?_getD, he'] at this
          exact this
        · obtain ⟨m, hm, em⟩ := h2 e he'
          have hmi := ((memfl m).mp hm).1
          rw [← em, List.getD_eq_getElem?_getD, List.getElem?_eq_getElem (by omega)]
          exact List.getElem_mem _
      · have hne : ns ≠ [] := fun z => by simp [z] at c
        refine ⟨_, rfl, U, ns, rfl, SqL.of eU4, List.length_pos_iff.mpr hne, fun mx hmx hall => ?_⟩
        rw [ens] at hmx
        obtain ⟨m, hm, em⟩ := List.mem_map.mp hmx
        have emx : mx = iN (ds.getD m 0 + 1) := em.symm
        subst emx
        refine k _ _ ⟨ds.getD m 0 + 1, rfl, rfl, fun m' hm' => ?_, fun e he' => ⟨m, hm, by omega⟩⟩
        have := hall (iN (ds.getD m' 0) + 1) (by rw [ens]; exact List.mem_map.mpr ⟨m', hm', rfl⟩)
        show ds.getD m' 0 < ds.getD m 0 + 1
        have h3 : ((ds.getD m' 0 : Nat) : Int) + 1 ≤ ((ds.getD m 0 + 1 : Nat) : Int) := this
        omega
      · have hem : ns = [] := by simpa using c
        have hfl : fl = [] := by
          rw [ens] at hem
          exact List.map_eq_nil_iff.mp hem
        refine k _ _ ⟨0, rfl, rfl, fun m hm => ?_, fun e he' => by omega⟩
        rw [hfl] at hm
        cases hm
    · rintro σ H' ⟨S, v3, v4, v5, v6, ds, rfl, eG, D⟩
      rw [exs, List.take_length] at D
      exact ⟨_, rfl, q H' G ds S eG D⟩
end
end Un

/-! ## D24 -/
set_option Elab.async false
set_option linter.all false
set_option maxRecDepth 100000
set_option maxHeartbeats 4000000
namespace Un
open PySem PySem.Spec PyProof.Rows L2 StX
theorem depOk_keys {κ : Type} {fr : κ → κ → Bool} {ss : List (κ × Int)} {ds : List Nat} (D : DepOk fr ss ds) : KeyOk fr (ds.zip ss) := by
  have hl := D.len
  unfold KeyOk
  rw [List.pairwise_iff_getElem]
  intro i j hi hj hij
  rw [List.length_zip] at hi hj
  rw [List.getElem_zip, List.getElem_zip]
  cases c : fr ss[i].1 ss[j].1 with
  | true => exact .inl rfl
  | false => exact .inr (D.ord i j _ _ hij (List.getElem?_eq_getElem (by omega)) (List.getElem?_eq_getElem (by omega)) c _ _ (List.getElem?_eq_getElem (by omega)) (List.getElem?_eq_getElem (by omega)))
section
variable {P : Program} {w : World} {K : PySem.W.Frag} {mg : Str → Option Value} {base : Heap}
/-! _law_form -/
abbrev s__law_form : Stmt := (top 71)
abbrev N__law_form : List Str := ["_law_pairs", "_law_row_here", "_law_keys", "_law_layer", "_law_one"]
abbrev P__law_form : List Str := ["_law_pairs", "_law_row_here"]
theorem sc__law_form : FnScope N__law_form P__law_form (defScope s__law_form) := ⟨rfl, rfl, rfl, by decide +kernel, rfl, by decide +kernel, by decide +kernel⟩

def spFormL (K : PySem.W.Frag) : Sp := fun vs H Q _ => ∃ p a ps xs ss, vs = [.ref p, .ref a] ∧ PrRw K H p a ps xs ss ∧ ∀ (H' : Hp) (b : Addr) (us : List V) (rs : List (Str × Int)), Same H H' → H' b = some (.tup us) → Syls H' us rs → Eqv (freeL ps) ss rs → rs.length ≤ ss.length → (∀ x ∈ rs, ∃ x' ∈ ss, x.1 = x'.1) → Q (.ref b) H'
theorem ok__law_form (T : Txt K mg) {f : Addr} (F : FnT K "_law_form" "_law_form" s__law_form f) (F__law_short : FnR P w K mg base CX0 3 (He.ga K "_law_short") (spShortL K)) (F__law_layers : FnR P w K mg base CX0 2 (He.ga K "_law_layers") (spLayersL K)) : FnR P w K mg base CX0 4 f (spFormL K) := by
  refine F.ok sc__law_form (fun _ _ _ _ _ _ us hl => match us, hl with | [_, _], _ => rfl) (fun vs H Q E h => ?_) (fun cdv A outer s H vs Q E hr h => ?_)
  · obtain ⟨p, a, ps, xs, ss, rfl, _⟩ := h
    rfl
  · obtain ⟨p, a, ps, xs, ss, rfl, R, q⟩ := h
    refine ⟨_, (pss_cons (ps_set (i := 1) sc__law_form.nd rfl (Or.inl rfl) (pe_callR F__law_short (hr.mono (by decide)) rfl T.m__law_short T.k__law_short pass0 (pa_cons (pv 0) (pa_cons (pv 1) pa_nil))))
      (pss_cons (ps_setLc (i := 2) rfl sc__law_form.nd rfl rfl (sw_true rfl rfl rfl (by decide +kernel)) (pi_zipB rfl T.f_zip (pa_cons (pe_callR F__law_layers (hr.mono (by decide)) rfl T.m__law_layers T.k__law_layers pass0 (pa_cons (pv 0) (pa_cons (pv 1) pa_nil))) (pa_cons (pv 1) pa_nil))) (blkOk_by (own := [("_law_layer", 3), ("_law_one", 4)]) (N := N__law_form) (sc := defScope s__law_form) (by decide +kernel)) (fun _ _ _ _ _ => (pg_tup' (K := K) rfl (n := 2) rfl (pgs_cons (pg_name (i := 3) sc__law_form.nd rfl (Or.inl rfl)) (pgs_cons (pg_name (i := 4) sc__law_form.nd rfl (Or.inl rfl)) pgs_nil)))) (fun _ _ _ _ _ => pts_nil) (fun _ _ _ _ _ => (pe_tup (pa_cons (pv 3) (pa_cons (pv 4) pa_nil)))))
      (pss_one (ps_ret (pe_callTy call_tuple_of rfl T.f_tuple boot_tuple (pa_cons (pe_lc rfl sc__law_form.nd (pi_list (pe_callB (cr_srtL hr.units65) rfl T.f_sorted boot_sorted (pa_cons (pv 2) pa_nil))) (blkOk_by (own := [("_law_layer", 3), ("_law_one", 4)]) (N := N__law_form) (sc := defScope s__law_form) (by decide +kernel)) (fun _ _ _ _ _ => (pg_tup' (K := K) rfl (n := 2) rfl (pgs_cons (pg_name (i := 3) sc__law_form.nd rfl (Or.inl rfl)) (pgs_cons (pg_name (i := 4) sc__law_form.nd rfl (Or.inl rfl)) pgs_nil)))) (fun _ _ _ _ _ => pts_nil) (fun _ _ _ _ _ => (pv 4))) pa_nil)))))), ?_⟩
    have line : sizeLine = 16777216 := sizeLine_eq
    have few := R.few
    obtain ⟨pvs, p1, p2⟩ := R.pr
    refine ⟨_, rfl, _, rfl, p, a, ps, xs, ss, rfl, R, fun H1 b us rs S1 eb hU ev lr hk => ?_⟩
    have lus := Pr.len hU
    have R1 : PrRw K H1 p b ps us rs := ⟨⟨pvs, SqL.mono S1 p1, Prs.mono (Smt S1) p2⟩, R.okp, eb, hU, fun z hz => by
      obtain ⟨x', h1, e1⟩ := hk z hz
      rw [e1]
      exact R.oks x' h1, by omega⟩
    refine ⟨_, rfl, _, rfl, p, b, ps, us, rs, rfl, R1, fun H2 G ds S2 eG D => ?_⟩
    have ld := D.len
    have eb2 := S2 _ _ eb
    have hU2 := Syls.mono (Smt S2) hU
    refine ⟨_, rfl, true, true, G, b, ds.map vN, us, rfl, SqL.of eG, SqL.of eb2, fun D1 hD1 => ?_⟩
    refine lcP (walk_zipB (K := K) (k1 := true) (k2 := true) (a := G) (b := b) (xs := ds.map vN) (ys := us) (by rw [List.length_map]; omega)) (ds.zip rs) (by rw [List.length_map, List.length_zip]; omega) (fun _ => true) (fun x v H' => KeyV H' v x) hD1 (by rw [List.length_zip]; omega)
      (fun H' S' => ⟨SqL.of (S' _ _ eG), SqL.of (S' _ _ eb2)⟩) (fun z v H' H'' S' h => h.mono (Smt S')) (fun z v H' acc ys eD S' h => h.mono (Tup_lst eD)) ?_ ?_
    · rintro j x x2 H12 H13 K4 K3 hx S12 hA ⟨t, x1, y1, rfl, ht, rfl, e1, e2⟩ k1 k2
      have e1' : (ds.map vN)[j]? = some x1 := e1
      have e2' : us[j]? = some y1 := e2
      obtain ⟨z, hz, qb, rfl, hqb⟩ := Pr.get hU2 e2'
      obtain ⟨hj1, hj2⟩ := List.getElem?_eq_some_iff.mp hx
      rw [List.getElem_zip] at hj2
      rw [List.length_zip] at hj1
      have ez : x = (ds[j], z) := by
        rw [← hj2]
        have : rs[j] = z := by
          rw [List.getElem?_eq_getElem (by omega)] at hz
          exact Option.some.inj hz
        rw [this]
      have ex1 : x1 = vN ds[j] := by
        rw [List.getElem?_map, List.getElem?_eq_getElem (by omega)] at e1'
        exact (Option.some.inj e1').symm
      subst ex1 ez
      have St := Smn (o := .tup [vN ds[j], .ref qb]) ht
      refine g2 (SqT.of upd_same) ?_
      refine ⟨rfl, _, rfl, _, rfl, by show 2 ≤ sizeLine; omega, fun t2 ht2 => ?_⟩
      have St2 := St.trans (Smn (o := .tup [vN ds[j], .ref qb]) ht2)
      exact k1 rfl _ _ St2 ⟨t2, qb, rfl, upd_same, St2 _ _ (S12 _ _ hqb)⟩
    intro H3 acc S3 eD1 hacc
    rw [filter_all] at hacc
    obtain ⟨bs, hbs, zs', pz, hz', pw⟩ := srt_keys hacc (by rw [List.length_zip]; omega)
    refine ⟨_, rfl, D1, acc, bs, rfl, SqL.of eD1, hbs, fun p3 hp3 => ?_⟩
    have S4 := Smn (o := .lst (srt bs)) hp3
    have e3 : (upd H3 p3 (.lst (srt bs))) p3 = some (.lst (srt bs)) := upd_same
    have hz4 : Paired (KeyV (upd H3 p3 (.lst (srt bs)))) (srt bs) zs' := Paired.mapP hz' fun _ _ h => h.mono (Smt S4)
    generalize (upd H3 p3 (.lst (srt bs))) = H4 at *
    have lz := Pr.len hz4
    have lz2 := pz.length_eq
    rw [List.length_zip] at lz2
    refine ⟨p3, rfl, ⟨_, SqL.of e3⟩, fun D2 hD2 => ?_⟩
    refine lcP (walk_list (K := K) (a := p3) (xs := srt bs)) zs' lz (fun _ => true) (fun x v H' => SylV H' v x.2) hD2 (by omega) (fun H' S' => SqL.of (S' _ _ e3)) (fun z v H' H'' S' h => h.mono (Smt S')) (fun z v H' acc ys eD S' h => h.mono (Tup_lst eD)) ?_ ?_
    · rintro j x x2 H12 H13 K4 K3 hx S12 hA y2 k1 k2
      obtain ⟨x', hx', ⟨t, qb, rfl, h1, h2⟩, rfl⟩ := yat_pair hz4 y2
      have : x' = x := Option.some.inj (hx'.symm.trans hx)
      subst this
      refine g2 (SqT.of (S12 _ _ h1)) ?_
      exact ⟨rfl, _, rfl, k1 rfl _ _ (Same.refl _) ⟨qb, rfl, S12 _ _ h2⟩⟩
    intro H5 acc2 S5 eD2 hacc2
    rw [filter_all] at hacc2
    have hS5 : Syls H5 acc2 (zs'.map Prod.snd) := Pr.mapR (F := SylV H5) (g := Prod.snd) hacc2
    refine ⟨D2, acc2, rfl, .inl ⟨SqL.of eD2, fun o ho => ?_⟩⟩
    have So := Smn (o := .tup acc2) ho
    have S05 : Same H _ := (((S1.trans S2).trans S3).trans (S4.trans S5)).trans So
    have es : (ds.zip rs).map Prod.snd = rs := List.map_snd_zip (by omega)
    have ev2 := Eqv.sorted (freeL_comm ps) zs' (ds.zip rs) pz pw (depOk_keys D)
    rw [es] at ev2
    refine q _ o acc2 (zs'.map Prod.snd) S05 upd_same (Syls.mono (Smt So) hS5) (ev.trans ev2) (by rw [List.length_map]; omega) fun x hx => ?_
    have pm : (zs'.map Prod.snd).Perm rs := es ▸ pz.map _
    exact hk x (pm.mem_iff.mp hx)
end
end Un

/-! ## D25 -/
set_option Elab.async false
set_option linter.all false
set_option maxRecDepth 100000
set_option maxHeartbeats 4000000
namespace Un
open PySem PySem.Spec PyProof.Rows L2 StX
/-- a dict of moves, each a list -/
structure MovesAt (H : Hp) (d : Addr) (mvk : List (Key × V)) (ks : List Str) (mvs : Str → List Nat) : Prop where
  at_ : H d = some (.dK mvk)
  keys : mvk.map Prod.fst = ks.map Sum.inr
  get : ∀ k ∈ ks, ∃ l, valV mvk (.inr k) = some (.ref l) ∧ H l = some (.lst ((mvs k).map vN))
theorem MovesAt.mono {H H' : Hp} {d : Addr} {mvk : List (Key × V)} {ks : List Str} {mvs : Str → List Nat} (S : Same H H') (h : MovesAt H d mvk ks mvs) : MovesAt H' d mvk ks mvs :=
  ⟨S _ _ h.at_, h.keys, fun k hk => let ⟨l, h1, h2⟩ := h.get k hk; ⟨l, h1, S _ _ h2⟩⟩
section
variable {P : Program} {w : World} {K : PySem.W.Frag} {mg : Str → Option Value} {base : Heap}
/-! _law_led -/
abbrev s__law_led : Stmt := (top 72)
abbrev N__law_led : List Str := ["_law_moves", "_law_row_here", "_law_standing", "_law_kind", "_law_count_here", "_law_ring", "_law_here"]
abbrev P__law_led : List Str := ["_law_moves", "_law_row_here", "_law_standing"]
theorem sc__law_led : FnScope N__law_led P__law_led (defScope s__law_led) := ⟨rfl, rfl, rfl, by decide +kernel, rfl, by decide +kernel, by decide +kernel⟩

def spLed : Sp := fun vs H Q _ => ∃ (m a : Addr) (st n : Nat) (mvk : List (Key × V)) (ks : List Str) (mvs : Str → List Nat) (xs : List V) (ss : List (Str × Int)), vs = [.ref m, .ref a, vN st] ∧ MovesAt H m mvk ks mvs ∧ H a = some (.lst xs) ∧ Syls H xs ss ∧ (∀ z ∈ ss, z.1 ∈ ks) ∧ (∀ k ∈ ks, Pm n (mvs k)) ∧ n ≤ 1000 ∧ st < n ∧
  ∀ H', Same H H' → Q (vN (runL (stp n mvs) ss st)) H'
theorem ok__law_led (T : Txt K mg) {f : Addr} (F : FnT K "_law_led" "_law_led" s__law_led f) : FnR P w K mg base CX0 1 f spLed := by
  refine F.ok sc__law_led (fun _ _ _ _ _ _ us hl => match us, hl with | [_, _, _], _ => rfl) (fun vs H Q E h => ?_) (fun cdv A outer s H vs Q E hr h => ?_)
  · obtain ⟨m, a, st, n, mvk, ks, mvs, xs, ss, rfl, _⟩ := h
    rfl
  · obtain ⟨m, a, st, n, mvk, ks, mvs, xs, ss, rfl, hM, ha, hS, hk, hpm, hn, hst, q⟩ := h
    refine ⟨_, (pss_cons (ps_for PassesOwn.never rfl (pi_list (pv 1)) (pg_tup (n := 2) rfl (pgs_cons (pg_name (i := 3) sc__law_led.nd rfl (Or.inl rfl)) (pgs_cons (pg_name (i := 4) sc__law_led.nd rfl (Or.inl rfl)) pgs_nil))) (pss_one (ps_if (pt_cmp (pc_din (hu_of hr) (pv 3) (pv 0))) (pss_cons (ps_par (i := 5) (j := 6) rfl sc__law_led.nd rfl rfl (by decide) rfl rfl (pa_cons (pe_lst (pa_cons (pv 2) pa_nil)) (pa_cons (pe_ix ix_list (pe_dget (hu_of hr) (pv 0) (pv 3) (fun _ _ => rfl)) (pv 2) (fun _ _ => rfl)) pa_nil)) (by rfl))
      (pss_cons (ps_while PassesOwn.never (pt_cmpR op_ne (pv 6) (pv 2) (nomark _)) (pss_cons (ps_expr (pe_bm PySem.F.plainAttrs_list PySem.F.slot_list_append PySem.F.type_list_append mt_append (pv 5) (pa_cons (pv 6) pa_nil)))
      (pss_one (ps_set (i := 6) sc__law_led.nd rfl (Or.inl rfl) (pe_ix ix_list (pe_dget (hu_of hr) (pv 0) (pv 3) (fun _ _ => rfl)) (pv 6) (fun _ _ => rfl))))))
      (pss_one (ps_set (i := 2) sc__law_led.nd rfl (Or.inl rfl) (pe_ix ix_list (pv 5) (pe_op op_mod (pv 4) (pe_callB call_len rfl T.f_len boot_len (pa_cons (pv 5) pa_nil))) (fun _ _ => rfl)))))) pss_nil)))
      (pss_one (ps_ret (pv 2)))), ?_⟩
    have line : sizeLine = 16777216 := sizeLine_eq
    have exs := Pr.len hS
    refine ⟨_, rfl, a, rfl, ⟨_, SqL.of ha⟩, ?_⟩
    refine for_it (walk_list (K := K) (a := a) (xs := xs)) (fun i σ H' => Same H H' ∧ ∃ v3 v4 v5 v6, σ = [some (.ref m), some (.ref a), some (vN (runL (stp n mvs) (ss.take i) st)), v3, v4, v5, v6])
      ⟨Same.refl _, none, none, none, none, rfl⟩ (fun i σ H' _ p => SqL.of (p.1 _ _ ha)) ?_ ?_
    · rintro i y σ H1 H2 hi ⟨S, v3, v4, v5, v6, rfl⟩ y'
      obtain ⟨z, hz, ⟨qb, rfl, hqb⟩, rfl⟩ := yat_pair hS y'
      have zk := hk z (List.mem_of_getElem? hz)
      have P' := hpm _ zk
      have lP := P'.len
      obtain ⟨l, hl1, hl2⟩ := hM.get z.1 zk
      have hlt : runL (stp n mvs) (ss.take i) st < n := stp_lt hpm _ (fun y hy => hk y (List.mem_of_mem_take hy)) st hst
      have tk : ss.take (i + 1) = ss.take i ++ [z] := take_snoc hz
      rw [tk, runL_snoc]
      show gTup _ _ _ _ _ _ _
      generalize (runL (stp n mvs) (ss.take i) st) = f0 at *
      refine g2 (SqT.of (S _ _ hqb)) ?_
      refine ⟨_, rfl, _, rfl, m, some (.ref l), rfl, hl1 ▸ DGet.k (k := Sum.inr z.1) (S _ _ hM.at_), _, rfl, ite_t rfl ?_⟩
      refine ⟨_, rfl, by show 1 ≤ sizeLine; omega, fun r hr' => ?_⟩
      have S2 := S.trans (Smn (o := .lst [vN f0]) hr')
      have hr0 : H r = none := Same.none S hr'
      have er : (upd H2 r (.lst [vN f0])) r = some (.lst [vN f0]) := upd_same
      generalize (upd H2 r (.lst [vN f0])) = H3 at *
      refine ⟨_, rfl, _, rfl, m, .ref l, rfl, hl1 ▸ DGet.k (k := Sum.inr z.1) (S2 _ _ hM.at_), _, rfl, l, _, _, _, rfl, rfl, SqL.of (S2 _ _ hl2), at_of rfl (map_at (by omega)), ?_⟩
      refine ⟨_, _, rfl, ?_⟩
      refine ⟨fun m' σ H' => Same H H' ∧ ∃ ring x, m' = n - ring.length ∧ σ = [some (.ref m), some (.ref a), some (vN f0), some (.str z.1), some (.int z.2), some (.ref r), some (vN (app (mvs z.1) x))] ∧ H' r = some (.lst (ring.map vN)) ∧ Orb (app (mvs z.1)) n f0 ring ∧ ring[ring.length - 1]? = some x,
        ⟨n - 1, S2, [f0], f0, rfl, rfl, er, Orb.one _ hlt, rfl⟩, ?_⟩
      rintro m' σ H4 ⟨S4, ring, x, rfl, rfl, er4, O, hx⟩
      have hO := O.len
      have hpos := O.pos
      have xlt := O.lt x (List.mem_of_getElem? hx)
      refine ⟨_, rfl, _, rfl, rfl, _, rfl, ?_⟩
      have ene : (!decide (vN (app (mvs z.1) x) = vN f0)) = decide (app (mvs z.1) x ≠ f0) := by
        by_cases c : app (mvs z.1) x = f0
        · rw [c]
          simp
        · have : vN (app (mvs z.1) x) ≠ vN f0 := fun h => c (Int.ofNat.inj (V.int.inj h))
          rw [decide_eq_false this, decide_eq_true c]
          rfl
      refine ite2 (fun c => ?_) (fun c => ?_)
      · have ne : app (mvs z.1) x ≠ f0 := of_decide_eq_true (ene ▸ c)
        have O' := O.snoc P' hx ne
        refine ⟨fun σ H' => Same H H' ∧ σ = [some (.ref m), some (.ref a), some (vN f0), some (.str z.1), some (.int z.2), some (.ref r), some (vN (app (mvs z.1) (app (mvs z.1) x)))] ∧ H' r = some (.lst ((ring ++ [app (mvs z.1) x]).map vN)), fun σ' H' h => ⟨n - (ring ++ [app (mvs z.1) x]).length, ?_, h.1, _, _, rfl, h.2.1, h.2.2, O', by simp⟩, ?_⟩
        · have := O'.len
          rw [List.length_append] at this ⊢
          simp at this ⊢
          omega
        refine ⟨_, rfl, tyL er4, _, rfl, r, _, _, rfl, rfl, er4, by rw [List.length_map]; omega, ?_⟩
        have S5 : Same H _ := Sup (o := .lst (ring.map vN ++ [vN (app (mvs z.1) x)])) S4 hr0
        have lt2 := P'.lt x xlt
        refine ⟨_, rfl, _, rfl, m, .ref l, rfl, hl1 ▸ DGet.k (k := Sum.inr z.1) (S5 _ _ hM.at_), _, rfl, l, _, _, _, rfl, rfl, SqL.of (S5 _ _ hl2), at_of rfl (map_at (by omega)), ?_⟩
        exact ⟨S5, rfl, by rw [upd_same, List.map_append]; rfl⟩
      · have he : app (mvs z.1) x = f0 := by
          apply Classical.byContradiction
          intro h
          exact c (ene ▸ decide_eq_true h)
        have R := O.ring hx he
        have hp2 : (0 : Int) < (ring.length : Nat) := Int.ofNat_lt.mpr hpos
        have hact := R.act (n := n) hO O.head z.2
        have hvr : (ring.map vN)[((((0 : Nat) : Int) + z.2) % (ring.length : Nat)).toNat]? = some (vN (pw n (app (mvs z.1)) z.2 f0)) := by
          rw [List.getElem?_map, hact]
          rfl
        refine ⟨_, rfl, _, rfl, _, rfl, _, ring.length, rfl, .inl ⟨_, SqL.of er4, by rw [List.length_map]⟩, _, _, rfl, rfl, hp2, ?_⟩
        refine ⟨r, _, _, _, rfl, rfl, SqL.of er4, at_of ?_ hvr, ?_⟩
        · rw [Int.toNat_of_nonneg (Int.emod_nonneg _ (by omega))]
          show z.2 % _ = ((0 : Int) + z.2) % _
          rw [Int.zero_add]
        · exact ⟨S4, _, _, _, _, rfl⟩
    · rintro σ H' ⟨S, v3, v4, v5, v6, rfl⟩
      rw [exs, List.take_length]
      exact ⟨_, rfl, q H' S⟩
/-! _law_leads -/
abbrev s__law_leads : Stmt := (top 76)
abbrev N__law_leads : List Str := ["_law_store_here", "_law_row_here", "_law_standing"]
abbrev P__law_leads : List Str := ["_law_store_here", "_law_row_here"]
theorem sc__law_leads : FnScope N__law_leads P__law_leads (defScope s__law_leads) := ⟨rfl, rfl, rfl, by decide +kernel, rfl, by decide +kernel, by decide +kernel⟩

def leadsL (n : Nat) (mvs : Str → List Nat) (ss : List (Str × Int)) : List Nat := (List.range n).map (runL (stp n mvs) ss)
def spLeads (K : PySem.W.Frag) : Sp := fun vs H Q _ => ∃ (A : Addr → Prop) (s r n : Nat) (ks : List Str) (mvs : Str → List Nat) (ss : List (Str × Int)), vs = [.ref s, .ref r] ∧ StoreAt A K H s n ks mvs ∧ HasSyl K H r ss ∧ (∀ z ∈ ss, z.1 ∈ ks) ∧ ∀ H' p, Same H H' → H' p = some (.lst ((leadsL n mvs ss).map vN)) → Q (.ref p) H'
theorem ok__law_leads (T : Txt K mg) {f : Addr} (F : FnT K "_law_leads" "_law_leads" s__law_leads f) (F_Store___call__ : FnR P w K mg base CX0 1 (He.ma K (He.ga K "Store") "__call__") (spCall K)) : FnR P w K mg base CX0 2 f (spLeads K) := by
  refine F.ok sc__law_leads (fun _ _ _ _ _ _ us hl => match us, hl with | [_, _], _ => rfl) (fun vs H Q E h => ?_) (fun cdv A outer s H vs Q E hr h => ?_)
  · obtain ⟨A0, s, r, n, ks, mvs, ss, rfl, _⟩ := h
    rfl
  · obtain ⟨A0, s, r, n, ks, mvs, ss, rfl, hS, hR, hk, q⟩ := h
    refine ⟨_, (pss_one (ps_ret (pe_lc rfl sc__law_leads.nd (pi_range1 rfl T.f_range (pa_cons (pe_fld (pv 0) rfl) pa_nil)) (blkOk_by (own := [("_law_standing", 2)]) (N := N__law_leads) (sc := defScope s__law_leads) (by decide +kernel)) (fun _ _ _ _ _ => (pg_name (i := 2) sc__law_leads.nd rfl (Or.inl rfl))) (fun _ _ _ _ _ => pts_nil) (fun _ _ _ _ _ => (pe_callOI (pv 0) T.co_Store F_Store___call__ (hr.mono (by decide)) pass0 (pa_cons (pv 1) (pa_cons (pv 2) pa_nil))))))), ?_⟩
    obtain ⟨dx, fs, om, rg, o, kvs, rvs, h1, h2, h3⟩ := hS.ex
    have sm := hS.sm
    refine ⟨_, rfl, s, _, dx, fs, _, rfl, h1, T.cl_Store, T.na_Store_size, h2, ((n : Nat) : Int), rfl, by omega, by omega, fun D hD => ?_⟩
    refine lcV (walk_range (lo := 0) (n := ((n : Nat) : Int).toNat)) (List.range n) (by rw [List.length_range]; omega) (fun _ => true) (fun x => vN (runL (stp n mvs) ss x)) hD (by rw [List.length_range]; omega) (fun _ _ => trivial) ?_ ?_
    · rintro j x x2 H12 H13 K4 K3 hx S12 hA y2 k1 k2
      have hj : j < n := by
        have := (List.getElem?_eq_some_iff.mp hx).1
        rw [List.length_range] at this
        exact this
      have ejm : j = x := by
        rw [List.getElem?_range hj] at hx
        exact Option.some.inj hx
      subst ejm
      obtain ⟨rfl, rfl⟩ := yrng y2
      refine ⟨rfl, _, rfl, s, rfl, _, rfl, _, rfl, ⟨dx, fs, S12 _ _ h1⟩, A0, s, r, j, n, ks, mvs, ss, rfl, hS.mono S12, hR.mono S12, hk, hj, k1 rfl _ (Same.refl _)⟩
    intro H1 S1 eD
    rw [filter_all] at eD
    refine q H1 D S1 ?_
    rw [eD]
    unfold leadsL
    rw [List.map_map]
    rfl
end
end Un

/-! ## M3 -/
set_option Elab.async false
set_option linter.all false
/-! Three cells, what a deed does to their content, the places they are numbered by. -/
namespace Un
structure Cell where
  reads : List Nat
  writes : List Nat
  factors : List Nat
  more : Nat
structure CellOk (C : Cell) : Prop where
  rlt : ∀ c ∈ C.reads, c < 3
  wlt : ∀ c ∈ C.writes, c < 3
  fl : C.factors.length = 3
  dis : ∀ c ∈ C.reads, c ∉ C.writes
  rl : C.reads.length ≤ 3
  wl : C.writes.length ≤ 3
  ff : ∀ x ∈ C.factors, x < 4
  ml : C.more < 3
def tot (C : Cell) (l : List Nat) : Nat := C.more + (C.reads.map fun c => C.factors.getD c 0 * l.getD c 0).sum
def newC (C : Cell) (many : Nat) (l : List Nat) (c : Nat) : Nat := (l.getD c 0 + tot C l * (if c ∈ C.writes then 1 else 0)) % many
def contL (C : Cell) (many : Nat) (l : List Nat) : List Nat := (List.range 3).map (newC C many l)
def digL (many num : Nat) : List Nat := [num % many, num / many % many, num / many / many]
def idx (many : Nat) (l : List Nat) : Nat := l.getD 0 0 + many * (l.getD 1 0 + many * l.getD 2 0)
def Good (many : Nat) (l : List Nat) : Prop := l.length = 3 ∧ ∀ c, c < 3 → l.getD c 0 < many
theorem contL_get {C : Cell} {many : Nat} {l : List Nat} {c : Nat} (h : c < 3) : (contL C many l).getD c 0 = newC C many l c := by
  unfold contL
  rw [List.getD_eq_getElem?_getD, List.getElem?_map, List.getElem?_range h]
  rfl
theorem contL_good {C : Cell} {many : Nat} (hm : 0 < many) (l : List Nat) : Good many (contL C many l) := by
  refine ⟨by unfold contL; rw [List.length_map, List.length_range], fun c hc => ?_⟩
  rw [contL_get hc]
  exact Nat.mod_lt _ hm
theorem good_ext {many : Nat} {l m : List Nat} (hl : Good many l) (hm : Good many m) (h : ∀ c, c < 3 → l.getD c 0 = m.getD c 0) : l = m := by
  apply List.ext_getElem?
  intro i
  by_cases c : i < 3
  · have := h i c
    rw [List.getD_eq_getElem?_getD, List.getD_eq_getElem?_getD, List.getElem?_eq_getElem (by have := hl.1; omega), List.getElem?_eq_getElem (by have := hm.1; omega)] at this
    rw [List.getElem?_eq_getElem (by have := hl.1; omega), List.getElem?_eq_getElem (by have := hm.1; omega)]
    exact congrArg some this
  · rw [List.getElem?_eq_none (by have := hl.1; omega), List.getElem?_eq_none (by have := hm.1; omega)]
theorem digL_good {many num : Nat} (hm : 0 < many) (h : num < many * many * many) : Good many (digL many num) := by
  refine ⟨rfl, fun c hc => ?_⟩
  match c, hc with
  | 0, _ => exact Nat.mod_lt _ hm
  | 1, _ => exact Nat.mod_lt _ hm
  | 2, _ =>
    show num / many / many < many
    rw [Nat.div_div_eq_div_mul]
    exact Nat.div_lt_of_lt_mul (by exact h)
theorem idx_digL (many num : Nat) : idx many (digL many num) = num := by
  show num % many + many * (num / many % many + many * (num / many / many)) = num
  rw [Nat.mod_add_div, Nat.mod_add_div]
theorem good_list {many : Nat} {l : List Nat} (h : Good many l) : ∃ a b c, l = [a, b, c] ∧ a < many ∧ b < many ∧ c < many := by
  match l, h.1 with
  | [a, b, c], _ => exact ⟨a, b, c, rfl, h.2 0 (by omega), h.2 1 (by omega), h.2 2 (by omega)⟩
theorem digL_idx {many : Nat} {l : List Nat} (h : Good many l) : digL many (idx many l) = l ∧ idx many l < many * many * many := by
  obtain ⟨a, b, c, rfl, ha, hb, hc⟩ := good_list h
  show [(a + many * (b + many * c)) % many, (a + many * (b + many * c)) / many % many, (a + many * (b + many * c)) / many / many] = [a, b, c] ∧ a + many * (b + many * c) < many * many * many
  have e1 : (a + many * (b + many * c)) % many = a := by rw [Nat.add_mul_mod_self_left, Nat.mod_eq_of_lt ha]
  have e2 : (a + many * (b + many * c)) / many = b + many * c := by
    rw [Nat.add_mul_div_left _ _ (by omega), Nat.div_eq_of_lt ha, Nat.zero_add]
  have e3 : (b + many * c) % many = b := by rw [Nat.add_mul_mod_self_left, Nat.mod_eq_of_lt hb]
  have e4 : (b + many * c) / many = c := by
    rw [Nat.add_mul_div_left _ _ (by omega), Nat.div_eq_of_lt hb, Nat.zero_add]
  rw [e1, e2, e3, e4]
  refine ⟨rfl, ?_⟩
  have h1 : b + many * c < many * many := by
    have : many * c + many ≤ many * many := by
      have := Nat.mul_le_mul_left many (Nat.succ_le_of_lt hc)
      rw [Nat.mul_succ] at this
      exact this
    omega
  have h2 : many * (b + many * c) + many ≤ many * (many * many) := by
    have := Nat.mul_le_mul_left many (Nat.succ_le_of_lt h1)
    rw [Nat.mul_succ] at this
    exact this
  rw [Nat.mul_assoc]
  omega
theorem digL_inj {many a b : Nat} (h : digL many a = digL many b) : a = b := by
  rw [← idx_digL many a, h, idx_digL]
/-- tot reads only what is read -/
theorem tot_congr {C : Cell} {l m : List Nat} (h : ∀ c ∈ C.reads, l.getD c 0 = m.getD c 0) : tot C l = tot C m := by
  unfold tot
  congr 2
  exact List.map_congr_left fun c hc => by rw [h c hc]
theorem newC_same {C : Cell} {many : Nat} {l : List Nat} {c : Nat} (h : c ∉ C.writes) (hl : l.getD c 0 < many) : newC C many l c = l.getD c 0 := by
  unfold newC
  rw [if_neg h, Nat.mul_zero, Nat.add_zero, Nat.mod_eq_of_lt hl]
theorem mod_cancel {m a b t : Nat} (ha : a < m) (hb : b < m) (h : (a + t) % m = (b + t) % m) : a = b := by
  have h1 : (a + t % m) % m = (b + t % m) % m := by
    rw [Nat.add_mod_mod, Nat.add_mod_mod]
    exact h
  have ht := Nat.mod_lt t (by omega : 0 < m)
  generalize t % m = u at *
  by_cases c1 : a + u < m <;> by_cases c2 : b + u < m
  · rw [Nat.mod_eq_of_lt c1, Nat.mod_eq_of_lt c2] at h1
    omega
  · rw [Nat.mod_eq_of_lt c1, Nat.mod_eq_sub_mod (by omega), Nat.mod_eq_of_lt (by omega)] at h1
    omega
  · rw [Nat.mod_eq_of_lt c2, Nat.mod_eq_sub_mod (by omega), Nat.mod_eq_of_lt (by omega)] at h1
    omega
  · rw [Nat.mod_eq_sub_mod (by omega : m ≤ a + u), Nat.mod_eq_of_lt (by omega), Nat.mod_eq_sub_mod (by omega : m ≤ b + u), Nat.mod_eq_of_lt (by omega)] at h1
    omega
theorem contL_inj {C : Cell} (ok : CellOk C) {many : Nat} {l m : List Nat} (hl : Good many l) (hm : Good many m) (h : contL C many l = contL C many m) : l = m := by
  have key : ∀ c, c < 3 → newC C many l c = newC C many m c := fun c hc => by rw [← contL_get hc, ← contL_get hc, h]
  have out : ∀ c, c < 3 → c ∉ C.writes → l.getD c 0 = m.getD c 0 := fun c hc hw => by
    have := key c hc
    rw [newC_same hw (hl.2 c hc), newC_same hw (hm.2 c hc)] at this
    exact this
  have ht : tot C l = tot C m := tot_congr fun c hc => out c (ok.rlt c hc) (ok.dis c hc)
  refine good_ext hl hm fun c hc => ?_
  by_cases hw : c ∈ C.writes
  · have := key c hc
    unfold newC at this
    rw [if_pos hw, Nat.mul_one, Nat.mul_one, ht] at this
    exact mod_cancel (hl.2 c hc) (hm.2 c hc) this
  · exact out c hc hw
/-- neither writes what the other one reads or writes -/
def apart (A B : Cell) : Prop := (∀ c ∈ A.writes, c ∉ B.reads ∧ c ∉ B.writes) ∧ (∀ c ∈ B.writes, c ∉ A.reads ∧ c ∉ A.writes)
theorem contL_comm {A B : Cell} (oa : CellOk A) (ob : CellOk B) (ap : apart A B) {many : Nat} (hmn : 0 < many) {l : List Nat} (hl : Good many l) : contL A many (contL B many l) = contL B many (contL A many l) := by
  refine good_ext (contL_good hmn _) (contL_good hmn _) fun c hc => ?_
  rw [contL_get hc, contL_get hc]
  have tA : tot A (contL B many l) = tot A l := tot_congr fun c hr => by
    have c3 := oa.rlt c hr
    rw [contL_get c3]
    exact newC_same (fun hw => (ap.2 c hw).1 hr) (hl.2 c c3)
  have tB : tot B (contL A many l) = tot B l := tot_congr fun c hr => by
    have c3 := ob.rlt c hr
    rw [contL_get c3]
    exact newC_same (fun hw => (ap.1 c hw).1 hr) (hl.2 c c3)
  have e1 : newC A many (contL B many l) c = ((l.getD c 0 + tot B l * (if c ∈ B.writes then 1 else 0)) % many + tot A l * (if c ∈ A.writes then 1 else 0)) % many := by
    show ((contL B many l).getD c 0 + tot A (contL B many l) * _) % many = _
    rw [tA, contL_get hc]
    rfl
  have e2 : newC B many (contL A many l) c = ((l.getD c 0 + tot A l * (if c ∈ A.writes then 1 else 0)) % many + tot B l * (if c ∈ B.writes then 1 else 0)) % many := by
    show ((contL A many l).getD c 0 + tot B (contL A many l) * _) % many = _
    rw [tB, contL_get hc]
    rfl
  rw [e1, e2, Nat.mod_add_mod, Nat.mod_add_mod]
  congr 1
  omega
/-- the moves of a deed, by number -/
def mvL (C : Cell) (many : Nat) : List Nat := (List.range (many * many * many)).map fun num => idx many (contL C many (digL many num))
theorem mvL_app {C : Cell} {many num : Nat} (h : num < many * many * many) : app (mvL C many) num = idx many (contL C many (digL many num)) := by
  unfold app mvL
  rw [List.getD_eq_getElem?_getD, List.getElem?_map, List.getElem?_range h]
  rfl
theorem mvL_pm {C : Cell} (ok : CellOk C) {many : Nat} (hm : 0 < many) : Pm (many * many * many) (mvL C many) := by
  refine ⟨by unfold mvL; rw [List.length_map, List.length_range], fun s hs => ?_, fun s t hs ht e => ?_⟩
  · rw [mvL_app hs]
    exact (digL_idx (contL_good hm _)).2
  · rw [mvL_app hs, mvL_app ht] at e
    have e2 : contL C many (digL many s) = contL C many (digL many t) := by
      rw [← (digL_idx (contL_good (C := C) hm (digL many s))).1, e, (digL_idx (contL_good hm _)).1]
    exact digL_inj (contL_inj ok (digL_good hm hs) (digL_good hm ht) e2)
theorem mvL_comm {A B : Cell} (oa : CellOk A) (ob : CellOk B) (ap : apart A B) {many : Nat} (hm : 0 < many) (s : Nat) : app (mvL A many) (app (mvL B many) s) = app (mvL B many) (app (mvL A many) s) := by
  by_cases h : s < many * many * many
  · have h1 := (digL_idx (contL_good (C := B) hm (digL many s)))
    have h2 := (digL_idx (contL_good (C := A) hm (digL many s)))
    rw [mvL_app h, mvL_app h, mvL_app h1.2, mvL_app h2.2, h1.1, h2.1, contL_comm oa ob ap hm (digL_good hm h)]
  · have la : (mvL A many).length ≤ many * many * many := by unfold mvL; rw [List.length_map, List.length_range]; exact Nat.le_refl _
    have lb : (mvL B many).length ≤ many * many * many := by unfold mvL; rw [List.length_map, List.length_range]; exact Nat.le_refl _
    rw [app_out lb (by omega), app_out la (by omega), app_out lb (by omega)]
end Un

/-! ## D26 -/
set_option Elab.async false
set_option linter.all false
set_option maxRecDepth 100000
set_option maxHeartbeats 4000000
namespace Un
open PySem PySem.Spec PyProof.Rows L2 StX
theorem sum_iN : ∀ l : List Nat, (l.map iN).sum = iN l.sum
  | [] => rfl
  | x :: l => by
    rw [List.map_cons, List.sum_cons, List.sum_cons, sum_iN l]
    rfl
structure CellAt (H : Hp) (a : Addr) (C : Cell) : Prop where
  ok : CellOk C
  ex : ∃ r w f, H a = some (.tup [.ref r, .ref w, .ref f, vN C.more]) ∧ H r = some (.lst (C.reads.map vN)) ∧ H w = some (.lst (C.writes.map vN)) ∧ H f = some (.lst (C.factors.map vN))
theorem CellAt.mono {H H' : Hp} {a : Addr} {C : Cell} (S : Same H H') (h : CellAt H a C) : CellAt H' a C := by
  obtain ⟨r, w, f, h1, h2, h3, h4⟩ := h.ex
  exact ⟨h.ok, r, w, f, S _ _ h1, S _ _ h2, S _ _ h3, S _ _ h4⟩
theorem getD_at {l : List Nat} {c : Nat} (h : c < l.length) : (l.map vN)[c]? = some (vN (l.getD c 0)) := by
  rw [List.getElem?_map, List.getD_eq_getElem?_getD, List.getElem?_eq_getElem h]
  rfl
theorem getD_mem {l : List Nat} {c : Nat} (h : c < l.length) : l.getD c 0 ∈ l := by
  rw [List.getD_eq_getElem?_getD, List.getElem?_eq_getElem h]
  exact List.getElem_mem _
section
variable {P : Program} {w : World} {K : PySem.W.Frag} {mg : Str → Option Value} {base : Heap}
/-! _law_content -/
abbrev s__law_content : Stmt := (top 74)
abbrev N__law_content : List Str := ["_law_one", "_law_content_here", "_law_many", "_law_reads", "_law_writes", "_law_factors", "_law_more", "_law_total", "_law_cell"]
abbrev P__law_content : List Str := ["_law_one", "_law_content_here", "_law_many"]
theorem sc__law_content : FnScope N__law_content P__law_content (defScope s__law_content) := ⟨rfl, rfl, rfl, by decide +kernel, rfl, by decide +kernel, by decide +kernel⟩

def spContent : Sp := fun vs H Q _ => ∃ (a c many : Nat) (C : Cell) (l : List Nat), vs = [.ref a, .ref c, vN many] ∧ CellAt H a C ∧ H c = some (.tup (l.map vN)) ∧ l.length = 3 ∧ 0 < many ∧ many ≤ 3 ∧ ∀ H' p, Same H H' → H' p = some (.tup ((contL C many l).map vN)) → Q (.ref p) H'
theorem ok__law_content (T : Txt K mg) {f : Addr} (F : FnT K "_law_content" "_law_content" s__law_content f) : FnR P w K mg base CX0 1 f spContent := by
  refine F.ok sc__law_content (fun _ _ _ _ _ _ us hl => match us, hl with | [_, _, _], _ => rfl) (fun vs H Q E h => ?_) (fun cdv A outer s H vs Q E hr h => ?_)
  · obtain ⟨a, c, many, C, l, rfl, _⟩ := h
    rfl
  · obtain ⟨a, c, many, C, l, rfl, hC, hc, hl, hm0, hm3, q⟩ := h
    refine ⟨_, (pss_cons (ps_asg (pv 0) (pg_tup (n := 4) rfl (pgs_cons (pg_name (i := 3) sc__law_content.nd rfl (Or.inl rfl)) (pgs_cons (pg_name (i := 4) sc__law_content.nd rfl (Or.inr rfl)) (pgs_cons (pg_name (i := 5) sc__law_content.nd rfl (Or.inr rfl)) (pgs_cons (pg_name (i := 6) sc__law_content.nd rfl (Or.inl rfl)) pgs_nil))))))
      (pss_cons (ps_set (i := 7) sc__law_content.nd rfl (Or.inr rfl) (pe_op op_add (pv 6) (pe_callB (cr_sum rfl) rfl T.f_sum boot_sum (pa_cons (pe_lc rfl sc__law_content.nd (pi_list (pv 3)) (blkOk_by (own := [("_law_cell", 8)]) (N := N__law_content) (sc := defScope s__law_content) (by decide +kernel)) (fun _ _ _ _ _ => (pg_name (i := 8) sc__law_content.nd rfl (Or.inl rfl))) (fun _ _ _ _ _ => pts_nil) (fun _ _ _ _ _ => (pe_op op_mul (pe_ix (ix_list' (K := K) rfl) (pv 5) (pv 8) (fun _ _ => rfl)) (pe_ix (ix_tup' (K := K) rfl) (pv 1) (pv 8) (fun _ _ => rfl))))) pa_nil))))
      (pss_one (ps_ret (pe_callTy call_tuple_of rfl T.f_tuple boot_tuple (pa_cons (pe_lc rfl sc__law_content.nd (pi_range1 rfl T.f_range (pa_cons pe_int pa_nil)) (blkOk_by (own := [("_law_cell", 8)]) (N := N__law_content) (sc := defScope s__law_content) (by decide +kernel)) (fun _ _ _ _ _ => (pg_name (i := 8) sc__law_content.nd rfl (Or.inl rfl))) (fun _ _ _ _ _ => pts_nil) (fun _ _ _ _ _ => (pe_op op_mod (pe_op op_add (pe_ix (ix_tup' (K := K) rfl) (pv 1) (pv 8) (fun _ _ => rfl)) (pe_op op_mul (pv 7) (pe_callTy call_int1 rfl T.f_int boot_int (pa_cons (pe_cmpR (op_in_seq' (K := K) rfl) (pv 8) (pv 4) (by rfl)) pa_nil)))) (pv 2)))) pa_nil)))))), ?_⟩
    have line : sizeLine = 16777216 := sizeLine_eq
    obtain ⟨r, wr, fa, h1, h2, h3, h4⟩ := hC.ex
    have ok := hC.ok
    have fl := ok.fl
    have rl := ok.rl
    refine ⟨_, rfl, a, _, rfl, SqT.of h1, rfl, _, _, rfl, _, _, rfl, _, _, rfl, _, _, rfl, rfl, ?_⟩
    refine ⟨_, rfl, _, rfl, r, rfl, ⟨_, SqL.of h2⟩, fun D hD => ?_⟩
    refine lcV (walk_list (K := K) (a := r) (xs := C.reads.map vN)) C.reads (by rw [List.length_map]) (fun _ => true) (fun c => vN (C.factors.getD c 0 * l.getD c 0)) hD (by omega) (fun H' S' => SqL.of (S' _ _ h2)) ?_ ?_
    · rintro j z x2 H12 H13 K4 K3 hz S12 hA y2 k1 k2
      obtain ⟨z', hz', rfl, rfl⟩ := yat_map y2
      have : z' = z := Option.some.inj (hz'.symm.trans hz)
      subst this
      have z3 := ok.rlt z' (List.mem_of_getElem? hz)
      have f4 := ok.ff _ (getD_mem (l := C.factors) (c := z') (by omega))
      refine ⟨rfl, _, rfl, _, rfl, fa, _, _, _, rfl, rfl, SqL.of (S12 _ _ h4), at_of rfl (getD_at (by omega)), ?_⟩
      refine ⟨_, rfl, _, rfl, c, _, _, _, rfl, rfl, SqT.of (S12 _ _ hc), at_of rfl (getD_at (by omega)), ?_⟩
      refine ⟨_, _, rfl, rfl, .inl ⟨by omega, by omega⟩, ?_⟩
      exact k1 rfl _ (Same.refl _)
    intro H1 S1 eD
    rw [filter_all] at eD
    have eD' : H1 D = some (.lst (((C.reads.map fun c => C.factors.getD c 0 * l.getD c 0).map iN).map V.int)) := by
      rw [eD, List.map_map, List.map_map]
      rfl
    refine ⟨D, _, rfl, SqL.of eD', ?_⟩
    rw [sum_iN]
    refine ⟨_, _, rfl, rfl, ?_⟩
    -- the new content
    refine ⟨3, rfl, by omega, by omega, fun D2 hD2 => ?_⟩
    refine lcV (walk_range (lo := 0) (n := (3 : Int).toNat)) (List.range 3) (by rfl) (fun _ => true) (fun c => vN (newC C many l c)) hD2 (by rw [List.length_range]; omega) (fun _ _ => trivial) ?_ ?_
    · rintro j x x2 H12 H13 K4 K3 hx S12 hA y2 k1 k2
      have hj : j < 3 := by
        have := (List.getElem?_eq_some_iff.mp hx).1
        rw [List.length_range] at this
        exact this
      have ejm : j = x := by
        rw [List.getElem?_range hj] at hx
        exact Option.some.inj hx
      subst ejm
      obtain ⟨rfl, rfl⟩ := yrng y2
      have S02 := S1.trans S12
      refine ⟨rfl, _, rfl, _, rfl, c, _, _, _, rfl, rfl, SqT.of (S02 _ _ hc), at_of rfl (getD_at (by omega)), ?_⟩
      have ew : C.writes.map vN = (C.writes.map iN).map V.int := map_vN _
      refine ⟨_, rfl, _, rfl, _, rfl, wr, (C.writes.map iN).map V.int, rfl, .inl (ew ▸ SqL.of (S02 _ _ h3)), rfl, flatI _, ?_⟩
      have ein : inV (V.int ((j : Nat) : Int)) ((C.writes.map iN).map V.int) = decide (j ∈ C.writes) := by
        rw [inV_int]
        refine decide_eq_decide.mpr ⟨fun h => ?_, fun h => List.mem_map.mpr ⟨j, h, rfl⟩⟩
        obtain ⟨x, hx, e⟩ := List.mem_map.mp h
        have : x = j := Int.ofNat.inj e
        exact this ▸ hx
      refine .inr ⟨decide (j ∈ C.writes), by rw [← ein]; rfl, ?_⟩
      refine ⟨_, _, rfl, rfl, .inr ?_, ?_⟩
      · constructor <;> split <;> omega
      refine ⟨_, _, rfl, rfl, _, rfl, _, _, rfl, rfl, by omega, ?_⟩
      have ev : V.int ((iN (l.getD j 0) + (iN C.more + iN (C.reads.map fun c => C.factors.getD c 0 * l.getD c 0).sum) * (if decide (j ∈ C.writes) = true then 1 else 0)) % ((many : Nat) : Int)) = vN (newC C many l j) := by
        show V.int _ = V.int _
        congr 1
        unfold newC tot
        rw [Int.natCast_emod, Int.natCast_add, Int.natCast_mul, Int.natCast_add]
        by_cases hw : j ∈ C.writes
        · rw [if_pos (decide_eq_true hw), if_pos hw]
          rfl
        · rw [if_neg (by simpa using hw), if_neg hw]
          rfl
      have := k1 rfl _ (Same.refl _)
      rw [← ev] at this
      exact this
    intro H2 S2 eD2
    rw [filter_all] at eD2
    refine ⟨D2, _, rfl, .inl ⟨SqL.of eD2, fun p hp => ?_⟩⟩
    refine q _ p ((S1.trans S2).trans (Smn hp)) ?_
    rw [upd_same]
    unfold contL
    rw [List.map_map]
    rfl
end
end Un

/-! ## D27 -/
set_option Elab.async false
set_option linter.all false
set_option maxRecDepth 100000
set_option maxHeartbeats 4000000
namespace Un
open PySem PySem.Spec PyProof.Rows L2 StX
def encC (l : List Nat) : PyData := .tuple ((l.map iN).map PyData.int)
theorem iN_map_inj : ∀ {l m : List Nat}, l.map iN = m.map iN → l = m
  | [], [], _ => rfl
  | [], _ :: _, h => by cases h
  | _ :: _, [], h => by cases h
  | x :: l, y :: m, h => by
    rw [List.map_cons, List.map_cons] at h
    injection h with h1 h2
    rw [show x = y from Int.ofNat.inj h1, iN_map_inj h2]
theorem eqv_encC (l m : List Nat) : PyData.eqv (encC l) (encC m) = decide (l = m) := by
  have := eqvAll_map PyData.int eqv_int (l.map iN) (m.map iN)
  unfold encC PyData.eqv
  rw [this]
  exact decide_eq_decide.mpr ⟨iN_map_inj, fun h => by rw [h]⟩
theorem lay_encC (a b c : Nat) : (encC [a, b, c]).canLay0 = true ∧ (encC [a, b, c]).depth ≤ 8 := by simp [encC, PyData.canLay0, PyData.canLayAll0, PyData.depth, PyData.depthAll]
theorem dpAll_pr {K : PySem.W.Frag} {H : Hp} {α : Type} {F : V → α → Prop} (enc : α → PyData) (h : ∀ v z, F v z → Dp K H v (enc z)) : ∀ {vs : List V} {zs : List α}, Paired F vs zs → DpAll K H vs (zs.map enc)
  | _, _, .nil => .nil
  | _, _, .cons r t => .cons (h _ _ r) (dpAll_pr enc h t)
def CntV (many : Nat) (H : Hp) (v : V) (num : Nat) : Prop := ∃ a, v = V.ref a ∧ H a = some (.tup ((digL many num).map vN))
theorem CntV.mono {many : Nat} {H H' : Hp} (t : TupS H H') {v : V} {x : Nat} (h : CntV many H v x) : CntV many H' v x := let ⟨a, e, h1⟩ := h; ⟨a, e, t _ _ h1⟩
theorem dp_cnt {K : PySem.W.Frag} {H : Hp} {a : Addr} {l : List Nat} (h : H a = some (.tup (l.map vN))) : Dp K H (.ref a) (encC l) := by
  refine .tup (SqT.of h) ?_
  rw [map_vN]
  exact dpAll_int _
structure CellsAt (H : Hp) (d : Addr) (cvk : List (Key × V)) (ks : List Str) (cl : Str → Cell) : Prop where
  at_ : H d = some (.dK cvk)
  get : ∀ k ∈ ks, ∃ a, valV cvk (.inr k) = some (.ref a) ∧ CellAt H a (cl k)
theorem CellsAt.mono {H H' : Hp} {d : Addr} {cvk : List (Key × V)} {ks : List Str} {cl : Str → Cell} (S : Same H H') (h : CellsAt H d cvk ks cl) : CellsAt H' d cvk ks cl :=
  ⟨S _ _ h.at_, fun k hk => let ⟨a, h1, h2⟩ := h.get k hk; ⟨a, h1, h2.mono S⟩⟩
def mvOf (ks : List Str) (cl : Str → Cell) (many : Nat) (k : Str) : List Nat := if k ∈ ks then mvL (cl k) many else []
section
variable {P : Program} {w : World} {K : PySem.W.Frag} {mg : Str → Option Value} {base : Heap}
/-! _law_store -/
abbrev s__law_store : Stmt := (top 75)
abbrev N__law_store : List Str := ["_law_cells_here", "_law_kinds", "_law_many", "_law_contents", "_law_moves", "_law_number", "_law_kind", "_law_content_here"]
abbrev P__law_store : List Str := ["_law_cells_here", "_law_kinds", "_law_many"]
theorem sc__law_store : FnScope N__law_store P__law_store (defScope s__law_store) := ⟨rfl, rfl, rfl, by decide +kernel, rfl, by decide +kernel, by decide +kernel⟩

def spStoreL : Sp := fun vs H Q _ => ∃ (cd kk many : Nat) (cvk : List (Key × V)) (ks : List Str) (cl : Str → Cell), vs = [.ref cd, .ref kk, vN many] ∧ CellsAt H cd cvk ks cl ∧ H kk = some (.lst (ks.map V.str)) ∧ ks.Nodup ∧ ks.length ≤ 100 ∧ 0 < many ∧ many ≤ 3 ∧
  ∀ H' d mvk, Same H H' → MovesAt H' d mvk ks (mvOf ks cl many) → (∀ k ∈ ks, ∀ l, valV mvk (.inr k) = some (.ref l) → H l = none) → Q (.ref d) H'
theorem ok__law_store (T : Txt K mg) {f : Addr} (F : FnT K "_law_store" "_law_store" s__law_store f) (F__law_content : FnR P w K mg base CX0 1 (He.ga K "_law_content") spContent) : FnR P w K mg base CX0 2 f spStoreL := by
  refine F.ok sc__law_store (fun _ _ _ _ _ _ us hl => match us, hl with | [_, _, _], _ => rfl) (fun vs H Q E h => ?_) (fun cdv A outer s H vs Q E hr h => ?_)
  · obtain ⟨cd, kk, many, cvk, ks, cl, rfl, _⟩ := h
    rfl
  · obtain ⟨cd, kk, many, cvk, ks, cl, rfl, hC, hkk, nd, hl, hm0, hm3, q⟩ := h
    refine ⟨_, (pss_cons (ps_asg (pe_tup (pa_cons (pe_lst pa_nil) (pa_cons pe_dnewK pa_nil))) (pg_tup (n := 2) rfl (pgs_cons (pg_name (i := 3) sc__law_store.nd rfl (Or.inr rfl)) (pgs_cons (pg_name (i := 4) sc__law_store.nd rfl (Or.inl rfl)) pgs_nil))))
      (pss_cons (ps_for PassesOwn.never rfl (pi_range1 rfl T.f_range (pa_cons (pe_op op_mul (pe_op op_mul (pv 2) (pv 2)) (pv 2)) pa_nil)) (pg_name (i := 5) sc__law_store.nd rfl (Or.inl rfl)) (pss_one (ps_expr (pe_bm PySem.F.plainAttrs_list PySem.F.slot_list_append PySem.F.type_list_append mt_append (pv 3) (pa_cons (pe_tup (pa_cons (pe_op op_mod (pv 5) (pv 2)) (pa_cons (pe_op op_mod (pe_op op_fdiv (pv 5) (pv 2)) (pv 2)) (pa_cons (pe_op op_fdiv (pe_op op_fdiv (pv 5) (pv 2)) (pv 2)) pa_nil)))) pa_nil)))))
      (pss_cons (ps_for PassesOwn.never rfl (pi_list (pv 1)) (pg_name (i := 6) sc__law_store.nd rfl (Or.inr rfl)) (pss_one (ps_dput (hu_of hr) (pv 4) (pv 6) (pe_lc rfl sc__law_store.nd (pi_list (pv 3)) (blkOk_by (own := [("_law_content_here", 7)]) (N := N__law_store) (sc := defScope s__law_store) (by decide +kernel)) (fun _ _ _ _ _ => (pg_name (i := 7) sc__law_store.nd rfl (Or.inl rfl))) (fun _ _ _ _ _ => pts_nil) (fun _ _ _ _ _ => (tbmK (K := K) rfl (pe_bm PySem.F.plainAttrs_list PySem.F.slot_list_index PySem.F.type_list_index (mt_indexD' (K := K) rfl hr.units65) (pv 3) (pa_cons (pe_callR F__law_content (hr.mono (by decide)) rfl T.m__law_content T.k__law_content pass0 (pa_cons (pe_dget (hu_of hr) (pv 0) (pv 6) (fun _ _ => rfl)) (pa_cons (pv 7) (pa_cons (pv 2) pa_nil)))) pa_nil))))) rfl)))
      (pss_one (ps_ret (pv 4)))))), ?_⟩
    have line : sizeLine = 16777216 := sizeLine_eq
    have hN : many * many * many ≤ 27 := by
      have h1 := Nat.mul_le_mul hm3 hm3
      have h2 := Nat.mul_le_mul h1 hm3
      omega
    refine ⟨Nat.zero_le _, fun G hG => fun M hM => ⟨by show 2 ≤ sizeLine; omega, fun t ht => ?_⟩⟩
    have S1 := Smn (o := .lst []) hG
    have S2 := S1.trans (Smn (o := .dK []) hM)
    have S3 := S2.trans (Smn (o := .tup [.ref G, .ref M]) ht)
    have hM0 := Same.none S1 hM
    have eG3 : (upd (upd (upd H G (.lst [])) M (.dK [])) t (.tup [.ref G, .ref M])) G = some (.lst []) := Smn ht _ _ (Smn hM _ _ upd_same)
    have eM3 : (upd (upd (upd H G (.lst [])) M (.dK [])) t (.tup [.ref G, .ref M])) M = some (.dK []) := Smn ht _ _ upd_same
    refine g2 (SqT.of upd_same) ?_
    generalize (upd (upd (upd H G (.lst [])) M (.dK [])) t (.tup [.ref G, .ref M])) = H3 at *
    have nGM : G ≠ M := ne_of eG3 eM3 (fun z => nomatch z)
    refine ⟨_, rfl, _, rfl, _, _, rfl, rfl, .inl ⟨by omega, by omega⟩, _, rfl, _, _, rfl, rfl, .inr ⟨by omega, by omega⟩, ?_⟩
    refine ⟨((many * many * many : Nat) : Int), by rw [Int.natCast_mul, Int.natCast_mul], by omega, by omega, ?_⟩
    refine for_it (walk_range (lo := 0) (n := ((many * many * many : Nat) : Int).toNat)) (fun i σ H' => Same H H' ∧ H' M = some (.dK []) ∧ ∃ (v5 : Option V) (cvs : List V), σ = [some (.ref cd), some (.ref kk), some (vN many), some (.ref G), some (.ref M), v5, none, none] ∧ H' G = some (.lst cvs) ∧ Paired (CntV many H') cvs (List.range i))
      ⟨S3, eM3, none, [], rfl, eG3, .nil⟩ (fun _ _ _ _ _ => trivial) ?_ ?_
    · rintro i y σ H40 H4 hi ⟨S4, eM4, v5, cvs, rfl, eG4, hP⟩ y'
      obtain ⟨rfl, rfl⟩ := yrng y'
      have lc := Pr.len hP
      rw [List.length_range] at lc
      refine ⟨_, rfl, tyL eG4, _, rfl, _, rfl, _, _, rfl, rfl, by omega, ?_⟩
      refine ⟨_, rfl, _, rfl, _, _, rfl, rfl, ⟨by omega, by omega⟩, _, rfl, _, _, rfl, rfl, by omega, ?_⟩
      refine ⟨_, rfl, _, rfl, _, _, rfl, rfl, ⟨by omega, by omega⟩, _, rfl, _, _, rfl, rfl, ⟨by omega, by omega⟩, ?_⟩
      refine ⟨by show 3 ≤ sizeLine; omega, fun a ha => ?_⟩
      have Sa := Smn (o := .tup ((digL many i).map vN)) ha
      have ea : (upd H4 a (.tup ((digL many i).map vN))) a = some (.tup ((digL many i).map vN)) := upd_same
      refine ⟨G, cvs, _, rfl, rfl, Sa _ _ eG4, by omega, ?_⟩
      show Same H (upd (upd H4 a (.tup ((digL many i).map vN))) G (.lst (cvs ++ [.ref a]))) ∧ _
      have tG := Tup_lst (ys := cvs ++ [.ref a]) (Sa _ _ eG4)
      refine ⟨Sup (S4.trans Sa) hG, by rw [upd_ne nGM.symm]; exact Sa _ _ eM4, _, cvs ++ [.ref a], rfl, upd_same, ?_⟩
      rw [List.range_succ]
      exact Pr.app (Paired.mapP hP fun _ _ h => (h.mono (Smt Sa)).mono tG) (Pr.one ⟨a, rfl, tG _ _ ea⟩)
    · rintro σ H4 ⟨S4, eM4, v5, cvs, rfl, eG4, hP⟩
      rw [show ((many * many * many : Nat) : Int).toNat = many * many * many by omega] at hP
      have lc := Pr.len hP
      rw [List.length_range] at lc
      refine ⟨_, rfl, kk, rfl, ⟨_, SqL.of (S4 _ _ hkk)⟩, ?_⟩
      refine for_it (walk_list (K := K) (a := kk) (xs := ks.map V.str)) (fun i σ H' => Same H H' ∧ TupS H4 H' ∧ H' G = some (.lst cvs) ∧ ∃ (v5 v6 : Option V) (mvk : List (Key × V)), σ = [some (.ref cd), some (.ref kk), some (vN many), some (.ref G), some (.ref M), v5, v6, none] ∧ H' M = some (.dK mvk) ∧ mvk.map Prod.fst = (ks.take i).map Sum.inr ∧
          ∀ k ∈ ks.take i, ∃ l, valV mvk (.inr k) = some (.ref l) ∧ H' l = some (.lst ((mvOf ks cl many k).map vN)) ∧ H l = none)
        ⟨S4, TupS.refl _, eG4, v5, none, [], rfl, eM4, rfl, fun k h => by cases h⟩ (fun i σ H' _ p => SqL.of (p.1 _ _ hkk)) ?_ ?_
      · rintro i y σ H50 H5 hi ⟨S5, T5, eG5, v5', v6, mvk, rfl, eM5, hkeys, hget⟩ y'
        obtain ⟨k, hk, rfl, rfl⟩ := yat_map y'
        have km := List.mem_of_getElem? hk
        obtain ⟨a, ha1, ha2⟩ := hC.get k km
        have hok := ha2.ok
        have tk : ks.take (i + 1) = ks.take i ++ [k] := take_snoc hk
        have hP5 : Paired (CntV many H5) cvs (List.range (many * many * many)) := Paired.mapP hP fun _ _ h => h.mono T5
        refine ⟨_, rfl, G, rfl, ⟨_, SqL.of eG5⟩, fun D hD => ?_⟩
        have cv : ∀ H', Same H5 H' → DpAll K H' cvs ((List.range (many * many * many)).map fun num => encC (digL many num)) := fun H' S' => dpAll_pr (fun num => encC (digL many num)) (fun v z ⟨b, e, h⟩ => by rw [e]; exact dp_cnt h) (Paired.mapP hP5 fun _ _ h => h.mono (Smt S'))
        refine lcV (walk_list (K := K) (a := G) (xs := cvs)) (List.range (many * many * many)) (by rw [List.length_range]; exact lc) (fun _ => true) (fun num => vN (idx many (contL (cl k) many (digL many num)))) hD (by rw [List.length_range]; omega) (fun H' S' => SqL.of (S' _ _ eG5)) ?_ ?_
        · rintro j x x2 H12 H13 K4 K3 hx S12 hA y2 k1 k2
          obtain ⟨x', hx', ⟨b, rfl, hb⟩, rfl⟩ := yat_pair hP5 y2
          have : x' = x := Option.some.inj (hx'.symm.trans hx)
          subst this
          have hj : x' < many * many * many := List.mem_range.mp (List.mem_of_getElem? hx)
          have S02 := S5.trans S12
          refine ⟨rfl, _, rfl, tyL (S12 _ _ eG5), ?_⟩
          refine ⟨_, rfl, _, rfl, cd, .ref a, rfl, ha1 ▸ DGet.k (k := Sum.inr k) (S02 _ _ hC.at_), _, rfl, _, rfl, ?_⟩
          refine ⟨a, b, many, cl k, digL many x', rfl, ha2.mono S02, S12 _ _ hb, rfl, hm0, hm3, fun H6 p S6 ep => ?_⟩
          have good := contL_good (C := cl k) hm0 (digL many x')
          obtain ⟨di1, di2⟩ := digL_idx good
          refine ⟨G, .ref p, encC (contL (cl k) many (digL many x')), (List.range (many * many * many)).map (fun num => encC (digL many num)), idx many (contL (cl k) many (digL many x')), encC (contL (cl k) many (digL many x')), rfl, rfl, ?_, dp_cnt ep, ?_, ?_, ?_, ?_, ?_, ?_⟩
          · exact .lst (SqL.of (S6 _ _ (S12 _ _ eG5))) (cv _ (S12.trans S6))
          · refine (shaped_of _ fun d hd => ?_).2
            obtain ⟨num, _, rfl⟩ := List.mem_map.mp hd
            exact lay_encC _ _ _
          · exact (shaped_of _ (lay_ints _)).1
          · rw [List.getElem?_map, List.getElem?_range di2]
            show some (encC (digL many _)) = _
            rw [di1]
          · rw [eqv_encC]
            exact decide_eq_true rfl
          · intro m z' hm hz'
            have hmN : m < many * many * many := Nat.lt_trans hm di2
            rw [List.getElem?_map, List.getElem?_range hmN] at hz'
            have ez : encC (digL many m) = z' := Option.some.inj hz'
            rw [← ez, eqv_encC]
            refine decide_eq_false fun e => ?_
            rw [← di1] at e
            have := digL_inj e
            omega
          · exact k1 rfl _ S6
        intro H6 S6 eD
        rw [filter_all] at eD
        have eD' : H6 D = some (.lst ((mvOf ks cl many k).map vN)) := by
          rw [eD]
          unfold mvOf mvL
          rw [if_pos km, List.map_map]
          rfl
        have hnew : valV mvk (Sum.inr k) = none := by
          cases e : valV mvk (Sum.inr k) with
          | none => rfl
          | some v =>
            have h1 := valV_in e
            have h2 : Sum.inr k ∈ (ks.take i).map (Sum.inr : Str → Key) := hkeys ▸ h1
            obtain ⟨k', hk', e'⟩ := List.mem_map.mp h2
            have e'' : k' = k := Sum.inr.inj e'
            subst e''
            obtain ⟨j, hj, ej⟩ := List.getElem_of_mem hk'
            rw [List.length_take] at hj
            rw [List.getElem_take] at ej
            obtain ⟨hi2, ei⟩ := List.getElem?_eq_some_iff.mp hk
            have := (List.getElem_inj nd).mp (ej.trans ei.symm)
            omega
        have eM6 := S6 _ _ eM5
        have lmv : mvk.length ≤ i := by
          have := congrArg List.length hkeys
          rw [List.length_map, List.length_map, List.length_take] at this
          omega
        have hik : i < ks.length := by simpa using hi
        refine ⟨_, rfl, _, rfl, M, _, rfl, DPut.k (k := Sum.inr k) eM6 (by omega), ?_⟩
        have td := Tup_dK (u := .dK (putK mvk (Sum.inr k) (.ref D))) eM6
        refine ⟨Sup (S5.trans S6) hM0, fun c us e => td _ _ (S6 _ _ (T5 _ _ e)), by rw [upd_ne nGM]; exact S6 _ _ eG5, _, _, putK mvk (Sum.inr k) (.ref D), rfl, upd_same, ?_, fun k' hk' => ?_⟩
        · rw [putK_new _ hnew, List.map_append, hkeys, tk, List.map_append]
          rfl
        · rw [valV_put]
          by_cases c : (Sum.inr k' : Key) = Sum.inr k
          · rw [if_pos c]
            have : k' = k := Sum.inr.inj c
            subst this
            exact ⟨D, rfl, by rw [upd_ne (ne_of eD' eM6 (fun z => nomatch z))]; exact eD', Same.none S5 hD⟩
          · rw [if_neg c]
            rw [tk] at hk'
            rcases List.mem_append.mp hk' with h | h
            · obtain ⟨l, h1, h2, h4⟩ := hget k' h
              have h3 := S6 _ _ h2
              exact ⟨l, h1, by rw [upd_ne (ne_of h3 eM6 (fun z => nomatch z))]; exact h3, h4⟩
            · exact absurd (by rw [List.mem_singleton.mp h]) c
      · rintro σ H5 ⟨S5, T5, eG5, v5', v6, mvk, rfl, eM5, hkeys, hget⟩
        rw [List.length_map, List.take_length] at hkeys hget
        refine ⟨_, rfl, q H5 M mvk S5 ⟨eM5, hkeys, fun k hk => let ⟨l, h1, h2, _⟩ := hget k hk; ⟨l, h1, h2⟩⟩ fun k hk l hl => ?_⟩
        obtain ⟨l', h1, _, h3⟩ := hget k hk
        rw [hl] at h1
        injection h1 with h1
        injection h1 with h1
        rw [h1]
        exact h3
end
end Un

/-! ## D28 -/
set_option Elab.async false
set_option linter.all false
set_option maxRecDepth 100000
set_option maxHeartbeats 4000000
namespace Un
open PySem PySem.Spec PyProof.Rows L2 StX
/-- the heap without the deal's two lists -/
def msk (d l : Addr) (H : Hp) : Hp := fun b => if b = d ∨ b = l then none else H b
theorem msk_of {d l a : Addr} {H : Hp} {u : HO} (n1 : a ≠ d) (n2 : a ≠ l) (h : H a = some u) : msk d l H a = some u := by
  unfold msk
  rw [if_neg (fun z => z.elim n1 n2)]
  exact h
theorem msk_same (d l : Addr) (H : Hp) : Same (msk d l H) H := fun b u e => by
  unfold msk at e
  split at e
  · cases e
  · exact e
theorem SameD.msk {d l : Addr} {H H' : Hp} (s : SameD d l H H') : Same (msk d l H) (msk d l H') := fun b u e => by
  unfold Un.msk at e ⊢
  split at e
  · cases e
  · rename_i n
    rw [if_neg n]
    exact s b u (fun z => n (.inl z)) (fun z => n (.inr z)) e
theorem msk_ne {d l a : Addr} {H : Hp} {u : HO} (h : msk d l H a = some u) : a ≠ d ∧ a ≠ l := by
  unfold msk at h
  split at h
  · cases h
  · rename_i n
    exact ⟨fun z => n (.inl z), fun z => n (.inr z)⟩
section
variable {P : Program} {w : World} {K : PySem.W.Frag} {mg : Str → Option Value} {base : Heap}
/-! _law_cells -/
abbrev s__law_cells : Stmt := (top 73)
abbrev N__law_cells : List Str := ["_law_deal_here", "_law_kinds", "_law_found", "_law_kind", "_law_writes", "_law_reads", "_law_cell"]
abbrev P__law_cells : List Str := ["_law_deal_here", "_law_kinds"]
theorem sc__law_cells : FnScope N__law_cells P__law_cells (defScope s__law_cells) := ⟨rfl, rfl, rfl, by decide +kernel, rfl, by decide +kernel, by decide +kernel⟩

def spCellsL : Sp := fun vs H Q _ => ∃ (d l kk : Addr) (ks : List Str), vs = [.ref d, .ref kk] ∧ DealAt H d l ∧ kk ≠ d ∧ kk ≠ l ∧ H kk = some (.lst (ks.map V.str)) ∧ ks.length ≤ 100 ∧
  ∀ H' cd cvk cl, DealAt H' d l → SameD d l H H' → CellsAt (msk d l H') cd cvk ks cl → Q (.ref cd) H'
theorem ok__law_cells (T : Txt K mg) {f : Addr} (F : FnT K "_law_cells" "_law_cells" s__law_cells f) (F__law_draw : FnR P w K mg base CX0 1 (He.ga K "_law_draw") spDraw) : FnR P w K mg base CX0 2 f spCellsL := by
  refine F.ok sc__law_cells (fun _ _ _ _ _ _ us hl => match us, hl with | [_, _], _ => rfl) (fun vs H Q E h => ?_) (fun cdv A outer s H vs Q E hr h => ?_)
  · obtain ⟨d, l, kk, ks, rfl, _⟩ := h
    rfl
  · obtain ⟨d, l, kk, ks, rfl, hD, k1, k2, hkk, hl, q⟩ := h
    refine ⟨_, (pss_cons (ps_set (i := 2) sc__law_cells.nd rfl (Or.inl rfl) pe_dnewK)
      (pss_cons (ps_for PassesOwn.never rfl (pi_list (pv 1)) (pg_name (i := 3) sc__law_cells.nd rfl (Or.inl rfl)) (pss_cons (ps_set (i := 4) sc__law_cells.nd rfl (Or.inr rfl) (pe_lc rfl sc__law_cells.nd (pi_range1 rfl T.f_range (pa_cons pe_int pa_nil)) (blkOk_by (own := [("_law_cell", 6)]) (N := N__law_cells) (sc := defScope s__law_cells) (by decide +kernel)) (fun _ _ _ _ _ => (pg_name (i := 6) sc__law_cells.nd rfl (Or.inl rfl))) (fun _ _ _ _ _ => pts_one (pt_cmpR op_eq (pe_callR F__law_draw (hr.mono (by decide)) rfl T.m__law_draw T.k__law_draw pass0 (pa_cons (pv 0) (pa_cons pe_int pa_nil))) pe_int (nomark _))) (fun _ _ _ _ _ => (pv 6))))
      (pss_cons (ps_setLc (i := 5) rfl sc__law_cells.nd rfl rfl (sw_true rfl rfl rfl (by decide +kernel)) (pi_range1 rfl T.f_range (pa_cons pe_int pa_nil)) (blkOk_by (own := [("_law_cell", 6)]) (N := N__law_cells) (sc := defScope s__law_cells) (by decide +kernel)) (fun _ _ _ _ _ => (pg_name (i := 6) sc__law_cells.nd rfl (Or.inl rfl))) (fun _ _ _ _ _ => pts_one (PW.pt (pw_and (pt_cmpR (op_notIn_seq' (K := K) rfl) (pv 6) (pv 4) (by rfl)) (pw_and1 (pt_cmpR op_eq (pe_callR F__law_draw (hr.mono (by decide)) rfl T.m__law_draw T.k__law_draw pass0 (pa_cons (pv 0) (pa_cons pe_int pa_nil))) pe_int (nomark _)))))) (fun _ _ _ _ _ => (pv 6)))
      (pss_one (ps_dput (hu_of hr) (pv 2) (pv 3) (pe_tup (pa_cons (pv 5) (pa_cons (pv 4) (pa_cons (pe_lc rfl sc__law_cells.nd (pi_range1 rfl T.f_range (pa_cons pe_int pa_nil)) (blkOk_by (own := [("_law_cell", 6)]) (N := N__law_cells) (sc := defScope s__law_cells) (by decide +kernel)) (fun _ _ _ _ _ => (pg_name (i := 6) sc__law_cells.nd rfl (Or.inl rfl))) (fun _ _ _ _ _ => pts_nil) (fun _ _ _ _ _ => (pe_callR F__law_draw (hr.mono (by decide)) rfl T.m__law_draw T.k__law_draw pass0 (pa_cons (pv 0) (pa_cons pe_int pa_nil))))) (pa_cons (pe_callR F__law_draw (hr.mono (by decide)) rfl T.m__law_draw T.k__law_draw pass0 (pa_cons (pv 0) (pa_cons pe_int pa_nil))) pa_nil))))) rfl)))))
      (pss_one (ps_ret (pv 2))))), ?_⟩
    have line : sizeLine = 16777216 := sizeLine_eq
    refine fun M hM => ?_
    obtain ⟨M1, M2⟩ := hD.new hM
    have D1 := hD.mono (Smn (o := .dK []) hM)
    have S1 : SameD d l H _ := Same.d (Smn (o := .dK []) hM)
    refine ⟨_, rfl, kk, rfl, ⟨_, SqL.of (Smn hM _ _ hkk)⟩, ?_⟩
    refine for_it (walk_list (K := K) (a := kk) (xs := ks.map V.str)) (fun i σ H' => DealAt H' d l ∧ SameD d l H H' ∧ ∃ (v3 v4 v5 : Option V) (cvk : List (Key × V)) (cl : Str → Cell), σ = [some (.ref d), some (.ref kk), some (.ref M), v3, v4, v5, none] ∧ H' M = some (.dK cvk) ∧ cvk.length ≤ i ∧
        ∀ k ∈ ks.take i, ∃ a, valV cvk (.inr k) = some (.ref a) ∧ CellAt (msk d l H') a (cl k))
      ⟨D1, S1, none, none, none, [], fun _ => ⟨[], [], [], 0⟩, rfl, upd_same, Nat.le_refl _, fun k h => by cases h⟩ (fun i σ H' _ p => SqL.of (p.2.1 _ _ k1 k2 hkk)) ?_ ?_
    · rintro i y σ H20 H2 hi ⟨D2, S2, v3, v4, v5, cvk, cl, rfl, eM, lcv, hget⟩ y'
      obtain ⟨k, hk, rfl, rfl⟩ := yat_map y'
      have tk : ks.take (i + 1) = ks.take i ++ [k] := take_snoc hk
      have hik : i < ks.length := by simpa using hi
      -- writes
      refine ⟨3, rfl, by omega, by omega, fun W hW => ?_⟩
      obtain ⟨W1, W2⟩ := D2.new hW
      refine lc_it (walk_range (lo := 0) (n := (3 : Int).toNat)) (fun i H' => DealAt H' d l ∧ SameD d l H2 H' ∧ ∃ ws : List Nat, H' W = some (.lst (ws.map vN)) ∧ ws.length ≤ i ∧ ∀ c ∈ ws, c < 3)
        ⟨D2.mono (Smn hW), Same.d (Smn hW), [], upd_same, Nat.le_refl _, fun c h => by cases h⟩ (fun _ _ _ _ => trivial) ?_ ?_
      · rintro j x H3 H4 hj ⟨D3, S3, ws, eW, lw, hw⟩ y2
        obtain ⟨rfl, rfl⟩ := yrng y2
        have hj3 : j < 3 := hj
        refine ⟨rfl, _, rfl, d, l, 3, rfl, D3, by omega, by omega, fun H5 g hg D5 S5 => ?_⟩
        refine ⟨rfl, _, rfl, ?_⟩
        have eW5 := S5 _ _ W1 W2 eW
        refine ite2 (fun c => ?_) (fun c => ?_)
        · refine ⟨_, rfl, _, eW5, by rw [List.length_map]; omega, D5.put W1 W2, ?_, ws ++ [j], by rw [upd_same, List.map_append]; rfl, by rw [List.length_append]; show ws.length + 1 ≤ j + 1; omega, fun c' hc' => ?_⟩
          · exact (S3.trans S5).sup hW
          · rcases List.mem_append.mp hc' with h | h
            · exact hw c' h
            · rw [List.mem_singleton.mp h]
              exact hj3
        · exact ⟨D5, S3.trans S5, ws, eW5, by omega, hw⟩
      rintro H3 ⟨D3, S3, ws, eW, lw, hw⟩
      have lw3 : ws.length ≤ 3 := lw
      have S03 := S2.trans S3
      -- reads
      refine ⟨3, rfl, by omega, by omega, fun R hR => ?_⟩
      obtain ⟨R1, R2⟩ := D3.new hR
      refine lc_it (walk_range (lo := 0) (n := (3 : Int).toNat)) (fun i H' => DealAt H' d l ∧ SameD d l H3 H' ∧ ∃ rs : List Nat, H' R = some (.lst (rs.map vN)) ∧ rs.length ≤ i ∧ ∀ c ∈ rs, c < 3 ∧ c ∉ ws)
        ⟨D3.mono (Smn hR), Same.d (Smn hR), [], upd_same, Nat.le_refl _, fun c h => by cases h⟩ (fun _ _ _ _ => trivial) ?_ ?_
      · rintro j x H4 H5 hj ⟨D4, S4, rs, eR, lr, hrs⟩ y2
        obtain ⟨rfl, rfl⟩ := yrng y2
        have hj3 : j < 3 := hj
        have eW4 := S4 _ _ W1 W2 eW
        have ew : ws.map vN = (ws.map iN).map V.int := map_vN _
        refine ⟨rfl, _, rfl, _, rfl, W, (ws.map iN).map V.int, rfl, .inl (ew ▸ SqL.of eW4), rfl, flatI _, _, rfl, ?_⟩
        have ein : inV (V.int ((j : Nat) : Int)) ((ws.map iN).map V.int) = decide (j ∈ ws) := by
          rw [inV_int]
          refine decide_eq_decide.mpr ⟨fun h => ?_, fun h => List.mem_map.mpr ⟨j, h, rfl⟩⟩
          obtain ⟨x, hx, e⟩ := List.mem_map.mp h
          have : x = j := Int.ofNat.inj e
          exact this ▸ hx
        show (if (!inV (V.int ((j : Nat) : Int)) ((ws.map iN).map V.int)) = true then _ else _)
        rw [ein]
        refine ite2 (fun c => ?_) (fun c => ?_)
        · have hnw : j ∉ ws := by simpa using c
          refine ⟨_, rfl, d, l, 3, rfl, D4, by omega, by omega, fun H6 g hg D6 S6 => ?_⟩
          refine ⟨rfl, _, rfl, ?_⟩
          have eR6 := S6 _ _ R1 R2 eR
          refine ite2 (fun c2 => ?_) (fun c2 => ?_)
          · refine ⟨_, rfl, _, eR6, by rw [List.length_map]; omega, D6.put R1 R2, (S4.trans S6).sup hR, rs ++ [j], by rw [upd_same, List.map_append]; rfl, by rw [List.length_append]; show rs.length + 1 ≤ j + 1; omega, fun c' hc' => ?_⟩
            rcases List.mem_append.mp hc' with h | h
            · exact hrs c' h
            · rw [List.mem_singleton.mp h]
              exact ⟨hj3, hnw⟩
          · exact ⟨D6, S4.trans S6, rs, eR6, by omega, hrs⟩
        · exact ⟨D4, S4, rs, eR, by omega, hrs⟩
      rintro H4 ⟨D4, S4, rs, eR, lr, hrs⟩
      have lr3 : rs.length ≤ 3 := lr
      have S04 := S03.trans S4
      -- the factors
      refine ⟨_, rfl, _, rfl, 3, rfl, by omega, by omega, fun Fa hF => ?_⟩
      obtain ⟨F1, F2⟩ := D4.new hF
      refine lc_it (walk_range (lo := 0) (n := (3 : Int).toNat)) (fun i H' => DealAt H' d l ∧ SameD d l H4 H' ∧ ∃ fs : List Nat, H' Fa = some (.lst (fs.map vN)) ∧ fs.length = i ∧ ∀ c ∈ fs, c < 4)
        ⟨D4.mono (Smn hF), Same.d (Smn hF), [], upd_same, rfl, fun c h => by cases h⟩ (fun _ _ _ _ => trivial) ?_ ?_
      · rintro j x H5 H6 hj ⟨D5, S5, fs, eF, lf, hfs⟩ y2
        obtain ⟨rfl, rfl⟩ := yrng y2
        have hj3 : j < 3 := hj
        refine ⟨rfl, _, rfl, d, l, 4, rfl, D5, by omega, by omega, fun H7 g hg D7 S7 => ?_⟩
        have eF7 := S7 _ _ F1 F2 eF
        refine ⟨_, eF7, by rw [List.length_map]; omega, D7.put F1 F2, (S5.trans S7).sup hF, fs ++ [g], by rw [upd_same, List.map_append]; rfl, by rw [List.length_append, lf]; rfl, fun c' hc' => ?_⟩
        rcases List.mem_append.mp hc' with h | h
        · exact hfs c' h
        · rw [List.mem_singleton.mp h]
          exact hg
      rintro H5 ⟨D5, S5, fs, eF, lf, hfs⟩
      have lf3 : fs.length = 3 := lf
      refine ⟨_, rfl, d, l, 3, rfl, D5, by omega, by omega, fun H6 g hg D6 S6 => ?_⟩
      refine ⟨by show 4 ≤ sizeLine; omega, fun a ha => ?_⟩
      obtain ⟨a1, a2⟩ := D6.new ha
      have S06 := (S04.trans S5).trans S6
      have S26 := ((S3.trans S4).trans S5).trans S6
      have Sa := Smn (o := .tup [.ref R, .ref W, .ref Fa, vN g]) ha
      have ea : (upd H6 a (.tup [.ref R, .ref W, .ref Fa, vN g])) a = some (.tup [.ref R, .ref W, .ref Fa, vN g]) := upd_same
      have eW7 := Sa _ _ (S6 _ _ W1 W2 (S5 _ _ W1 W2 (S4 _ _ W1 W2 eW)))
      have eR7 := Sa _ _ (S6 _ _ R1 R2 (S5 _ _ R1 R2 eR))
      have eF7 := Sa _ _ (S6 _ _ F1 F2 eF)
      have S27 : SameD d l H2 _ := S26.trans (Same.d Sa)
      have S07 : SameD d l H _ := S06.trans (Same.d Sa)
      have D7 := D6.mono Sa
      generalize (upd H6 a (.tup [.ref R, .ref W, .ref Fa, vN g])) = H7 at *
      have eM7 := S27 _ _ M1 M2 eM
      refine ⟨_, rfl, _, rfl, M, _, rfl, DPut.k (k := Sum.inr k) eM7 (by omega), ?_⟩
      have up : ∀ {b : Addr} {u : HO}, H7 b = some u → b ≠ M → b ≠ d → b ≠ l → msk d l (upd H7 M (.dK (putK cvk (Sum.inr k) (.ref a)))) b = some u := fun e n n1 n2 => msk_of n1 n2 (by rw [upd_ne n]; exact e)
      have upS : ∀ {b : Addr} {u : HO}, msk d l H2 b = some u → b ≠ M → msk d l (upd H7 M (.dK (putK cvk (Sum.inr k) (.ref a)))) b = some u := fun e n => up (S27 _ _ (msk_ne e).1 (msk_ne e).2 (msk_same _ _ _ _ _ e)) n (msk_ne e).1 (msk_ne e).2
      refine ⟨D7.put M1 M2, S07.sup hM, _, _, _, putK cvk (Sum.inr k) (.ref a), fun k' => if k' = k then ⟨rs, ws, fs, g⟩ else cl k', rfl, upd_same, ?_, fun k' hk' => ?_⟩
      · have := length_putK cvk (Sum.inr k) (.ref a)
        omega
      · rw [valV_put]
        by_cases c : k' = k
        · subst c
          rw [if_pos rfl]
          show ∃ a', some (V.ref a) = some (.ref a') ∧ CellAt _ a' (if k' = k' then _ else _)
          rw [if_pos rfl]
          refine ⟨a, rfl, ⟨fun c hc => (hrs c hc).1, hw, lf3, fun c hc => (hrs c hc).2, lr3, lw3, hfs, hg⟩, R, W, Fa, up ea (ne_of ea eM7 (fun z => nomatch z)) a1 a2, up eR7 (ne_of eR7 eM7 (fun z => nomatch z)) R1 R2, up eW7 (ne_of eW7 eM7 (fun z => nomatch z)) W1 W2, up eF7 (ne_of eF7 eM7 (fun z => nomatch z)) F1 F2⟩
        · rw [if_neg (fun z => c (Sum.inr.inj z))]
          show ∃ a', valV cvk (Sum.inr k') = some (.ref a') ∧ CellAt _ a' (if k' = k then _ else _)
          rw [if_neg c]
          rw [tk] at hk'
          rcases List.mem_append.mp hk' with h | h
          · obtain ⟨a', h1, h2⟩ := hget k' h
            obtain ⟨r', w', f', t1, t2, t3, t4⟩ := h2.ex
            have nn : ∀ {b : Addr} {u : HO}, msk d l H2 b = some u → (∀ kv, u ≠ .dK kv) → b ≠ M := fun e n z => by
              have := msk_same _ _ _ _ _ e
              rw [z, eM] at this
              exact n _ (Option.some.inj this).symm
            exact ⟨a', h1, h2.ok, r', w', f', upS t1 (nn t1 (fun _ z => nomatch z)), upS t2 (nn t2 (fun _ z => nomatch z)), upS t3 (nn t3 (fun _ z => nomatch z)), upS t4 (nn t4 (fun _ z => nomatch z))⟩
          · exact absurd (List.mem_singleton.mp h) c
    · rintro σ H2 ⟨D2, S2, v3, v4, v5, cvk, cl, rfl, eM, lcv, hget⟩
      rw [List.length_map, List.take_length] at hget
      exact ⟨_, rfl, q H2 M cvk cl D2 S2 ⟨msk_of M1 M2 eM, hget⟩⟩
end
end Un

/-! ## D29 -/
set_option Elab.async false
set_option linter.all false
set_option maxRecDepth 100000
set_option maxHeartbeats 4000000
namespace Un
open PySem PySem.Spec PyProof.Rows L2 StX
theorem if_st {c : Bool} {A : Prop} {Kx : L2.St → Hp → Prop} {σ : L2.St} {H : Hp} (I : L2.St → Hp → Prop) (h : ∀ σ H, I σ H → Kx σ H) (ha : c = true → (∀ σ H, I σ H → Kx σ H) → A) (hb : c = false → I σ H) : if c = true then A else Kx σ H := by
  cases c with
  | true => exact ha rfl h
  | false => exact h _ _ (hb rfl)
/-- names that may stand in a table -/
structure NamesOk (n : Nat) (ns : List Str) : Prop where
  len : ns.length = n
  nd : ns.Nodup
  ok : ∀ x ∈ ns, nameOk x
theorem NamesOk.perm {n : Nat} {ns ms : List Str} (h : NamesOk n ns) (p : ms.Perm ns) : NamesOk n ms := ⟨p.length_eq.trans h.len, p.nodup_iff.mpr h.nd, fun x hx => h.ok x (p.mem_iff.mp hx)⟩
/-- the i-th letter -/
def ltr (i : Nat) : Nat := lettersL.getD (i % 26) 0
theorem ltr_len : lettersL.length = 26 := by decide +kernel
theorem ltr_mem (i : Nat) : ltr i ∈ lettersL := by
  unfold ltr
  have h := Nat.mod_lt i (by omega : 0 < 26)
  rw [List.getD_eq_getElem?_getD, List.getElem?_eq_getElem (by rw [ltr_len]; exact h)]
  exact List.getElem_mem _
theorem ltr_at {i : Nat} : lettersL[i % 26]? = some (ltr i) := by
  unfold ltr
  have h := Nat.mod_lt i (by omega : 0 < 26)
  rw [List.getD_eq_getElem?_getD, List.getElem?_eq_getElem (by rw [ltr_len]; exact h)]
  rfl
theorem atI_ltr {z : Int} {i : Nat} (e : z = ((i % 26 : Nat) : Int)) : atI lettersL z = some (ltr i) := by
  rw [e]
  exact atI_nat ltr_at
def one (c : Nat) : Str := ⟨#[c]⟩
theorem one_ok {c : Nat} (h : c ∈ lettersL) : nameOk (one c) := ⟨Nat.le_refl _, by show 1 ≤ 6; omega, fun x hx => by
  have : x = c := by simpa [one] using hx
  rw [this]
  exact h⟩
theorem one_inj {a b : Nat} (h : one a = one b) : a = b := by
  unfold one at h
  injection h with h
  simpa using h
def ltrs (t n : Nat) : List Nat := (List.range n).map fun k => ltr (t + 7 * k)
theorem ltrs_nd : ∀ n, n < 6 → ∀ t, t < 26 → (ltrs t n).Nodup := by decide +kernel
def names0 (t n : Nat) : List Str := (ltrs t n).map one
theorem names0_ok {t n : Nat} (hn : n < 6) (ht : t < 26) : NamesOk n (names0 t n) := by
  refine ⟨by unfold names0 ltrs; rw [List.length_map, List.length_map, List.length_range], ?_, fun x hx => ?_⟩
  · unfold names0
    exact List.Pairwise.map one (fun a b h e => h (one_inj e)) (ltrs_nd n hn t ht)
  · obtain ⟨c, hc, rfl⟩ := List.mem_map.mp hx
    obtain ⟨k, _, rfl⟩ := List.mem_map.mp hc
    exact one_ok (ltr_mem _)
/-- between the ends of a stem -/
def inStem (st : Str) (i : Nat) (x : Str) : Str := ⟨(st.cps.toList.take i ++ x.cps.toList ++ st.cps.toList.drop i).toArray⟩
theorem inStem_inj {st : Str} {i : Nat} {x y : Str} (h : inStem st i x = inStem st i y) : x = y := by
  unfold inStem at h
  injection h with h
  have h2 := congrArg Array.toList h
  simp only [List.toList_toArray] at h2
  have h3 := List.append_cancel_right h2
  have h4 := List.append_cancel_left h3
  cases x
  cases y
  exact congrArg Str.mk (Array.toList_inj.mp h4)
theorem inStem_ok {st : Str} {i : Nat} {x : Str} (h1 : st.cps.toList.length = 5) (h2 : ∀ c ∈ st.cps.toList, c ∈ lettersL) (hx : nameOk x) (hl : x.length = 1) : nameOk (inStem st i x) := by
  have len : (inStem st i x).length = 6 := by
    show (List.toArray _).size = 6
    rw [List.size_toArray, List.length_append, List.length_append, List.length_take, List.length_drop, h1]
    have : x.cps.toList.length = 1 := hl
    omega
  refine ⟨by omega, by omega, fun c hc => ?_⟩
  have hc' : c ∈ st.cps.toList.take i ++ x.cps.toList ++ st.cps.toList.drop i := by
    unfold inStem at hc
    simpa using hc
  rcases List.mem_append.mp hc' with h | h
  · rcases List.mem_append.mp h with h | h
    · exact h2 c (List.mem_of_mem_take h)
    · exact hx.2.2 c h
  · exact h2 c (List.mem_of_mem_drop h)
/-- a letter and a tail that grows -/
def tailL : List Nat := ("kqzjxv" : Str).cps.toList
def grow (t k : Nat) : Str := ⟨(ltr (t + 7 * (k / 6)) :: tailL.take (k % 6)).toArray⟩
theorem tail_ok : ∀ c ∈ tailL, c ∈ lettersL := by decide +kernel
theorem tail_len : tailL.length = 6 := by decide +kernel
theorem grow_len {t k : Nat} : (grow t k).length = 1 + k % 6 := by
  show (List.toArray _).size = _
  rw [List.size_toArray, List.length_cons, List.length_take, tail_len]
  have := Nat.mod_lt k (by omega : 0 < 6)
  omega
theorem grow_ok {t n : Nat} (hn : n < 6) : NamesOk n ((List.range n).map (grow t)) := by
  refine ⟨by rw [List.length_map, List.length_range], ?_, fun x hx => ?_⟩
  · rw [List.nodup_iff_pairwise_ne, List.pairwise_map]
    refine List.Pairwise.imp_of_mem ?_ (List.pairwise_lt_range (n := n))
    intro a b ha hb hab e
    have h1 := congrArg Str.length e
    rw [grow_len, grow_len] at h1
    have := List.mem_range.mp ha
    have := List.mem_range.mp hb
    omega
  · obtain ⟨k, hk, rfl⟩ := List.mem_map.mp hx
    have := Nat.mod_lt k (by omega : 0 < 6)
    refine ⟨by rw [grow_len]; omega, by rw [grow_len]; omega, fun c hc => ?_⟩
    have hc' : c ∈ ltr (t + 7 * (k / 6)) :: tailL.take (k % 6) := by
      unfold grow at hc
      simpa using hc
    rcases List.mem_cons.mp hc' with h | h
    · rw [h]
      exact ltr_mem _
    · exact tail_ok c (List.mem_of_mem_take h)
def words : List Str := ["free", "kinds", "main", "do", "out", "move", "row", "form", "root", "count", "join", "undo"]
def wordsAt (t n : Nat) : List Str := ((words ++ words).drop t).take n
instance (z : Str) : Decidable (nameOk z) := by unfold nameOk; infer_instance
instance : DecidableEq Str := inferInstance
theorem words_ok : ∀ n, n < 6 → ∀ t, t < 12 → (wordsAt t n).length = n ∧ (wordsAt t n).Nodup ∧ ∀ x ∈ wordsAt t n, nameOk x := by decide +kernel
end Un

/-! ## D30 -/
set_option Elab.async false
set_option linter.all false
set_option maxRecDepth 100000
set_option maxHeartbeats 4000000
namespace Un
open PySem PySem.Spec PyProof.Rows L2 StX
theorem str_ext {a b : Str} (h : a.cps.toList = b.cps.toList) : a = b := by
  cases a
  cases b
  exact congrArg Str.mk (Array.toList_inj.mp h)
theorem join_ones {e : Str} (he : e.cps.toList = []) : ∀ cs : List Nat, (Txt.join e (cs.map one)).cps.toList = cs := by
  intro cs
  rw [TL.join_eq]
  induction cs with
  | nil => rfl
  | cons c cs ih =>
    cases cs with
    | nil => rfl
    | cons d cs =>
      show ((one c ++ e) ++ Str.join e ((d :: cs).map one)).cps.toList = _
      have e1 : ∀ a b : Str, (a ++ b).cps.toList = a.cps.toList ++ b.cps.toList := fun a b => Array.toList_append
      rw [e1, e1, he, ih]
      rfl
theorem cutS_take {z : Str} {i : Nat} : cutS z none (some ((i : Nat) : Int)) = ⟨(z.cps.toList.take i).toArray⟩ := by
  unfold cutS
  rw [HT.sIx_none, HT.sIx_nat, Nat.sub_zero, List.drop_zero]
  have hl : z.length = z.cps.toList.length := by rw [Array.length_toList]; rfl
  refine str_ext ?_
  show (List.take _ _).toArray.toList = (List.take _ _).toArray.toList
  rw [List.toList_toArray, List.toList_toArray, hl]
  by_cases c : i ≤ z.cps.toList.length
  · rw [Nat.min_eq_left c]
  · have c' := Nat.le_of_lt (Nat.lt_of_not_le c)
    rw [Nat.min_eq_right c', List.take_of_length_le (Nat.le_refl _), List.take_of_length_le c']
theorem cutS_drop {z : Str} {i : Nat} (h : i ≤ z.cps.toList.length) : cutS z (some ((i : Nat) : Int)) none = ⟨(z.cps.toList.drop i).toArray⟩ := by
  unfold cutS
  have hl : z.length = z.cps.toList.length := by rw [Array.length_toList]; rfl
  rw [HT.sIx_none, HT.sIx_nat, hl, Nat.min_eq_left h]
  refine str_ext ?_
  show (List.take _ _).toArray.toList = (List.drop _ _).toArray.toList
  rw [List.toList_toArray, List.toList_toArray, List.take_of_length_le (by rw [List.length_drop]; omega)]
theorem app_list (a b : Str) : (a ++ b).cps.toList = a.cps.toList ++ b.cps.toList := Array.toList_append
section
variable {P : Program} {w : World} {K : PySem.W.Frag} {mg : Str → Option Value} {base : Heap}
/-! _law_names -/
abbrev s__law_names : Stmt := (top 64)
abbrev N__law_names : List Str := ["_law_deal_here", "_law_many", "_law_letters", "_law_form_here", "_law_turn", "_law_found", "_law_spot", "_law_stem", "_law_words", "_law_k", "_law_letter"]
abbrev P__law_names : List Str := ["_law_deal_here", "_law_many"]
theorem sc__law_names : FnScope N__law_names P__law_names (defScope s__law_names) := ⟨rfl, rfl, rfl, by decide +kernel, rfl, by decide +kernel, by decide +kernel⟩

abbrev LET : Str := "abcdefghijklmnopqrstuvwxyz"
def NmI (d l : Addr) (H : Hp) (n form turn : Nat) (σ : L2.St) (H' : Hp) : Prop := DealAt H' d l ∧ SameD d l H H' ∧ ∃ (F : Addr) (ns : List Str) (v6 v7 v8 : Option V), σ = [some (.ref d), some (vN n), some (.str LET), some (vN form), some (vN turn), some (.ref F), v6, v7, v8, none, none] ∧ H' F = some (.lst (ns.map V.str)) ∧ F ≠ d ∧ F ≠ l ∧ NamesOk n ns
def spNames : Sp := fun vs H Q _ => ∃ d l n, vs = [.ref d, vN n] ∧ DealAt H d l ∧ n < 6 ∧ ∀ (H' : Hp) (p : Addr) (ns : List Str), NamesOk n ns → H' p = some (.lst (ns.map V.str)) → p ≠ d → p ≠ l → DealAt H' d l → SameD d l H H' → Q (.ref p) H'
theorem ok__law_names (T : Txt K mg) {f : Addr} (F : FnT K "_law_names" "_law_names" s__law_names f) (F__law_draw : FnR P w K mg base CX0 1 (He.ga K "_law_draw") spDraw) (F__law_mixed : FnR P w K mg base CX0 2 (He.ga K "_law_mixed") spMixed) : FnR P w K mg base CX0 3 f spNames := by
  refine F.ok sc__law_names (fun _ _ _ _ _ _ us hl => match us, hl with | [_, _], _ => rfl) (fun vs H Q E h => ?_) (fun cdv A outer s H vs Q E hr h => ?_)
  · obtain ⟨d, l, n, rfl, _⟩ := h
    rfl
  · obtain ⟨d, l, n, rfl, hD, hn, q⟩ := h
    refine ⟨_, (pss_cons (ps_asg (pe_tup (pa_cons pe_str (pa_cons (pe_callR F__law_draw (hr.mono (by decide)) rfl T.m__law_draw T.k__law_draw pass0 (pa_cons (pv 0) (pa_cons pe_int pa_nil))) (pa_cons (pe_callR F__law_draw (hr.mono (by decide)) rfl T.m__law_draw T.k__law_draw pass0 (pa_cons (pv 0) (pa_cons pe_int pa_nil))) pa_nil)))) (pg_tup (n := 3) rfl (pgs_cons (pg_name (i := 2) sc__law_names.nd rfl (Or.inr rfl)) (pgs_cons (pg_name (i := 3) sc__law_names.nd rfl (Or.inl rfl)) (pgs_cons (pg_name (i := 4) sc__law_names.nd rfl (Or.inr rfl)) pgs_nil)))))
      (pss_cons (ps_setLc (i := 5) rfl sc__law_names.nd rfl rfl (sw_true rfl rfl rfl (by decide +kernel)) (pi_range1 rfl T.f_range (pa_cons (pv 1) pa_nil)) (blkOk_by (own := [("_law_k", 9)]) (N := N__law_names) (sc := defScope s__law_names) (by decide +kernel)) (fun _ _ _ _ _ => (pg_name (i := 9) sc__law_names.nd rfl (Or.inl rfl))) (fun _ _ _ _ _ => pts_nil) (fun _ _ _ _ _ => (pe_ix ix_str (pv 2) (pe_op op_mod (pe_op op_add (pv 4) (pe_op op_mul pe_int (pv 9))) pe_int) (fun _ _ => rfl))))
      (pss_cons (ps_if (pt_cmpR op_eq (pv 3) pe_int (nomark _)) (pss_cons (ps_asg (pe_tup (pa_cons (pe_callR F__law_draw (hr.mono (by decide)) rfl T.m__law_draw T.k__law_draw pass0 (pa_cons (pv 0) (pa_cons pe_int pa_nil))) (pa_cons (pe_join pe_str (pe_lc rfl sc__law_names.nd (pi_range1 rfl T.f_range (pa_cons pe_int pa_nil)) (blkOk_by (own := [("_law_k", 9)]) (N := N__law_names) (sc := defScope s__law_names) (by decide +kernel)) (fun _ _ _ _ _ => (pg_name (i := 9) sc__law_names.nd rfl (Or.inl rfl))) (fun _ _ _ _ _ => pts_nil) (fun _ _ _ _ _ => (pe_ix ix_str (pv 2) (pe_callR F__law_draw (hr.mono (by decide)) rfl T.m__law_draw T.k__law_draw pass0 (pa_cons (pv 0) (pa_cons pe_int pa_nil))) (fun _ _ => rfl))))) pa_nil))) (pg_tup (n := 2) rfl (pgs_cons (pg_name (i := 6) sc__law_names.nd rfl (Or.inr rfl)) (pgs_cons (pg_name (i := 7) sc__law_names.nd rfl (Or.inr rfl)) pgs_nil))))
      (pss_one (ps_setLc (i := 5) rfl sc__law_names.nd rfl rfl (sw_true rfl rfl rfl (by decide +kernel)) (pi_list (pv 5)) (blkOk_by (own := [("_law_letter", 10)]) (N := N__law_names) (sc := defScope s__law_names) (by decide +kernel)) (fun _ _ _ _ _ => (pg_name (i := 10) sc__law_names.nd rfl (Or.inl rfl))) (fun _ _ _ _ _ => pts_nil) (fun _ _ _ _ _ => (pe_op op_add_str (pe_op op_add_str (pe_slice sl_str (pv 7) po_none (po_some (pv 6))) (pv 10)) (pe_slice sl_str (pv 7) (po_some (pv 6)) po_none)))))) pss_nil)
      (pss_cons (ps_if (pt_cmpR op_eq (pv 3) pe_int (nomark _)) (pss_one (ps_setLc (i := 5) rfl sc__law_names.nd rfl rfl (sw_true rfl rfl rfl (by decide +kernel)) (pi_range1 rfl T.f_range (pa_cons (pv 1) pa_nil)) (blkOk_by (own := [("_law_k", 9)]) (N := N__law_names) (sc := defScope s__law_names) (by decide +kernel)) (fun _ _ _ _ _ => (pg_name (i := 9) sc__law_names.nd rfl (Or.inl rfl))) (fun _ _ _ _ _ => pts_nil) (fun _ _ _ _ _ => (pe_op op_add_str (pe_ix ix_str (pv 2) (pe_op op_mod (pe_op op_add (pv 4) (pe_op op_mul pe_int (pe_op op_fdiv (pv 9) pe_int))) pe_int) (fun _ _ => rfl)) (pe_slice sl_str pe_str po_none (po_some (pe_op op_mod (pv 9) pe_int))))))) pss_nil)
      (pss_cons (ps_if (pt_cmpR op_eq (pv 3) pe_int (nomark _)) (pss_cons (ps_set (i := 8) sc__law_names.nd rfl (Or.inl rfl) (pe_lst (pa_cons pe_str (pa_cons pe_str (pa_cons pe_str (pa_cons pe_str (pa_cons pe_str (pa_cons pe_str (pa_cons pe_str (pa_cons pe_str (pa_cons pe_str (pa_cons pe_str (pa_cons pe_str (pa_cons pe_str pa_nil))))))))))))))
      (pss_one (ps_set (i := 5) sc__law_names.nd rfl (Or.inl rfl) (pe_slice sl_list (pe_op op_cat (pv 8) (pv 8)) (po_some (pe_op op_mod (pv 4) pe_int)) (po_some (pe_op op_add (pe_op op_mod (pv 4) pe_int) (pv 1))))))) pss_nil)
      (pss_one (ps_ret (pe_callR F__law_mixed (hr.mono (by decide)) rfl T.m__law_mixed T.k__law_mixed pass0 (pa_cons (pv 0) (pa_cons (pv 5) pa_nil)))))))))), ?_⟩
    have line : sizeLine = 16777216 := sizeLine_eq
    have LETl : LET.length ≤ sizeLine := by rw [line]; decide +kernel
    refine ⟨_, rfl, d, l, 5, rfl, hD, by omega, by omega, fun H1 form hf D1 S1 => ⟨_, rfl, d, l, 26, rfl, D1, by omega, by omega, fun H2 turn ht D2 S2 => ⟨by show 3 ≤ sizeLine; omega, fun t ht' => ?_⟩⟩⟩
    have D3 := D2.mono (Smn (o := .tup [.str LET, vN form, vN turn]) ht')
    have S3 : SameD d l H _ := (S1.trans S2).trans (Same.d (Smn (o := .tup [.str LET, vN form, vN turn]) ht'))
    refine ⟨t, [.str LET, vN form, vN turn], rfl, SqT.of upd_same, rfl, _, _, rfl, _, _, rfl, _, _, rfl, rfl, ?_⟩
    generalize (upd H2 t (.tup [.str LET, vN form, vN turn])) = H3 at *
    refine ⟨_, rfl, ((n : Nat) : Int), rfl, by omega, by omega, fun F hF => ?_⟩
    obtain ⟨F1, F2⟩ := D3.new hF
    refine lcV (walk_range (lo := 0) (n := ((n : Nat) : Int).toNat)) (List.range n) (by rw [List.length_range]; omega) (fun _ => true) (fun k => V.str (one (ltr (turn + 7 * k)))) hF (by rw [List.length_range]; omega) (fun _ _ => trivial) ?_ ?_
    · rintro j x x2 H12 H13 K4 K3 hx S12 hA y2 k1 k2
      have hj : j < n := by
        have := (List.getElem?_eq_some_iff.mp hx).1
        rw [List.length_range] at this
        exact this
      have ejm : j = x := by
        rw [List.getElem?_range hj] at hx
        exact Option.some.inj hx
      subst ejm
      obtain ⟨rfl, rfl⟩ := yrng y2
      refine ⟨rfl, _, rfl, _, rfl, _, rfl, _, _, rfl, rfl, .inl ⟨by omega, by omega⟩, _, _, rfl, rfl, _, _, rfl, rfl, by omega, ?_⟩
      refine ⟨_, _, ltr (turn + 7 * j), rfl, rfl, LETl, atI_ltr (i := turn + 7 * j) (by omega), ?_⟩
      exact k1 rfl _ (Same.refl _)
    intro H4 S4 eF
    rw [filter_all] at eF
    have D4 := D3.mono S4
    have S04 : SameD d l H H4 := S3.trans (Same.d S4)
    obtain ⟨ns, ens⟩ : ∃ ns, ns = names0 turn n := ⟨_, rfl⟩
    have eF' : H4 F = some (.lst (ns.map V.str)) := by
      rw [eF, ens]
      unfold names0 ltrs
      rw [List.map_map, List.map_map]
      rfl
    have hok : NamesOk n ns := ens ▸ names0_ok hn ht
    have one1 : ∀ x ∈ ns, x.length = 1 := fun x hx => by
      rw [ens] at hx
      obtain ⟨c, _, rfl⟩ := List.mem_map.mp hx
      rfl
    -- the stem
    refine ⟨_, rfl, rfl, _, rfl, ?_⟩
    refine if_st (NmI d l H n form turn) ?_ (fun _ k => ?_) (fun _ => ⟨D4, S04, F, ns, none, none, none, rfl, eF', F1, F2, hok⟩)
    · rintro σ1 H5 ⟨D5, S5, F, ns, v6, v7, v8, rfl, eF, F1, F2, hok⟩
      refine ⟨_, rfl, rfl, _, rfl, ?_⟩
      refine if_st (NmI d l H n form turn) ?_ (fun _ k => ?_) (fun _ => ⟨D5, S5, F, ns, _, _, _, rfl, eF, F1, F2, hok⟩)
      · rintro σ2 H6 ⟨D6, S6, F, ns, v6, v7, v8, rfl, eF, F1, F2, hok⟩
        refine ⟨_, rfl, rfl, _, rfl, ?_⟩
        refine if_st (NmI d l H n form turn) ?_ (fun _ k => ?_) (fun _ => ⟨D6, S6, F, ns, _, _, _, rfl, eF, F1, F2, hok⟩)
        · rintro σ3 H7 ⟨D7, S7, F, ns, v6, v7, v8, rfl, eF, F1, F2, hok⟩
          have nl := hok.len
          exact ⟨_, rfl, _, rfl, d, l, F, ns, rfl, D7, F1, F2, eF, by omega, fun z hz => (hok.ok z hz).strOk, fun H8 p ws pm ep n1 n2 D8 S8 => q H8 p ws (hok.perm pm) ep n1 n2 D8 (S7.trans S8)⟩
        · refine ⟨by show 12 ≤ sizeLine; omega, fun W hW => ?_⟩
          have eW : (upd H6 W (.lst (words.map V.str))) W = some (.lst (words.map V.str)) := upd_same
          have SW := Smn (o := .lst (words.map V.str)) hW
          refine ⟨_, rfl, _, rfl, W, W, words.map V.str, words.map V.str, rfl, rfl, eW, eW, by show 12 + 12 ≤ sizeLine; omega, fun W2 hW2 => ?_⟩
          have SW2 := SW.trans (Smn (o := .lst (words.map V.str ++ words.map V.str)) hW2)
          have eW2 : (upd (upd H6 W (.lst (words.map V.str))) W2 (.lst (words.map V.str ++ words.map V.str))) W2 = some (.lst (words.map V.str ++ words.map V.str)) := upd_same
          have D7 := D6.mono SW2
          have S7 : SameD d l H _ := S6.trans (Same.d SW2)
          refine ⟨_, rfl, _, _, rfl, rfl, by omega, _, rfl, _, rfl, _, _, rfl, rfl, by omega, _, rfl, _, _, rfl, rfl, _, rfl, ?_⟩
          refine ⟨W2, _, rfl, SqL.of eW2, fun p hp => ?_⟩
          obtain ⟨p1, p2⟩ := D7.new hp
          have ecut : cutV (words.map V.str ++ words.map V.str) (some (((turn : Nat) : Int) % 12)) (some (((turn : Nat) : Int) % 12 + ((n : Nat) : Int))) = (wordsAt (turn % 12) n).map V.str := by
            have e1 : ((turn : Nat) : Int) % 12 = ((turn % 12 : Nat) : Int) := by omega
            have e2 : ((turn : Nat) : Int) % 12 + ((n : Nat) : Int) = ((turn % 12 + n : Nat) : Int) := by omega
            have t12 := Nat.mod_lt turn (by omega : 0 < 12)
            rw [e2, e1]
            unfold cutV wordsAt
            have l24 : (words.map V.str ++ words.map V.str).length = 24 := rfl
            rw [HT.sIx_nat, HT.sIx_nat, l24, Nat.min_eq_left (by omega), Nat.min_eq_left (by omega), List.map_take, List.map_drop, List.map_append, Nat.add_sub_cancel_left]
          obtain ⟨w1, w2, w3⟩ := words_ok n hn (turn % 12) (Nat.mod_lt turn (by omega))
          refine k _ _ ⟨D7.mono (Smn hp), S7.trans (Same.d (Smn hp)), p, wordsAt (turn % 12) n, _, _, _, rfl, ?_, p1, p2, w1, w2, w3⟩
          rw [upd_same]
          exact congrArg (fun x => some (HO.lst x)) ecut
      · refine ⟨_, rfl, ((n : Nat) : Int), rfl, by omega, by omega, fun G hG => ?_⟩
        obtain ⟨G1, G2⟩ := D5.new hG
        refine lcV (walk_range (lo := 0) (n := ((n : Nat) : Int).toNat)) (List.range n) (by rw [List.length_range]; omega) (fun _ => true) (fun k => V.str (grow turn k)) hG (by rw [List.length_range]; omega) (fun _ _ => trivial) ?_ ?_
        · rintro j x x2 H12 H13 K4 K3 hx S12 hA y2 k1 k2
          have hj : j < n := by
            have := (List.getElem?_eq_some_iff.mp hx).1
            rw [List.length_range] at this
            exact this
          have ejm : j = x := by
            rw [List.getElem?_range hj] at hx
            exact Option.some.inj hx
          subst ejm
          obtain ⟨rfl, rfl⟩ := yrng y2
          have TAILl : (Str.ofString "kqzjxv").length ≤ sizeLine := by rw [line]; decide +kernel
          refine ⟨rfl, _, rfl, _, rfl, _, rfl, _, _, rfl, rfl, ⟨by omega, by omega⟩, _, _, rfl, rfl, .inl ⟨by omega, by omega⟩, _, _, rfl, rfl, _, _, rfl, rfl, by omega, ?_⟩
          refine ⟨_, _, ltr (turn + 7 * (j / 6)), rfl, rfl, LETl, atI_ltr (i := turn + 7 * (j / 6)) (by omega), ?_⟩
          refine ⟨_, rfl, _, _, rfl, rfl, by omega, _, rfl, _, rfl, TAILl, ?_⟩
          have c1 := cutS_length (Str.ofString "kqzjxv") none (some (((j : Nat) : Int) % 6))
          have l6 : (Str.ofString "kqzjxv").length = 6 := by decide +kernel
          refine ⟨_, _, rfl, rfl, by show 1 + _ ≤ sizeLine; omega, ?_⟩
          have ev : (⟨#[ltr (turn + 7 * (j / 6))]⟩ : Str) ++ cutS (Str.ofString "kqzjxv") none (some (((j : Nat) : Int) % 6)) = grow turn j := by
            have e1 : ((j : Nat) : Int) % 6 = ((j % 6 : Nat) : Int) := by omega
            refine str_ext ?_
            rw [app_list, e1, cutS_take]
            show [ltr (turn + 7 * (j / 6))] ++ (List.take _ _).toArray.toList = (_ :: _ : List Nat).toArray.toList
            rw [List.toList_toArray, List.toList_toArray]
            rfl
          have := k1 rfl _ (Same.refl _)
          rw [← ev] at this
          exact this
        intro H6 S6 eG
        rw [filter_all] at eG
        have g := grow_ok (t := turn) hn
        exact k _ _ ⟨D5.mono S6, S5.trans (Same.d S6), G, (List.range n).map (grow turn), _, _, _, rfl, by rw [eG, List.map_map]; rfl, G1, G2, g⟩
    · refine ⟨_, rfl, d, l, 6, rfl, D4, by omega, by omega, fun H5 spot hs D5 S5 => ?_⟩
      refine ⟨⟨_, rfl⟩, 5, rfl, by omega, by omega, fun D hD' => ?_⟩
      obtain ⟨E1, E2⟩ := D5.new hD'
      refine lc_it (walk_range (lo := 0) (n := (5 : Int).toNat)) (fun i H' => DealAt H' d l ∧ SameD d l H5 H' ∧ ∃ cs : List Nat, H' D = some (.lst ((cs.map one).map V.str)) ∧ cs.length = i ∧ ∀ c ∈ cs, c ∈ lettersL)
        ⟨D5.mono (Smn hD'), Same.d (Smn hD'), [], upd_same, rfl, fun c h => by cases h⟩ (fun _ _ _ _ => trivial) ?_ ?_
      · rintro j x H6 H7 hj ⟨D6, S6, cs, eD, lc, hcs⟩ y2
        obtain ⟨rfl, rfl⟩ := yrng y2
        have hj5 : j < 5 := hj
        refine ⟨rfl, _, rfl, _, rfl, d, l, 16, rfl, D6, by omega, by omega, fun H8 g hg D8 S8 => ?_⟩
        refine ⟨_, _, ltr g, rfl, rfl, LETl, atI_ltr (i := g) (by omega), ?_⟩
        have eD8 := S8 _ _ E1 E2 eD
        refine ⟨_, eD8, by rw [List.length_map, List.length_map]; omega, D8.put E1 E2, (S6.trans S8).sup hD', cs ++ [ltr g], by rw [upd_same, List.map_append, List.map_append]; rfl, by rw [List.length_append, lc]; rfl, fun c' hc' => ?_⟩
        rcases List.mem_append.mp hc' with h | h
        · exact hcs c' h
        · rw [List.mem_singleton.mp h]
          exact ltr_mem _
      rintro H6 ⟨D6, S6, cs, eD, lc, hcs⟩
      have lc5 : cs.length = 5 := lc
      have sums : ∀ l : List Nat, ((l.map one).map (fun x : Str => x.length)).sum = l.length := fun l => by
        induction l with
        | nil => rfl
        | cons c l ih =>
          rw [List.map_cons, List.map_cons, List.sum_cons, ih, List.length_cons]
          show 1 + _ = _
          omega
      refine ⟨_, D, cs.map one, rfl, rfl, .inl (SqL.of eD), by rw [sums, List.length_map]; show cs.length + cs.length * 0 ≤ 16777216; omega, ?_⟩
      have S06 := (S04.trans S5).trans S6
      have S46 := S5.trans S6
      obtain ⟨stem, estem⟩ : ∃ stem, stem = Txt.join (Str.ofString "") (cs.map one) := ⟨_, rfl⟩
      rw [← estem]
      have hst : stem.cps.toList = cs := by rw [estem]; exact join_ones rfl cs
      have hstl : stem.length = 5 := by
        show stem.cps.size = 5
        rw [← Array.length_toList, hst, lc5]
      refine ⟨by show 2 ≤ sizeLine; omega, fun t2 ht2 => ?_⟩
      have St := Smn (o := .tup [vN spot, .str stem]) ht2
      refine g2 (SqT.of upd_same) ?_
      have D7 := D6.mono St
      have S07 : SameD d l H _ := S06.trans (Same.d St)
      have eF7 := St _ _ (S46 _ _ F1 F2 eF')
      generalize (upd H6 t2 (.tup [vN spot, .str stem])) = H7 at *
      refine ⟨_, rfl, F, rfl, ⟨_, SqL.of eF7⟩, fun G hG => ?_⟩
      obtain ⟨G1, G2⟩ := D7.new hG
      have nl := hok.len
      refine lcV (walk_list (K := K) (a := F) (xs := ns.map V.str)) ns (by rw [List.length_map]) (fun _ => true) (fun x => V.str (inStem stem spot x)) hG (by omega) (fun H' S' => SqL.of (S' _ _ eF7)) ?_ ?_
      · rintro j x x2 H12 H13 K4 K3 hx S12 hA y2 k1 k2
        obtain ⟨z', hz', rfl, rfl⟩ := yat_map y2
        have : z' = x := Option.some.inj (hz'.symm.trans hx)
        subst this
        have z1 := one1 z' (List.mem_of_getElem? hx)
        have c1 := cutS_length stem none (some ((spot : Nat) : Int))
        have c2 := cutS_length stem (some ((spot : Nat) : Int)) none
        have e2 : ∀ a b : Str, (a ++ b).length = a.length + b.length := fun a b => by
          show (a.cps ++ b.cps).size = _
          rw [Array.size_append]
          rfl
        refine ⟨rfl, _, rfl, _, rfl, _, rfl, stem, rfl, by omega, _, rfl, _, _, rfl, rfl, by omega, ?_⟩
        refine ⟨_, rfl, _, rfl, _, rfl, stem, rfl, by omega, _, _, rfl, rfl, by rw [e2]; omega, ?_⟩
        have ev : cutS stem none (some ((spot : Nat) : Int)) ++ z' ++ cutS stem (some ((spot : Nat) : Int)) none = inStem stem spot z' := by
          refine str_ext ?_
          rw [app_list, app_list, cutS_take, cutS_drop (by rw [hst]; omega)]
          show (List.take _ _).toArray.toList ++ _ ++ (List.drop _ _).toArray.toList = (_ ++ _ ++ _ : List Nat).toArray.toList
          rw [List.toList_toArray, List.toList_toArray, List.toList_toArray]
        rw [ev]
        exact k1 rfl _ (Same.refl _)
      intro H8 S8 eG
      rw [filter_all] at eG
      refine k _ _ ⟨D7.mono S8, S07.trans (Same.d S8), G, ns.map (inStem stem spot), _, _, _, rfl, by rw [eG, List.map_map]; rfl, G1, G2, by rw [List.length_map]; exact nl, List.Pairwise.map _ (fun a b h e => h (inStem_inj e)) hok.nd, fun x hx => ?_⟩
      obtain ⟨y, hy, rfl⟩ := List.mem_map.mp hx
      exact inStem_ok (by rw [hst]; exact lc5) (by rw [hst]; exact hcs) (hok.ok y hy) (one1 y hy)
end
end Un

/-! ## D31 -/
set_option Elab.async false
set_option linter.all false
set_option maxRecDepth 100000
set_option maxHeartbeats 4000000
namespace Un
open PySem PySem.Spec PyProof.Rows L2 StX
/-! ### what a table and a store tell of rows -/
structure Sound (T : Tb) (n : Nat) (mvs : Str → List Nat) : Prop where
  per : ∀ k s, it (app (mvs k)) (fac n) s = s
  com : ∀ a b, T.fr a b = true → ∀ s, app (mvs a) (app (mvs b) s) = app (mvs b) (app (mvs a) s)
  nrm : ∀ p ∈ T.pairs, ip p.1 p.2 = p
theorem Sound.zero {T : Tb} {n : Nat} {mvs : Str → List Nat} (k : Str) (s : Nat) : stp n mvs k 0 s = s := pw_zero _ _ _
theorem Sound.add {T : Tb} {n : Nat} {mvs : Str → List Nat} (S : Sound T n mvs) (k : Str) (i j : Int) (s : Nat) : stp n mvs k j (stp n mvs k i s) = stp n mvs k (i + j) s := pw_add (S.per k) i j s
theorem Sound.fr {T : Tb} {n : Nat} {mvs : Str → List Nat} (S : Sound T n mvs) {l m : List (Str × Int)} (h : Eqv T.fr l m) (s : Nat) : runL (stp n mvs) l s = runL (stp n mvs) m s :=
  Eqv.run (Sound.zero (T := T)) S.add (fun a b i j x h => pw_comm (fun s => (S.com a b h s).symm) j i x) h s
theorem freeL_fr {T : Tb} (nrm : ∀ p ∈ T.pairs, ip p.1 p.2 = p) {a b : Str} (h : freeL T.pairs a b = true) : T.fr a b = true := by
  unfold freeL at h
  rw [Bool.or_eq_true, decide_eq_true_eq, decide_eq_true_eq] at h
  unfold Tb.fr
  refine decide_eq_true ?_
  rcases h with h | h
  · have := nrm _ h
    rw [show ip a b = (a, b) from this]
    exact h
  · have := nrm _ h
    rw [ip_comm, show ip b a = (b, a) from this]
    exact h
theorem Sound.free {T : Tb} {n : Nat} {mvs : Str → List Nat} (S : Sound T n mvs) {l m : List (Str × Int)} (h : Eqv (freeL T.pairs) l m) (s : Nat) : runL (stp n mvs) l s = runL (stp n mvs) m s :=
  Eqv.run (Sound.zero (T := T)) S.add (fun a b i j x h => pw_comm (fun s => (S.com a b (freeL_fr S.nrm h) s).symm) j i x) h s
theorem Sound.inv {T : Tb} {n : Nat} {mvs : Str → List Nat} (S : Sound T n mvs) : ∀ (l : List (Str × Int)) (s : Nat), runL (stp n mvs) (l.reverse.map negS) (runL (stp n mvs) l s) = s
  | [], s => rfl
  | z :: l, s => by
    rw [List.reverse_cons, List.map_append, runL_app]
    show runL (stp n mvs) [negS z] (runL (stp n mvs) (l.reverse.map negS) (runL (stp n mvs) l (stp n mvs z.1 z.2 s))) = s
    rw [S.inv l]
    show stp n mvs z.1 (-z.2) (stp n mvs z.1 z.2 s) = s
    rw [S.add, Int.add_right_neg]
    exact Sound.zero (T := T) _ _
/-- what undoes l and then does m, behind l -/
theorem Sound.undo {T : Tb} {n : Nat} {mvs : Str → List Nat} (S : Sound T n mvs) {l m rs : List (Str × Int)} (h : Eqv T.fr (l.reverse.map negS ++ m) rs) (s : Nat) : runL (stp n mvs) rs (runL (stp n mvs) l s) = runL (stp n mvs) m s := by
  rw [← S.fr h, runL_app, S.inv]
theorem leads_of {n : Nat} {mvs : Str → List Nat} {l m : List (Str × Int)} (h : ∀ s, runL (stp n mvs) l s = runL (stp n mvs) m s) : leadsL n mvs l = leadsL n mvs m := List.map_congr_left fun s _ => h s
/-- words of the cells -/
def wd (c : Nat) : Str := (["x", "y", "z"] : List Str).getD c ""
def rkOf (cl : Str → Cell) (k : Str) : List Str × List Str := ((cl k).reads.map wd, (cl k).writes.map wd)
theorem apart_of {cl : Str → Cell} {a b : Str} (h : indep (rkOf cl a) (rkOf cl b)) : apart (cl a) (cl b) :=
  ⟨fun c hc => ⟨fun z => (h.1 _ (List.mem_map.mpr ⟨c, hc, rfl⟩)).1 (List.mem_map.mpr ⟨c, z, rfl⟩), fun z => (h.1 _ (List.mem_map.mpr ⟨c, hc, rfl⟩)).2 (List.mem_map.mpr ⟨c, z, rfl⟩)⟩,
   fun c hc => ⟨fun z => (h.2 _ (List.mem_map.mpr ⟨c, hc, rfl⟩)).1 (List.mem_map.mpr ⟨c, z, rfl⟩), fun z => (h.2 _ (List.mem_map.mpr ⟨c, hc, rfl⟩)).2 (List.mem_map.mpr ⟨c, z, rfl⟩)⟩⟩
theorem sound_of {T : Tb} {ks : List Str} {cl : Str → Cell} {many : Nat} (hm : 0 < many) (ok : ∀ k ∈ ks, CellOk (cl k)) (nrm : ∀ p ∈ T.pairs, ip p.1 p.2 = p) (hfr : ∀ a b, T.fr a b = true → a ∈ ks ∧ b ∈ ks ∧ indep (rkOf cl a) (rkOf cl b)) : Sound T (many * many * many) (mvOf ks cl many) := by
  refine ⟨fun k s => ?_, fun a b h s => ?_, nrm⟩
  · unfold mvOf
    by_cases c : k ∈ ks
    · rw [if_pos c]
      exact (mvL_pm (ok k c) hm).per s
    · rw [if_neg c]
      exact it_fix (app_out (n := 0) (Nat.le_refl _) (Nat.zero_le _)) _
  · obtain ⟨ha, hb, hi⟩ := hfr a b h
    unfold mvOf
    rw [if_pos ha, if_pos hb]
    exact mvL_comm (ok a ha) (ok b hb) (apart_of hi) hm s
theorem mvOf_pm {ks : List Str} {cl : Str → Cell} {many : Nat} (hm : 0 < many) (ok : ∀ k ∈ ks, CellOk (cl k)) : ∀ k ∈ ks, Pm (many * many * many) (mvOf ks cl many k) := fun k hk => by
  unfold mvOf
  rw [if_pos hk]
  exact mvL_pm (ok k hk) hm
/-! ### what stands while the deal is drawn from -/
theorem SameD.nl {d l : Addr} {H H' : Hp} (D : DealAt H d l) (s : SameD d l H H') {b : Addr} {u : HO} (n : ∀ xs, u ≠ .lst xs) (e : H b = some u) : H' b = some u := by
  obtain ⟨cells, m, h1, h2, _⟩ := D.ex
  exact s b u (ne_of e h1 (n _)) (ne_of e h2 (n _)) e
section
variable {K : PySem.W.Frag}
theorem TabAt.monoD {H H' : Hp} {d l t : Addr} {T : Tb} (D : DealAt H d l) (s : SameD d l H H') (h : TabAt K H t T) : TabAt K H' t T := by
  obtain ⟨dx, fs, ks, ps, ln, kvs, pvs, h1, h2, h3, h4, h5, h6, h7, h8, h9, h10⟩ := h.ex
  have nl : ∀ {b : Addr} {u : HO}, (∀ xs, u ≠ .lst xs) → H b = some u → H' b = some u := fun n e => s.nl D n e
  exact ⟨h.ok, dx, fs, ks, ps, ln, kvs, pvs, nl (fun _ z => nomatch z) h1, h2, h3, nl (fun _ z => nomatch z) h4, h5, nl (fun _ z => nomatch z) h6, Prs.mono (s.tup D) h7, h8, nl (fun _ z => nomatch z) h9, fun k hk => let ⟨la, q1, q2⟩ := h10 k hk; ⟨la, q1, nl (fun _ z => nomatch z) q2⟩⟩
theorem RowAt.monoD {H H' : Hp} {d l r t : Addr} {T : Tb} {ss : List (Str × Int)} (D : DealAt H d l) (s : SameD d l H H') (h : RowAt K H r t T ss) : RowAt K H' r t T ss := by
  obtain ⟨dx, fs, p, vs, h1, h2, h3, h4, h5, h6⟩ := h.ex
  exact ⟨⟨dx, fs, p, vs, s.nl D (fun _ z => nomatch z) h1, h2, h3, s.nl D (fun _ z => nomatch z) h4, Syls.mono (s.tup D) h5, h6⟩, h.tab.monoD D s, h.kin⟩
theorem StoreAt.monoD {A : Addr → Prop} {H H' : Hp} {d l s n : Nat} {ks : List Str} {mvs : Str → List Nat} (D : DealAt H d l) (S : SameD d l H H') (hA : ∀ a, A a → a ≠ d ∧ a ≠ l) (h : StoreAt A K H s n ks mvs) : StoreAt A K H' s n ks mvs := by
  obtain ⟨dx, fs, om, rg, o, kvs, rvs, h1, h2, h3, h4, h5, h6, h7, h8, h9, h10⟩ := h.ex
  have nl : ∀ {b : Addr} {u : HO}, (∀ xs, u ≠ .lst xs) → H b = some u → H' b = some u := fun n e => S.nl D n e
  refine ⟨⟨dx, fs, om, rg, o, kvs, rvs, nl (fun _ z => nomatch z) h1, h2, h3, h4, h5, h6, nl (fun _ z => nomatch z) h7, nl (fun _ z => nomatch z) h8, fun k hk => let ⟨a, b, c⟩ := h9 k hk; ⟨a, b, nl (fun _ z => nomatch z) c⟩, fun k hk => ?_⟩, h.pm, h.sm⟩
  obtain ⟨a, b, items, r1, r2, r3⟩ := h10 k hk
  refine ⟨a, b, items, S _ _ (hA _ r2.2).1 (hA _ r2.2).2 r1, r2, fun st v hv => ?_⟩
  obtain ⟨b', r', ring, pl, t1, t2, t3, t4, t5, t6⟩ := r3 st v hv
  exact ⟨b', r', ring, pl, t1, t2, t3, nl (fun _ z => nomatch z) t4, S _ _ (hA _ t3.2).1 (hA _ t3.2).2 t5, t6⟩
end
theorem MovesAt.monoD {H H' : Hp} {d l m : Addr} {mvk : List (Key × V)} {ks : List Str} {mvs : Str → List Nat} (D : DealAt H d l) (S : SameD d l H H') (hA : ∀ k ∈ ks, ∀ a, valV mvk (.inr k) = some (.ref a) → a ≠ d ∧ a ≠ l) (h : MovesAt H m mvk ks mvs) : MovesAt H' m mvk ks mvs :=
  ⟨S.nl D (fun _ z => nomatch z) h.at_, h.keys, fun k hk => let ⟨a, h1, h2⟩ := h.get k hk; ⟨a, h1, S _ _ (hA k hk a h1).1 (hA k hk a h1).2 h2⟩⟩
end Un

/-! ## D32 -/
set_option Elab.async false
set_option linter.all false
set_option maxRecDepth 100000
set_option maxHeartbeats 4000000
namespace Un
open PySem PySem.Spec PyProof.Rows L2 StX
section
variable {P : Program} {w : World} {K : PySem.W.Frag} {mg : Str → Option Value} {base : Heap}
/-! law -/
abbrev s_law : Stmt := (top 77)
abbrev N_law : List Str := ["_law_script", "_law_base", "_law_deal_here", "_law_kinds", "_law_cells_here", "_law_many", "_law_words", "_law_told", "_law_kind", "_law_reads", "_law_writes", "_law_table", "_law_moves", "_law_store_here", "_law_pairs", "_law_turn", "_law_one", "_law_row_here", "_law_due", "_law_at", "_law_to", "_law_other", "_law_more", "_law_side", "_law_cell", "_law_pair", "_law_standing"]
abbrev P_law : List Str := ["_law_script"]
theorem sc_law : FnScope N_law P_law (defScope s_law) := ⟨rfl, rfl, rfl, by decide +kernel, rfl, by decide +kernel, by decide +kernel⟩

abbrev scSide : Scope := { kind := .function, names := [(".0", .local), ("_law_side", .local), ("_law_cells_here", .cell), ("_law_kind", .cell), ("_law_words", .cell)], isGenerator := false, isCoroutine := false }
structure Deeds (P : Program) (w : World) (K : PySem.W.Frag) (mg : Str → Option Value) (base : Heap) : Prop where
  deal : FnR P w K mg base CX0 1 (He.ga K "_law_deal") (spDeal K)
  draw : FnR P w K mg base CX0 1 (He.ga K "_law_draw") spDraw
  names : FnR P w K mg base CX0 3 (He.ga K "_law_names") spNames
  row : FnR P w K mg base CX0 3 (He.ga K "_law_row") spRow
  form : FnR P w K mg base CX0 4 (He.ga K "_law_form") (spFormL K)
  led : FnR P w K mg base CX0 1 (He.ga K "_law_led") spLed
  cells : FnR P w K mg base CX0 2 (He.ga K "_law_cells") spCellsL
  store : FnR P w K mg base CX0 2 (He.ga K "_law_store") spStoreL
  leads : FnR P w K mg base CX0 2 (He.ga K "_law_leads") (spLeads K)
  amends : FnR P w K mg base CX0 11 (He.ga K "amends") (spAmends K)
  moving : FnR P w K mg base CX0 11 (He.ga K "moving") (spMoving K)
  of_cells : FnR P w K mg base CX0 5 (He5.wf K (He.ga K "Table") "classmethod" "of_cells") (spCells K)
  ver_of : FnR P w K mg base CX0 9 (He5.wf K (He.ga K "Version") "classmethod" "of") (spVerOf K)
  ver_eq : FnR P w K mg base CX0 3 (He.ma K (He.ga K "Version") "__eq__") (spVerEq K)
  row_init : FnR P w K mg base CX0 2 (He.ma K (He.ga K "Row") "__init__") (spRowInit K)
  without : FnR P w K mg base CX0 4 (He.ma K (He.ga K "Row") "without") (spWithout K)
  moved : FnR P w K mg base CX0 4 (He.ma K (He.ga K "Row") "moved") (spMoved K)
  st_init : FnR P w K mg base CX0 2 (He.ma K (He.ga K "Store") "__init__") (spStoreInit K)
  keeps : FnR P w K mg base CX0 2 (He.ma K (He.ga K "Store") "keeps") (spKeeps K)
  call : FnR P w K mg base CX0 1 (He.ma K (He.ga K "Store") "__call__") (spCall K)
theorem ne_nats {K : PySem.W.Frag} {H : Hp} {a b : Addr} {l m : List Nat} {Q : VK} (ha : H a = some (.lst (l.map vN))) (hb : H b = some (.lst (m.map vN))) (q : Q (.bl (!decide (l = m))) H) : rNeD K (.ref a) (.ref b) H Q := by
  have h1 : DpAll K H (l.map vN) ((l.map iN).map PyData.int) := by rw [map_vN]; exact dpAll_int _
  have h2 : DpAll K H (m.map vN) ((m.map iN).map PyData.int) := by rw [map_vN]; exact dpAll_int _
  refine ⟨.list ((l.map iN).map PyData.int), .list ((m.map iN).map PyData.int), .lst (SqL.of ha) h1, .lst (SqL.of hb) h2, (shaped_of _ (lay_ints _)).2, (shaped_of _ (lay_ints _)).2, ?_⟩
  have e : PyData.eqv (.list ((l.map iN).map PyData.int)) (.list ((m.map iN).map PyData.int)) = decide (l = m) := by
    have := eqvAll_map PyData.int eqv_int (l.map iN) (m.map iN)
    unfold PyData.eqv
    rw [this]
    exact decide_eq_decide.mpr ⟨iN_map_inj, fun h => by rw [h]⟩
  rw [e]
  exact q
def spLaw (K : PySem.W.Frag) : Sp := fun vs H Q _ => ∃ (a : Addr) (zs : List Int), vs = [.ref a] ∧ SqL K H a (zs.map V.int) ∧ zs.length ≤ 63 ∧ ∀ H', Same H H' → Q (.bl true) H'
theorem law_body (T : Txt K mg) (B : Deeds P w K mg base) {f : Addr} (cdv : Value) (A : Around) (outer : List Env) (s : Shared) (H : Hp) (vs : List V) (Q : VK) (E : XK) (hr : Room 12 (A.deeper (envOfC "law" (defScope s_law) s.heap.objs.size f cdv))) (h : spLaw K vs H Q E) :
    ∃ t, PSs (cxOf CX0 P w K mg base N_law "law" (defScope s_law) f cdv A outer s H E).nox (defBody s_law) t ∧ t { nx := fun _ H' => Q .non H', rt := Q } (start N_law vs) H := by
  have F__law_deal := B.deal
  have F__law_draw := B.draw
  have F__law_names := B.names
  have F__law_row := B.row
  have F__law_form := B.form
  have F__law_led := B.led
  have F__law_cells := B.cells
  have F__law_store := B.store
  have F__law_leads := B.leads
  have F_amends := B.amends
  have F_moving := B.moving
  have F_Table_of_cells := B.of_cells
  have F_Version_of := B.ver_of
  have F_Version___eq__ := B.ver_eq
  have F_Row___init__ := B.row_init
  have F_Row_without := B.without
  have F_Row_moved := B.moved
  have F_Store___init__ := B.st_init
  have F_Store_keeps := B.keeps
  have F_Store___call__ := B.call
  · obtain ⟨a, zs, rfl, ha, hl, q⟩ := h
    refine ⟨_, (pss_cons (ps_for PassesOwn.never rfl (pi_range1 rfl T.f_range (pa_cons pe_int pa_nil)) (pg_name (i := 1) sc_law.nd rfl (Or.inl rfl)) (pss_cons (ps_set (i := 2) sc_law.nd rfl (Or.inl rfl) (pe_callR F__law_deal (hr.mono (by decide)) rfl T.m__law_deal T.k__law_deal pass0 (pa_cons (pv 0) (pa_cons (pv 1) pa_nil))))
      (pss_cons (ps_set (i := 3) sc_law.nd rfl (Or.inl rfl) (pe_callR F__law_names (hr.mono (by decide)) rfl T.m__law_names T.k__law_names pass0 (pa_cons (pv 2) (pa_cons (pe_op op_add pe_int (pe_callR F__law_draw (hr.mono (by decide)) rfl T.m__law_draw T.k__law_draw pass0 (pa_cons (pv 2) (pa_cons pe_int pa_nil)))) pa_nil))))
      (pss_cons (ps_asg (pe_tup (pa_cons (pe_callR F__law_cells (hr.mono (by decide)) rfl T.m__law_cells T.k__law_cells pass0 (pa_cons (pv 2) (pa_cons (pv 3) pa_nil))) (pa_cons (pe_op op_add pe_int (pe_callR F__law_draw (hr.mono (by decide)) rfl T.m__law_draw T.k__law_draw pass0 (pa_cons (pv 2) (pa_cons pe_int pa_nil)))) (pa_cons (pe_lst (pa_cons pe_str (pa_cons pe_str (pa_cons pe_str pa_nil)))) pa_nil)))) (pg_tup (n := 3) rfl (pgs_cons (pg_name (i := 4) sc_law.nd rfl (Or.inr rfl)) (pgs_cons (pg_name (i := 5) sc_law.nd rfl (Or.inl rfl)) (pgs_cons (pg_name (i := 6) sc_law.nd rfl (Or.inr rfl)) pgs_nil)))))
      (pss_cons (ps_set (i := 7) sc_law.nd rfl (Or.inl rfl) pe_dnewK)
      (pss_cons (ps_for PassesOwn.never rfl (pi_list (pv 3)) (pg_name (i := 8) sc_law.nd rfl (Or.inr rfl)) (pss_cons (ps_asg (pe_lc rfl sc_law.nd (pi_range1 rfl T.f_range (pa_cons pe_int pa_nil)) (blkOk_by (own := [("_law_side", 23)]) (N := N_law) (sc := defScope s_law) (by decide +kernel)) (fun _ _ _ _ _ => (pg_name (i := 23) sc_law.nd rfl (Or.inl rfl))) (fun _ _ _ _ _ => pts_nil) (fun _ _ _ _ _ => (pe_lc rfl sc_law.nd (pi_list' (K := K) rfl (pe_ix (ix_tup' (K := K) rfl) (pe_dget (hu_of hr) (pv 4) (pv 8) (fun _ _ => rfl)) (pv 23) (fun _ _ => rfl))) (blkOk_by (own := [("_law_cell", 24)]) (N := N_law) (sc := scSide) (by decide +kernel)) (fun _ _ _ _ _ => (pg_name (i := 24) sc_law.nd rfl (Or.inl rfl))) (fun _ _ _ _ _ => pts_nil) (fun _ _ _ _ _ => (pe_ix (ix_list' (K := K) rfl) (pv 6) (pv 24) (fun _ _ => rfl)))))) (pg_unl (n := 2) rfl (pgs_cons (pg_name (i := 9) sc_law.nd rfl (Or.inl rfl)) (pgs_cons (pg_name (i := 10) sc_law.nd rfl (Or.inl rfl)) pgs_nil))))
      (pss_one (ps_dput (hu_of hr) (pv 7) (pv 8) (pe_tup (pa_cons (pe_callTy call_tuple_of rfl T.f_tuple boot_tuple (pa_cons (pv 9) pa_nil)) (pa_cons (pe_callTy call_tuple_of rfl T.f_tuple boot_tuple (pa_cons (pv 10) pa_nil)) pa_nil))) rfl))))
      (pss_cons (ps_set (i := 11) sc_law.nd rfl (Or.inl rfl) (ClX.pe_cmeth (pe_glob (v := .ref (He.ga K "Table")) rfl T.m_Table rfl) T.rd_Table T.cm_Table_of_cells F_Table_of_cells (hr.mono (by decide)) pass0 (pa_cons (pv 7) pa_nil)))
      (pss_cons (ps_set (i := 12) sc_law.nd rfl (Or.inr rfl) (pe_callR F__law_store (hr.mono (by decide)) rfl T.m__law_store T.k__law_store pass0 (pa_cons (pv 4) (pa_cons (pv 3) (pa_cons (pv 5) pa_nil)))))
      (pss_cons (ps_set (i := 13) sc_law.nd rfl (Or.inr rfl) (pe_makeR T.mk_Store F_Store___init__ (hr.mono (by decide)) rfl T.m_Store pass0 (pa_cons (pe_op op_mul (pe_op op_mul (pv 5) (pv 5)) (pv 5)) (pa_cons (pv 12) pa_nil))))
      (pss_cons (ps_if (pt_cmpR op_notBl (pe_methR (pv 13) T.cl_Store T.me_Store_keeps F_Store_keeps (hr.mono (by decide)) pass0 (pa_cons (pv 11) pa_nil)) pe_bl (nomark _)) (pss_one (ps_ret pe_bl)) pss_nil)
      (pss_cons (ps_setLc (i := 14) rfl sc_law.nd rfl rfl (sw_true rfl rfl rfl (by decide +kernel)) (pi_tup (pe_fld (pv 11) rfl)) (blkOk_by (own := [("_law_pair", 25)]) (N := N_law) (sc := defScope s_law) (by decide +kernel)) (fun _ _ _ _ _ => (pg_name (i := 25) sc_law.nd rfl (Or.inl rfl))) (fun _ _ _ _ _ => pts_nil) (fun _ _ _ _ _ => (pv 25)))
      (pss_one (ps_for PassesOwn.never rfl (pi_range1 rfl T.f_range (pa_cons pe_int pa_nil)) (pg_name (i := 15) sc_law.nd rfl (Or.inl rfl)) (pss_cons (ps_set (i := 16) sc_law.nd rfl (Or.inr rfl) (pe_callR F__law_row (hr.mono (by decide)) rfl T.m__law_row T.k__law_row pass0 (pa_cons (pv 2) (pa_cons (pv 3) (pa_cons (pe_op op_add pe_int (pe_callR F__law_draw (hr.mono (by decide)) rfl T.m__law_draw T.k__law_draw pass0 (pa_cons (pv 2) (pa_cons pe_int pa_nil)))) pa_nil)))))
      (pss_cons (ps_set (i := 17) sc_law.nd rfl (Or.inl rfl) (pe_makeR T.mk_Row F_Row___init__ (hr.mono (by decide)) rfl T.m_Row pass0 (pa_cons (pv 11) (pa_cons (pv 16) pa_nil))))
      (pss_cons (ps_setLc (i := 18) rfl sc_law.nd rfl rfl (sw_true rfl rfl rfl (by decide +kernel)) (pi_range1 rfl T.f_range (pa_cons (pe_fld (pv 13) rfl) pa_nil)) (blkOk_by (own := [("_law_standing", 26)]) (N := N_law) (sc := defScope s_law) (by decide +kernel)) (fun _ _ _ _ _ => (pg_name (i := 26) sc_law.nd rfl (Or.inl rfl))) (fun _ _ _ _ _ => pts_nil) (fun _ _ _ _ _ => (pe_callR F__law_led (hr.mono (by decide)) rfl T.m__law_led T.k__law_led pass0 (pa_cons (pv 12) (pa_cons (pv 16) (pa_cons (pv 26) pa_nil))))))
      (pss_cons (ps_if (PW.pt (pw_or (pt_cmpR (op_neD hr.units) (pe_callR F__law_leads (hr.mono (by decide)) rfl T.m__law_leads T.k__law_leads pass0 (pa_cons (pv 13) (pa_cons (pv 17) pa_nil))) (pv 18) (nomark _)) (pw_or1 (pt_cmpR (op_neD hr.units) (pe_callR F__law_leads (hr.mono (by decide)) rfl T.m__law_leads T.k__law_leads pass0 (pa_cons (pv 13) (pa_cons (ClX.pe_cmeth (pe_glob (v := .ref (He.ga K "Version")) rfl T.m_Version rfl) T.rd_Version T.cm_Version_of F_Version_of (hr.mono (by decide)) pass0 (pa_cons (pv 17) pa_nil)) pa_nil))) (pv 18) (nomark _))))) (pss_one (ps_ret pe_bl)) pss_nil)
      (pss_cons (ps_if (pt_cmpR (op_neD hr.units) (pe_callR F__law_leads (hr.mono (by decide)) rfl T.m__law_leads T.k__law_leads pass0 (pa_cons (pv 13) (pa_cons (pe_makeR T.mk_Row F_Row___init__ (hr.mono (by decide)) rfl T.m_Row pass0 (pa_cons (pv 11) (pa_cons (pe_callR F__law_form (hr.mono (by decide)) rfl T.m__law_form T.k__law_form pass0 (pa_cons (pv 14) (pa_cons (pv 16) pa_nil))) pa_nil))) pa_nil))) (pv 18) (nomark _)) (pss_one (ps_ret pe_bl)) pss_nil)
      (pss_cons (ps_par (i := 19) (j := 20) rfl sc_law.nd rfl rfl (by decide) rfl rfl (pa_cons (pe_callR F__law_draw (hr.mono (by decide)) rfl T.m__law_draw T.k__law_draw pass0 (pa_cons (pv 2) (pa_cons (pe_callB call_len rfl T.f_len boot_len (pa_cons (pv 16) pa_nil)) pa_nil))) (pa_cons (pe_callR F__law_draw (hr.mono (by decide)) rfl T.m__law_draw T.k__law_draw pass0 (pa_cons (pv 2) (pa_cons (pe_callB call_len rfl T.f_len boot_len (pa_cons (pv 16) pa_nil)) pa_nil))) pa_nil)) (by rfl))
      (pss_cons (ps_for PassesOwn.never rfl (pi_tup (pe_tup (pa_cons (pe_tup (pa_cons (pe_methR (pv 17) T.cl_Row T.me_Row_without F_Row_without (hr.mono (by decide)) pass0 (pa_cons (pv 19) pa_nil)) (pa_cons (pe_callR F_amends (hr.mono (by decide)) rfl T.m_amends T.k_amends pass0 (pa_cons (pv 17) (pa_cons (pv 19) pa_nil))) pa_nil))) (pa_cons (pe_tup (pa_cons (pe_methR (pv 17) T.cl_Row T.me_Row_moved F_Row_moved (hr.mono (by decide)) pass0 (pa_cons (pv 19) (pa_cons (pv 20) pa_nil))) (pa_cons (pe_callR F_moving (hr.mono (by decide)) rfl T.m_moving T.k_moving pass0 (pa_cons (pv 17) (pa_cons (pv 19) (pa_cons (pv 20) pa_nil)))) pa_nil))) pa_nil)))) (pg_tup (n := 2) rfl (pgs_cons (pg_name (i := 21) sc_law.nd rfl (Or.inl rfl)) (pgs_cons (pg_name (i := 22) sc_law.nd rfl (Or.inr rfl)) pgs_nil))) (pss_one (ps_if (pt_cmpR (op_neD hr.units) (pe_lc rfl sc_law.nd (pi_list (pv 18)) (blkOk_by (own := [("_law_standing", 26)]) (N := N_law) (sc := defScope s_law) (by decide +kernel)) (fun _ _ _ _ _ => (pg_name (i := 26) sc_law.nd rfl (Or.inl rfl))) (fun _ _ _ _ _ => pts_nil) (fun _ _ _ _ _ => (pe_callOI (pv 13) T.co_Store F_Store___call__ (hr.mono (by decide)) pass0 (pa_cons (pv 22) (pa_cons (pv 26) pa_nil))))) (pe_callR F__law_leads (hr.mono (by decide)) rfl T.m__law_leads T.k__law_leads pass0 (pa_cons (pv 13) (pa_cons (pv 21) pa_nil))) (nomark _)) (pss_one (ps_ret pe_bl)) pss_nil)))
      (pss_cons (ps_set (i := 21) sc_law.nd rfl (Or.inl rfl) (pe_makeR T.mk_Row F_Row___init__ (hr.mono (by decide)) rfl T.m_Row pass0 (pa_cons (pv 11) (pa_cons (pe_callR F__law_row (hr.mono (by decide)) rfl T.m__law_row T.k__law_row pass0 (pa_cons (pv 2) (pa_cons (pv 3) (pa_cons (pe_callB call_len rfl T.f_len boot_len (pa_cons (pv 16) pa_nil)) pa_nil)))) pa_nil))))
      (pss_one (ps_if (PW.pt (pw_and (pt_cmpR (op_neD hr.units) (pe_callR F__law_leads (hr.mono (by decide)) rfl T.m__law_leads T.k__law_leads pass0 (pa_cons (pv 13) (pa_cons (pv 21) pa_nil))) (pv 18) (nomark _)) (pw_and1 (pt_cmpR (op_eqOwn T.eq_Version T.eqf_Version T.nf_Version F_Version___eq__ (hr.mono (by decide)) pass0) (ClX.pe_cmeth (pe_glob (v := .ref (He.ga K "Version")) rfl T.m_Version rfl) T.rd_Version T.cm_Version_of F_Version_of (hr.mono (by decide)) pass0 (pa_cons (pv 17) pa_nil)) (ClX.pe_cmeth (pe_glob (v := .ref (He.ga K "Version")) rfl T.m_Version rfl) T.rd_Version T.cm_Version_of F_Version_of (hr.mono (by decide)) pass0 (pa_cons (pv 21) pa_nil)) (nomark _))))) (pss_one (ps_ret pe_bl)) pss_nil)))))))))))))))))))))))
      (pss_one (ps_ret pe_bl))), ?_⟩
    have line : sizeLine = 16777216 := sizeLine_eq
    refine ⟨2, rfl, by omega, by omega, ?_⟩
    refine for_it (walk_range (lo := 0) (n := (2 : Int).toNat)) (fun i σ H' => Same H H' ∧ ∃ v1 v2 v3 v4 v5 v6 v7 v8 v9 v10 v11 v12 v13 v14 v15 v16 v17 v18 v19 v20 v21 v22 : Option V, σ = [some (.ref a), v1, v2, v3, v4, v5, v6, v7, v8, v9, v10, v11, v12, v13, v14, v15, v16, v17, v18, v19, v20, v21, v22, none, none, none, none])
      ⟨Same.refl _, none, none, none, none, none, none, none, none, none, none, none, none, none, none, none, none, none, none, none, none, none, none, rfl⟩ (fun _ _ _ _ _ => trivial) ?_ ?_
    · rintro b y σ H00 H0 hb ⟨S0, v1, v2, v3, v4, v5, v6, v7, v8, v9, v10, v11, v12, v13, v14, v15, v16, v17, v18, v19, v20, v21, v22, rfl⟩ y'
      obtain ⟨rfl, rfl⟩ := yrng y'
      have hb2 : b < 2 := hb
      refine ⟨_, rfl, _, rfl, a, zs, b, rfl, SqL.mono S0 ha, hl, by omega, fun H1 d l S1 hd hl1 D1 => ?_⟩
      -- the kinds
      refine ⟨_, rfl, _, rfl, d, l, 4, rfl, D1, by omega, by omega, fun H2 g hg D2 S2 => ⟨_, _, rfl, rfl, ?_⟩⟩
      refine ⟨d, l, 2 + g, ?_, D2, by omega, fun H3 kk ks hok ekk k1 k2 D3 S3 => ?_⟩
      · show [V.ref d, V.int (2 + ((g : Nat) : Int))] = [V.ref d, V.int ((2 + g : Nat) : Int)]
        rw [Int.natCast_add]
        rfl
      have lks := hok.len
      -- the cells, how many, the words
      refine ⟨_, rfl, _, rfl, d, l, kk, ks, rfl, D3, k1, k2, ekk, by omega, fun H4 cd cvk cl D4 S4 hC4 => ?_⟩
      refine ⟨_, rfl, d, l, 2, rfl, D4, by omega, by omega, fun H5 g2 hg2 D5 S5 => ⟨_, _, rfl, rfl, ?_⟩⟩
      have em : (2 : Int) + ((g2 : Nat) : Int) = ((2 + g2 : Nat) : Int) := by rw [Int.natCast_add]; rfl
      obtain ⟨many, hmany⟩ : ∃ many, many = 2 + g2 := ⟨_, rfl⟩
      have hm0 : 0 < many := by omega
      have hm3 : many ≤ 3 := by omega
      refine ⟨by show 3 ≤ sizeLine; omega, fun W hW => ⟨by show 3 ≤ sizeLine; omega, fun t ht => ?_⟩⟩
      obtain ⟨W1, W2⟩ := D5.new hW
      have SW := Smn (o := .lst [V.str "x", .str "y", .str "z"]) hW
      have St := SW.trans (Smn (o := .tup [.ref cd, V.int (2 + ((g2 : Nat) : Int)), .ref W]) ht)
      have eW : (upd (upd H5 W (.lst [V.str "x", .str "y", .str "z"])) t (.tup [.ref cd, V.int (2 + ((g2 : Nat) : Int)), .ref W])) W = some (.lst [V.str "x", .str "y", .str "z"]) := Smn ht _ _ upd_same
      have D6 := D5.mono St
      have S16 : SameD d l H1 _ := (((S2.trans S3).trans S4).trans S5).trans (Same.d St)
      have S36 : SameD d l H3 _ := (S4.trans S5).trans (Same.d St)
      have S46 : SameD d l H4 _ := S5.trans (Same.d St)
      refine ⟨t, [.ref cd, vN many, .ref W], rfl, SqT.of (by rw [hmany]; show upd _ _ (.tup [.ref cd, V.int (2 + ((g2 : Nat) : Int)), .ref W]) _ = some (.tup [.ref cd, V.int ((2 + g2 : Nat) : Int), .ref W]); rw [← em]; exact upd_same), rfl, _, _, rfl, _, _, rfl, _, _, rfl, rfl, ?_⟩
      generalize (upd (upd H5 W (.lst [V.str "x", .str "y", .str "z"])) t (.tup [.ref cd, V.int (2 + ((g2 : Nat) : Int)), .ref W])) = H6 at *
      have hC : CellsAt H6 cd cvk ks cl := (hC4.mono (SameD.msk S46)).mono (msk_same _ _ _)
      have ekk6 := S36 _ _ k1 k2 ekk
      have okc : ∀ k ∈ ks, CellOk (cl k) := fun k hk => by
        obtain ⟨_, _, h⟩ := hC.get k hk
        exact h.ok
      -- what is told of the cells
      refine fun M hM => ?_
      have SM := Smn (o := .dK []) hM
      refine ⟨_, rfl, kk, rfl, ⟨_, SqL.of (SM _ _ ekk6)⟩, ?_⟩
      refine for_it (walk_list (K := K) (a := kk) (xs := ks.map V.str)) (fun i σ H' => Same H6 H' ∧ ∃ (v8 v9 v10 : Option V) (tvk : List (Key × V)), σ = [some (.ref a), some (vN b), some (.ref d), some (.ref kk), some (.ref cd), some (vN many), some (.ref W), some (.ref M), v8, v9, v10, v11, v12, v13, v14, v15, v16, v17, v18, v19, v20, v21, v22, none, none, none, none] ∧
          H' M = some (.dK tvk) ∧ tvk.map Prod.fst = (ks.take i).map Sum.inr ∧ ∀ k ∈ ks.take i, ∃ a r wr, valV tvk (.inr k) = some (.ref a) ∧ H' a = some (.tup [.ref r, .ref wr]) ∧ H' r = some (.tup ((rkOf cl k).1.map V.str)) ∧ H' wr = some (.tup ((rkOf cl k).2.map V.str)))
        ⟨SM, v8, v9, v10, [], rfl, upd_same, rfl, fun k h => by cases h⟩ (fun i σ H' _ p => SqL.of (p.1 _ _ ekk6)) ?_ ?_
      · rintro i y σ H70 H7 hi ⟨S7, w8, w9, w10, tvk, rfl, eM, hkeys, hget⟩ y'
        obtain ⟨k, hk, rfl, rfl⟩ := yat_map y'
        have km := List.mem_of_getElem? hk
        have tk : ks.take (i + 1) = ks.take i ++ [k] := take_snoc hk
        obtain ⟨ca, hca1, hca2⟩ := hC.get k km
        obtain ⟨cr, cw, cf, c1, c2, c3, c4⟩ := hca2.ex
        have ok := hca2.ok
        have l1 := ok.rl
        have l2 := ok.wl
        obtain ⟨sd, hsd⟩ : ∃ sd : Nat → List Nat, sd = fun j => if j = 0 then (cl k).reads else (cl k).writes := ⟨_, rfl⟩
        have sdl : ∀ j, (sd j).length ≤ 3 ∧ ∀ c ∈ sd j, c < 3 := fun j => by
          rw [hsd]
          show (if j = 0 then _ else _ : List Nat).length ≤ 3 ∧ ∀ c ∈ (if j = 0 then _ else _ : List Nat), c < 3
          by_cases c : j = 0
          · rw [if_pos c]
            exact ⟨l1, ok.rlt⟩
          · rw [if_neg c]
            exact ⟨l2, ok.wlt⟩
        refine ⟨2, rfl, by omega, by omega, fun D hD => ?_⟩
        refine lcP (walk_range (lo := 0) (n := (2 : Int).toNat)) (List.range 2) (by rfl) (fun _ => true) (fun j v H' => ∃ p, v = V.ref p ∧ p ≠ D ∧ H' p = some (.lst (((sd j).map wd).map V.str))) hD (by rw [List.length_range]; omega) (fun _ _ => trivial) (fun z v H' H'' S' ⟨p, e, n, h⟩ => ⟨p, e, n, S' _ _ h⟩) (fun z v H' acc ys eD S' ⟨p, e, n, h⟩ => ⟨p, e, n, by rw [upd_ne n]; exact h⟩) ?_ ?_
        · rintro j x x2 H12 H13 K4 K3 hx S12 ⟨acc0, eA⟩ y2 k1' k2'
          have hj : j < 2 := by
            have := (List.getElem?_eq_some_iff.mp hx).1
            rw [List.length_range] at this
            exact this
          have ejm : j = x := by
            rw [List.getElem?_range hj] at hx
            exact Option.some.inj hx
          subst ejm
          obtain ⟨rfl, rfl⟩ := yrng y2
          have S02 := S7.trans S12
          obtain ⟨pl, hpl, epl⟩ : ∃ pl, ([V.ref cr, .ref cw, .ref cf, vN (cl k).more] : List V)[j]? = some (.ref pl) ∧ H6 pl = some (.lst ((sd j).map vN)) := by
            rw [hsd]
            show ∃ pl, _ ∧ H6 pl = some (.lst ((if j = 0 then _ else _ : List Nat).map vN))
            by_cases c : j = 0
            · subst c
              rw [if_pos rfl]
              exact ⟨cr, rfl, c2⟩
            · have : j = 1 := by omega
              subst this
              rw [if_neg (by omega)]
              exact ⟨cw, rfl, c3⟩
          refine ⟨rfl, ?_⟩
          refine ⟨_, rfl, _, rfl, cd, .ref ca, rfl, hca1 ▸ DGet.k (k := Sum.inr k) (S02 _ _ hC.at_), _, rfl, ca, _, _, _, rfl, rfl, SqT.of (S02 _ _ c1), at_of rfl hpl, pl, rfl, ⟨_, SqL.of (S02 _ _ epl)⟩, fun D2 hD2 => ?_⟩
          obtain ⟨sl, sc3⟩ := sdl j
          refine lcV (walk_list (K := K) (a := pl) (xs := (sd j).map vN)) (sd j) (by rw [List.length_map]) (fun _ => true) (fun c => V.str (wd c)) hD2 (by omega) (fun H' S' => SqL.of (S' _ _ (S02 _ _ epl))) ?_ ?_
          · rintro i2 c x3 H14 H15 K6 K5 hc S14 hA3 y3 q1 q2
            obtain ⟨c', hc', rfl, rfl⟩ := yat_map y3
            have : c' = c := Option.some.inj (hc'.symm.trans hc)
            subst this
            have cc3 := sc3 c' (List.mem_of_getElem? hc)
            refine ⟨rfl, _, rfl, _, rfl, W, _, _, V.str (wd c'), rfl, rfl, SqL.of (S14 _ _ (S02 _ _ eW)), at_of rfl ?_, q1 rfl _ (Same.refl _)⟩
            match c', cc3 with
            | 0, _ => rfl
            | 1, _ => rfl
            | 2, _ => rfl
          intro H14 S14 eD2
          rw [filter_all] at eD2
          refine k1' rfl _ _ S14 ⟨D2, rfl, fun z => ?_, by rw [eD2, List.map_map]; rfl⟩
          rw [z, eA] at hD2
          cases hD2
        intro H8 acc S8 eD hacc
        rw [filter_all] at hacc
        obtain ⟨p0, p1, rfl, e0, e1⟩ : ∃ p0 p1, acc = [V.ref p0, V.ref p1] ∧ H8 p0 = some (.lst (((cl k).reads.map wd).map V.str)) ∧ H8 p1 = some (.lst (((cl k).writes.map wd).map V.str)) := by
          have h := hacc
          rw [show List.range 2 = [0, 1] from rfl] at h
          cases h with
          | cons ha hb =>
            cases hb with
            | cons hb hc =>
              cases hc
              obtain ⟨p0, rfl, _, h0⟩ := ha
              obtain ⟨p1, rfl, _, h1⟩ := hb
              rw [hsd] at h0 h1
              exact ⟨p0, p1, rfl, h0, h1⟩
        refine ⟨D, _, rfl, SqL.of eD, rfl, _, _, rfl, _, _, rfl, rfl, ?_⟩
        refine ⟨_, rfl, p0, _, rfl, .inl ⟨SqL.of e0, fun t0 ht0 => ?_⟩⟩
        have Sa := Smn (o := .tup (((cl k).reads.map wd).map V.str)) ht0
        have et0 : (upd H8 t0 (.tup (((cl k).reads.map wd).map V.str))) t0 = some (.tup (((cl k).reads.map wd).map V.str)) := upd_same
        have e1' := Sa _ _ e1
        have S79 := S8.trans Sa
        generalize (upd H8 t0 (.tup (((cl k).reads.map wd).map V.str))) = H9 at *
        refine ⟨_, rfl, p1, _, rfl, .inl ⟨SqL.of e1', fun t1 ht1 => ?_⟩⟩
        have Sb := Smn (o := .tup (((cl k).writes.map wd).map V.str)) ht1
        have et1 : (upd H9 t1 (.tup (((cl k).writes.map wd).map V.str))) t1 = some (.tup (((cl k).writes.map wd).map V.str)) := upd_same
        have et0' := Sb _ _ et0
        have S710 := S79.trans Sb
        generalize (upd H9 t1 (.tup (((cl k).writes.map wd).map V.str))) = H10 at *
        refine ⟨by show 2 ≤ sizeLine; omega, fun tt htt => ?_⟩
        have Sc := Smn (o := .tup [V.ref t0, .ref t1]) htt
        have ett : (upd H10 tt (.tup [V.ref t0, .ref t1])) tt = some (.tup [.ref t0, .ref t1]) := upd_same
        have et0'' := Sc _ _ et0'
        have et1'' := Sc _ _ et1
        have S711 := S710.trans Sc
        generalize (upd H10 tt (.tup [V.ref t0, .ref t1])) = H11 at *
        have eM11 := S711 _ _ eM
        have hik : i < ks.length := by simpa using hi
        have ltv : tvk.length ≤ i := by
          have := congrArg List.length hkeys
          rw [List.length_map, List.length_map, List.length_take] at this
          omega
        have hnew : valV tvk (Sum.inr k) = none := by
          cases e : valV tvk (Sum.inr k) with
          | none => rfl
          | some v =>
            have h1 := valV_in e
            have h2 : Sum.inr k ∈ (ks.take i).map (Sum.inr : Str → Key) := hkeys ▸ h1
            obtain ⟨k', hk', e'⟩ := List.mem_map.mp h2
            have e'' : k' = k := Sum.inr.inj e'
            subst e''
            obtain ⟨j, hj, ej⟩ := List.getElem_of_mem hk'
            rw [List.length_take] at hj
            rw [List.getElem_take] at ej
            obtain ⟨hi2, ei⟩ := List.getElem?_eq_some_iff.mp hk
            have := (List.getElem_inj hok.nd).mp (ej.trans ei.symm)
            omega
        refine ⟨_, rfl, _, rfl, M, _, rfl, DPut.k (k := Sum.inr k) eM11 (by omega), ?_⟩
        have td := Tup_dK (u := .dK (putK tvk (Sum.inr k) (.ref tt))) eM11
        have hM6 : H6 M = none := hM
        refine ⟨Sup (S7.trans S711) hM6, _, _, _, putK tvk (Sum.inr k) (.ref tt), rfl, upd_same, ?_, fun k' hk' => ?_⟩
        · rw [putK_new _ hnew, List.map_append, hkeys, tk, List.map_append]
          rfl
        · rw [valV_put]
          by_cases c : (Sum.inr k' : Key) = Sum.inr k
          · rw [if_pos c]
            have : k' = k := Sum.inr.inj c
            subst this
            exact ⟨tt, t0, t1, rfl, td _ _ ett, td _ _ et0'', td _ _ et1''⟩
          · rw [if_neg c]
            rw [tk] at hk'
            rcases List.mem_append.mp hk' with h | h
            · obtain ⟨a1, r1, wr1, h1, h2, h3, h4⟩ := hget k' h
              exact ⟨a1, r1, wr1, h1, td _ _ (S711 _ _ h2), td _ _ (S711 _ _ h3), td _ _ (S711 _ _ h4)⟩
            · exact absurd (by rw [List.mem_singleton.mp h]) c
      · rintro σ H7 ⟨S7, w8, w9, w10, tvk, rfl, eM, hkeys, hget⟩
        rw [List.length_map, List.take_length] at hkeys hget
        have D7 := D6.mono S7
        have ekk7 := S7 _ _ ekk6
        -- the table
        refine ⟨rfl, _, rfl, _, M, tvk, ks, rkOf cl, rfl, eM, hkeys, hok.nd, hok.ok, by omega, by omega, fun k hk => ?_, fun H8 tb Tt S8 hT kp hfr => ?_⟩
        · obtain ⟨a1, r1, wr1, h1, h2, h3, h4⟩ := hget k hk
          have ok := okc k hk
          have l1 := ok.rl
          have l2 := ok.wl
          exact ⟨a1, r1, wr1, h1, h2, h3, h4, by show ((cl k).reads.map wd).length ≤ 100; rw [List.length_map]; omega, by show ((cl k).writes.map wd).length ≤ 100; rw [List.length_map]; omega⟩
        have D8 := D7.mono S8
        have S68 := S7.trans S8
        have snd : Sound Tt (many * many * many) (mvOf ks cl many) := sound_of hm0 okc hT.ok.norm hfr
        have pms := mvOf_pm hm0 okc
        -- the moves
        refine ⟨_, rfl, _, rfl, _, rfl, cd, kk, many, cvk, ks, cl, rfl, hC.mono S68, S68 _ _ ekk6, hok.nd, by omega, hm0, hm3, fun H9 md mvk S9 hMv hfresh => ?_⟩
        have D9 := D8.mono S9
        have hN : many * many * many ≤ 27 := by
          have h1 := Nat.mul_le_mul hm3 hm3
          have h2 := Nat.mul_le_mul h1 hm3
          omega
        -- the store
        refine ⟨_, rfl, _, rfl, _, _, rfl, rfl, .inl ⟨by omega, by omega⟩, _, rfl, _, _, rfl, rfl, .inr ⟨by omega, by omega⟩, _, rfl, fun st dx hst hdx nst => ?_⟩
        have Sx : Same H9 (upd (upd H9 dx (.own st)) st (.ins (He.ga K "Store") dx [])) := fun b u e => by
          rw [upd_ne (ne_of_none e hst), upd_ne (ne_of_none e hdx)]
          exact e
        refine ⟨fun a => a ≠ d ∧ a ≠ l, st, dx, many * many * many, md, mvk, ks, mvOf ks cl many, ?_, fun c hc => (D9.mono Sx).new hc, upd_same, Sx _ _ hMv.at_, hMv.keys, hok.nd, hok.ok, by omega, fun k hk => ?_, pms, by omega, fun H10 X10 hSt => ⟨rfl, ?_⟩⟩
        · show [V.ref st, V.int (((many : Nat) : Int) * ((many : Nat) : Int) * ((many : Nat) : Int)), V.ref md] = _
          rw [← Int.natCast_mul, ← Int.natCast_mul]
        · obtain ⟨l', h1, h2⟩ := hMv.get k hk
          exact ⟨l', h1, Sx _ _ h2⟩
        have S910 : Same H9 H10 := fun b u e => X10 b u (ne_of_none e hst) (Sx _ _ e)
        have D10 := D9.mono S910
        have hT10 := (hT.mono S9).mono S910
        have hMv10 := hMv.mono S910
        have S610 := S68.trans (S9.trans S910)
        have hA : ∀ a, (fun a : Addr => a ≠ d ∧ a ≠ l) a → a ≠ d ∧ a ≠ l := fun _ h => h
        have hfr10 : ∀ k ∈ ks, ∀ a, valV mvk (.inr k) = some (.ref a) → a ≠ d ∧ a ≠ l := fun k hk a ha => D8.new (hfresh k hk a ha)
        -- it keeps the table
        obtain ⟨sdx, sfs, som, srg, so, skvs, srvs, s1, s2, s3, s4, s5, s6, _⟩ := hSt.ex
        have kin : ∀ k ∈ Tt.kinds, k ∈ ks := fun k hk => kp.mem_iff.mp hk
        refine ⟨_, rfl, st, sdx, sfs, rfl, s1, s6, _, rfl, _, st, tb, _, ks, _, Tt, rfl, hSt, hT10, kin, fun p hp x hx => ?_, ?_⟩
        · have hf : Tt.fr p.1 p.2 = true := freeL_fr hT.ok.norm (by unfold freeL; rw [decide_eq_true (show (p.1, p.2) ∈ Tt.pairs from hp)]; rfl)
          exact (snd.com p.1 p.2 hf x).symm
        refine ⟨true, true, rfl, rfl, _, rfl, ite_f rfl ?_⟩
        -- the pairs
        obtain ⟨tdx, tfs, tks, tps, tln, tkvs, tpvs, t1, t2, t3, t4, t5, t6, t7, _⟩ := hT10.ex
        refine ⟨_, rfl, tb, _, tdx, tfs, _, rfl, t1, T.cl_Table, T.na_Table_pairs, t5, tps, rfl, ⟨_, SqT.of t6⟩, fun pr hpr => ?_⟩
        obtain ⟨pr1, pr2⟩ := D10.new hpr
        have lpv := Pr.len t7
        have lpf := hT.ok.pfew
        refine lcP (walk_tup (K := K) (a := tps) (xs := tpvs)) Tt.pairs lpv (fun _ => true) (fun z v H' => PrV H' v z) hpr (by omega) (fun H' S' => SqT.of (S' _ _ t6)) (fun z v H' H'' S' h => h.mono (Smt S')) (fun z v H' acc ys eD S' h => h.mono (Tup_lst eD)) ?_ ?_
        · rintro j z x2 H12 H13 K4 K3 hz S12 hA2 y2 k1' k2'
          obtain ⟨z', hz', ⟨qb, rfl, hqb⟩, rfl⟩ := yat_pair t7 y2
          have : z' = z := Option.some.inj (hz'.symm.trans hz)
          subst this
          exact ⟨rfl, _, rfl, k1' rfl _ _ (Same.refl _) ⟨qb, rfl, S12 _ _ hqb⟩⟩
        intro H11 pvs S11 epr hpvs
        rw [filter_all] at hpvs
        have D11 := D10.mono S11
        have hT11 := hT10.mono S11
        have hSt11 := hSt.mono S11
        have hMv11 := hMv10.mono S11
        have ekk11 := S11 _ _ (S610 _ _ ekk6)
        have S011 : Same H H11 := fun c u e => by
          have h0 := S0 _ _ e
          have h1 := S1 _ _ h0
          have n1 : c ≠ d := ne_of_none h0 hd
          have n2 : c ≠ l := ne_of_none h0 hl1
          exact S11 _ _ (S610 _ _ (S16 _ _ n1 n2 h1))
        have hd0 : H d = none := Same.none S0 hd
        have hl0 : H l = none := Same.none S0 hl1
        refine ⟨3, rfl, by omega, by omega, ?_⟩
        refine for_it (walk_range (lo := 0) (n := (3 : Int).toNat)) (fun i σ H' => DealAt H' d l ∧ SameD d l H11 H' ∧ ∃ w8 w9 w10 w15 w16 w17 w18 w19 w20 w21 w22 : Option V, σ = [some (.ref a), some (vN b), some (.ref d), some (.ref kk), some (.ref cd), some (vN many), some (.ref W), some (.ref M), w8, w9, w10, some (.ref tb), some (.ref md), some (.ref st), some (.ref pr), w15, w16, w17, w18, w19, w20, w21, w22, none, none, none, none])
          ⟨D11, fun c u _ _ e => e, _, _, _, _, _, _, _, _, _, _, _, rfl⟩ (fun _ _ _ _ _ => trivial) ?_ ?_
        · rintro tn y σ H120 H12 htn ⟨D12, S12, w8, w9, w10, w15, w16, w17, w18, w19, w20, w21, w22, rfl⟩ y'
          obtain ⟨rfl, rfl⟩ := yrng y'
          obtain ⟨n, hn⟩ : ∃ n, n = many * many * many := ⟨_, rfl⟩
          obtain ⟨mvs, hmvs⟩ : ∃ mvs, mvs = mvOf ks cl many := ⟨_, rfl⟩
          rw [← hn, ← hmvs] at snd hSt11
          rw [← hmvs] at hMv11
          rw [← hn, ← hmvs] at pms
          have hn27 : n ≤ 27 := by omega
          have hT12 := hT11.monoD D11 S12
          have hSt12 := hSt11.monoD D11 S12 hA
          have hMv12 := hMv11.monoD D11 S12 hfr10
          have ekk12 := S12 _ _ k1 k2 ekk11
          have epr12 := S12 _ _ pr1 pr2 epr
          have hpv12 := Prs.mono (S12.tup D11) hpvs
          have oks : ∀ k ∈ ks, PyData.strOk k = true := fun k hk => (hok.ok k hk).strOk
          -- a row
          refine ⟨_, rfl, _, rfl, _, rfl, d, l, 8, rfl, D12, by omega, by omega, fun H13 g3 hg3 D13 S13 => ⟨_, _, rfl, rfl, ?_⟩⟩
          refine ⟨d, l, kk, 1 + g3, ks, ?_, D13, k1, k2, S13 _ _ k1 k2 ekk12, by omega, by omega, oks, by omega, fun H14 p1 us ss lss hss ep1 hU p1d p1l D14 S14 => ?_⟩
          · show [V.ref d, V.ref kk, V.int (1 + ((g3 : Nat) : Int))] = [V.ref d, V.ref kk, V.int ((1 + g3 : Nat) : Int)]
            rw [Int.natCast_add]
            rfl
          have S1214 := S13.trans S14
          have hT14 := hT12.monoD D12 S1214
          have hSt14 := hSt12.monoD D12 S1214 hA
          have hMv14 := hMv12.monoD D12 S1214 hfr10
          have ekk14 := S1214 _ _ k1 k2 ekk12
          have epr14 := S1214 _ _ pr1 pr2 epr12
          have hpv14 := Prs.mono (S1214.tup D12) hpv12
          have hkT : inK Tt ss := fun z hz => kp.mem_iff.mpr (hss z hz)
          refine ⟨_, rfl, _, rfl, ?_⟩
          refine row_made (k := true) (Same.refl _) hT14 ep1 hU hkT (by omega) fun H15 rr S15 R15 => ?_
          have hSt15 := hSt14.mono S15
          have hMv15 := hMv14.mono S15
          obtain ⟨dx5, fs5, om5, rg5, o5, kv5, rv5, z1, z2, z3, z4, z5, z6, _⟩ := hSt15.ex
          -- what is due
          refine ⟨_, rfl, st, _, dx5, fs5, _, rfl, z1, T.cl_Store, T.na_Store_size, z2, ((n : Nat) : Int), rfl, by omega, by omega, fun D hD => ?_⟩
          obtain ⟨Dd, Dl⟩ := (D14.mono S15).new hD
          refine lcV (walk_range (lo := 0) (n := ((n : Nat) : Int).toNat)) (List.range n) (by rw [List.length_range]; omega) (fun _ => true) (fun x => vN (runL (stp n mvs) ss x)) hD (by rw [List.length_range]; omega) (fun _ _ => trivial) ?_ ?_
          · rintro j x x2 H12' H13' K4 K3 hx Sx hA2 y2 q1 q2
            have hj : j < n := by
              have := (List.getElem?_eq_some_iff.mp hx).1
              rw [List.length_range] at this
              exact this
            have ejm : j = x := by
              rw [List.getElem?_range hj] at hx
              exact Option.some.inj hx
            subst ejm
            obtain ⟨rfl, rfl⟩ := yrng y2
            exact ⟨rfl, _, rfl, _, rfl, _, rfl, md, p1, j, n, mvk, ks, mvs, us, ss, rfl, hMv15.mono Sx, Sx _ _ (S15 _ _ ep1), Syls.mono (Smt (S15.trans Sx)) hU, hss, pms, by omega, hj, fun H' S' => q1 rfl _ S'⟩
          intro H16 S16' eD
          rw [filter_all] at eD
          have eD' : H16 D = some (.lst ((leadsL n mvs ss).map vN)) := by
            rw [eD]
            unfold leadsL
            rw [List.map_map]
            rfl
          have S1416 := S15.trans S16'
          have D16 := D14.mono S1416
          -- the row and its version
          refine ⟨_, rfl, _, rfl, _, st, rr, n, ks, mvs, ss, rfl, hSt15.mono S16', (R15.mono S16').has T, hss, fun H17 q1 S17 eq1 => ⟨_, rfl, ?_⟩⟩
          refine ne_nats eq1 (S17 _ _ eD') ?_
          rw [decide_eq_true rfl]
          refine ⟨_, rfl, ite_f rfl ?_⟩
          have S1417 := S1416.trans S17
          refine ⟨_, rfl, rfl, _, rfl, _, rr, tb, Tt, ss, rfl, R15.mono (S16'.trans S17), by omega, fun H18 vv rs1 S18 V18 ev18 => ?_⟩
          have S1418 := S1417.trans S18
          have kin' : ∀ {l : List (Str × Int)}, inK Tt l → ∀ z ∈ l, z.1 ∈ ks := fun h z hz => kp.mem_iff.mp (h z hz)
          refine ⟨_, st, vv, n, ks, mvs, rs1, rfl, hSt14.mono S1418, V18.has T, kin' V18.kin, fun H19 q2 S19 eq2 => ⟨_, rfl, ?_⟩⟩
          have S1419 := S1418.trans S19
          have eD19 := ((S17.trans S18).trans S19) _ _ eD'
          refine ne_nats eq2 eD19 ?_
          rw [decide_eq_true (leads_of fun s => (snd.fr ev18.eqv s).symm : leadsL n mvs rs1 = leadsL n mvs ss)]
          refine ⟨_, rfl, ite_f rfl ?_⟩
          -- its form
          have PR : PrRw K H19 pr p1 Tt.pairs us ss := ⟨⟨pvs, SqL.of (S1419 _ _ epr14), Prs.mono (Smt S1419) hpv14⟩, fun c hc => ⟨(hT.ok.name _ (hT.ok.sub c hc).1).strOk, (hT.ok.name _ (hT.ok.sub c hc).2).strOk⟩, S1419 _ _ ep1, Syls.mono (Smt S1419) hU, fun z hz => oks _ (hss z hz), by omega⟩
          refine ⟨_, rfl, _, rfl, _, rfl, _, rfl, pr, p1, Tt.pairs, us, ss, rfl, PR, fun H20 fb fus frs S20 efb hfU fev flen fk => ?_⟩
          have S1420 := S1419.trans S20
          have fkin : inK Tt frs := fun z hz => by
            obtain ⟨x', h1, e1⟩ := fk z hz
            rw [e1]
            exact hkT x' h1
          refine row_made (k := false) (Same.refl _) (hT14.mono S1420) efb hfU fkin (by omega) fun H21 fr S21 R21 => ?_
          have S1421 := S1420.trans S21
          refine ⟨_, st, fr, n, ks, mvs, frs, rfl, hSt14.mono S1421, R21.has T, kin' fkin, fun H22 q3 S22 eq3 => ⟨_, rfl, ?_⟩⟩
          have S1422 := S1421.trans S22
          have eD22 := ((S20.trans S21).trans S22) _ _ eD19
          refine ne_nats eq3 eD22 ?_
          rw [decide_eq_true (leads_of fun s => (snd.free fev s).symm : leadsL n mvs frs = leadsL n mvs ss)]
          refine ⟨_, rfl, ite_f rfl ?_⟩
          -- two places
          have D22 := D14.mono S1422
          have lus := Pr.len hU
          refine ⟨_, rfl, _, rfl, _, us.length, rfl, .inl ⟨_, SqL.of (S1422 _ _ ep1), rfl⟩, d, l, ss.length, by rw [lus], D22, by omega, by omega, fun H23 i hi D23 S23 => ?_⟩
          refine ⟨_, rfl, _, rfl, _, us.length, rfl, .inl ⟨_, SqL.of (S23 _ _ p1d p1l (S1422 _ _ ep1)), rfl⟩, d, l, ss.length, by rw [lus], D23, by omega, by omega, fun H24 j hj D24 S24 => ?_⟩
          refine ⟨_, _, rfl, ?_⟩
          have S2224 := S23.trans S24
          have R22 : RowAt K H22 rr tb Tt ss := R15.mono (((((S16'.trans S17).trans S18).trans S19).trans S20).trans (S21.trans S22))
          have R24 := R22.monoD D22 S2224
          have hSt24 := (hSt14.mono S1422).monoD D22 S2224 hA
          have hT24 := (hT14.mono S1422).monoD D22 S2224
          have ekk24 := S2224 _ _ k1 k2 (S1422 _ _ ekk14)
          have eD24 := S2224 _ _ Dd Dl eD22
          have ep24 := S2224 _ _ p1d p1l (S1422 _ _ ep1)
          obtain ⟨zz, hzz⟩ : ∃ zz, ss[i]? = some zz := ⟨_, List.getElem?_eq_getElem hi⟩
          obtain ⟨rdx, rfs, rp, rvs, m1, m2, m3, m4, m5, m6, m7⟩ := R24.ex
          -- the two deeds, each with what amends it
          refine ⟨_, rfl, rr, rdx, rfs, rfl, m1, m6, _, rfl, rr, i, tb, Tt, ss, rfl, R24, by omega, hi, fun H25 x1 S25 X1 => ?_⟩
          refine ⟨_, rfl, _, rfl, rr, i, tb, Tt, ss, rfl, R24.mono S25, by omega, hi, fun H26 x2 rs2 S26 X2 ev2 => ?_⟩
          refine ⟨by show 2 ≤ sizeLine; omega, fun t1 ht1 => ?_⟩
          have Sa := S25.trans (S26.trans (Smn (o := .tup [.ref x1, .ref x2]) ht1))
          have et1 : (upd H26 t1 (.tup [.ref x1, .ref x2])) t1 = some (.tup [V.ref x1, .ref x2]) := upd_same
          have X1a := X1.mono (S26.trans (Smn (o := .tup [.ref x1, .ref x2]) ht1))
          have X2a := X2.mono (Smn (o := .tup [.ref x1, .ref x2]) ht1)
          generalize (upd H26 t1 (.tup [.ref x1, .ref x2])) = H27 at *
          refine ⟨_, rfl, rr, rdx, rfs, rfl, Sa _ _ m1, m7, _, rfl, _, rfl, rr, i, j, tb, Tt, ss, zz, rfl, R24.mono Sa, by omega, hzz, hj, fun H28 x3 S28 X3 => ?_⟩
          refine ⟨_, rfl, _, rfl, _, rfl, rr, i, j, tb, Tt, ss, zz, rfl, R24.mono (Sa.trans S28), by omega, hzz, hj, fun H29 x4 rs4 S29 X4 ev4 => ?_⟩
          refine ⟨by show 2 ≤ sizeLine; omega, fun t2 ht2 => ?_⟩
          have S279 := S28.trans (S29.trans (Smn (o := .tup [.ref x3, .ref x4]) ht2))
          have et2 : (upd H29 t2 (.tup [.ref x3, .ref x4])) t2 = some (.tup [V.ref x3, .ref x4]) := upd_same
          have X3a := X3.mono (S29.trans (Smn (o := .tup [.ref x3, .ref x4]) ht2))
          have X4a := X4.mono (Smn (o := .tup [.ref x3, .ref x4]) ht2)
          generalize (upd H29 t2 (.tup [.ref x3, .ref x4])) = H30 at *
          refine ⟨by show 2 ≤ sizeLine; omega, fun t3 ht3 => ?_⟩
          have S31 := Smn (o := .tup [.ref t1, .ref t2]) ht3
          have S2431 := (Sa.trans S279).trans S31
          have et3 : (upd H30 t3 (.tup [.ref t1, .ref t2])) t3 = some (.tup [V.ref t1, .ref t2]) := upd_same
          have et1b := S31 _ _ (S279 _ _ et1)
          have et2b := S31 _ _ et2
          have X1b := (X1a.mono S279).mono S31
          have X2b := (X2a.mono S279).mono S31
          have X3b := X3a.mono S31
          have X4b := X4a.mono S31
          generalize (upd H30 t3 (.tup [.ref t1, .ref t2])) = H31 at *
          have two : ∀ (m : Nat) y, ([V.ref t1, .ref t2] : List V)[m]? = some y → ∃ tt x v zs' rs', y = .ref tt ∧ H31 tt = some (.tup [V.ref x, .ref v]) ∧ RowAt K H31 x tb Tt zs' ∧ VerAt K H31 v tb Tt rs' ∧ ∀ s, runL (stp n mvs) rs' (runL (stp n mvs) ss s) = runL (stp n mvs) zs' s := fun m y hy => by
            match m with
            | 0 =>
              have e : V.ref t1 = y := Option.some.inj hy
              subst e
              exact ⟨t1, x1, x2, _, rs2, rfl, et1b, X1b, X2b, snd.undo ev2.eqv⟩
            | 1 =>
              have e : V.ref t2 = y := Option.some.inj hy
              subst e
              exact ⟨t2, x3, x4, _, rs4, rfl, et2b, X3b, X4b, snd.undo ev4.eqv⟩
            | m + 2 => cases hy
          refine ⟨t3, rfl, ⟨_, SqT.of et3⟩, ?_⟩
          refine for_it (walk_tup (K := K) (a := t3) (xs := [V.ref t1, .ref t2])) (fun i' σ H' => Same H31 H' ∧ ∃ u21 u22 : Option V, σ = [some (.ref a), some (vN b), some (.ref d), some (.ref kk), some (.ref cd), some (vN many), some (.ref W), some (.ref M), w8, w9, w10, some (.ref tb), some (.ref md), some (.ref st), some (.ref pr), some (vN tn), some (.ref p1), some (.ref rr), some (.ref D), some (vN i), some (vN j), u21, u22, none, none, none, none])
            ⟨Same.refl _, _, _, rfl⟩ (fun _ _ _ _ p => SqT.of (p.1 _ _ et3)) ?_ ?_
          · rintro m y σ H320 H32 hm ⟨S32, u21, u22, rfl⟩ y2
            obtain ⟨rfl, hy⟩ : H32 = H320 ∧ ([V.ref t1, .ref t2] : List V)[m]? = some y := y2
            obtain ⟨tt, x, v, zs', rs', rfl, ett, Xx, Xv, hund⟩ := two m y hy
            refine Un.g2 (SqT.of (S32 _ _ ett)) ?_
            have S2432 := S2431.trans S32
            have eD32 := S2432 _ _ eD24
            have hSt32 := hSt24.mono S2432
            obtain ⟨dx6, fs6, om6, rg6, o6, kv6, rv6, y1, _⟩ := hSt32.ex
            refine ⟨_, rfl, D, rfl, ⟨_, SqL.of eD32⟩, fun Dx hDx => ?_⟩
            have lle : (leadsL n mvs ss).length = n := by unfold leadsL; rw [List.length_map, List.length_range]
            refine lcV (walk_list (K := K) (a := D) (xs := (leadsL n mvs ss).map vN)) (leadsL n mvs ss) (by rw [List.length_map]) (fun _ => true) (fun s => vN (runL (stp n mvs) rs' s)) hDx (by omega) (fun H' S' => SqL.of (S' _ _ eD32)) ?_ ?_
            · rintro j' x' x2' H12' H13' K4 K3 hx Sx hA2 y3 q1' q2'
              obtain ⟨z', hz', rfl, rfl⟩ := yat_map y3
              have : z' = x' := Option.some.inj (hz'.symm.trans hx)
              subst this
              obtain ⟨s0, hs0, es0⟩ := List.mem_map.mp (List.mem_of_getElem? hx)
              have zlt : z' < n := by
                rw [← es0]
                exact stp_lt pms ss hss s0 (List.mem_range.mp hs0)
              exact ⟨rfl, _, rfl, st, rfl, _, rfl, _, rfl, ⟨dx6, fs6, Sx _ _ y1⟩, _, st, v, z', n, ks, mvs, rs', rfl, hSt32.mono Sx, (Xv.mono (S32.trans Sx)).has T, kin' Xv.kin, zlt, q1' rfl _ (Same.refl _)⟩
            intro H33 S33 eDx
            rw [filter_all] at eDx
            have eDx' : H33 Dx = some (.lst (((leadsL n mvs ss).map (runL (stp n mvs) rs')).map vN)) := by
              rw [eDx, List.map_map]
              rfl
            refine ⟨_, rfl, _, rfl, _, st, x, n, ks, mvs, zs', rfl, hSt32.mono S33, (Xx.mono (S32.trans S33)).has T, kin' Xx.kin, fun H34 q4 S34 eq4 => ?_⟩
            refine ne_nats (S34 _ _ eDx') eq4 ?_
            have el : (leadsL n mvs ss).map (runL (stp n mvs) rs') = leadsL n mvs zs' := by
              unfold leadsL
              rw [List.map_map]
              exact List.map_congr_left fun s _ => hund s
            rw [decide_eq_true el]
            refine ⟨_, rfl, ite_f rfl ?_⟩
            exact ⟨S32.trans (S33.trans S34), _, _, rfl⟩
          · rintro σ H32 ⟨S32, u21, u22, rfl⟩
            have S2432 := S2431.trans S32
            have D32 := D24.mono S2432
            have ep32 := S2432 _ _ ep24
            -- another row
            refine ⟨_, rfl, _, rfl, _, rfl, _, rfl, _, us.length, rfl, .inl ⟨_, SqL.of ep32, rfl⟩, d, l, kk, ss.length, ks, by rw [lus], D32, k1, k2, S2432 _ _ ekk24, by omega, by omega, oks, by omega, fun H33 p2 us2 zs2 lzs hzs ep2 hU2 p2d p2l D33 S33 => ?_⟩
            have hT33 := (hT24.mono S2432).monoD D32 S33
            have hSt33 := (hSt24.mono S2432).monoD D32 S33 hA
            have R33 := (R24.mono S2432).monoD D32 S33
            have eD33 := S33 _ _ Dd Dl (S2432 _ _ eD24)
            refine row_made (k := true) (Same.refl _) hT33 ep2 hU2 (fun z hz => kp.mem_iff.mpr (hzs z hz)) (by omega) fun H34 or S34 R34 => ?_
            refine ⟨_, rfl, _, rfl, _, st, or, n, ks, mvs, zs2, rfl, hSt33.mono S34, R34.has T, hzs, fun H35 q5 S35 eq5 => ⟨_, rfl, ?_⟩⟩
            refine ne_nats eq5 (S35 _ _ (S34 _ _ eD33)) ?_
            have S3335 := S34.trans S35
            have fin : ∀ H' (u21' u22' : Option V), Same H33 H' → DealAt H' d l ∧ SameD d l H11 H' ∧ ∃ w8' w9' w10' w15 w16 w17 w18 w19 w20 w21 w22 : Option V, [some (V.ref a), some (vN b), some (.ref d), some (.ref kk), some (.ref cd), some (vN many), some (.ref W), some (.ref M), w8, w9, w10, some (.ref tb), some (.ref md), some (.ref st), some (.ref pr), some (vN tn), some (.ref p1), some (.ref rr), some (.ref D), some (vN i), some (vN j), u21', u22', none, none, none, none] = [some (V.ref a), some (vN b), some (.ref d), some (.ref kk), some (.ref cd), some (vN many), some (.ref W), some (.ref M), w8', w9', w10', some (.ref tb), some (.ref md), some (.ref st), some (.ref pr), w15, w16, w17, w18, w19, w20, w21, w22, none, none, none, none] := fun H' u21' u22' S' =>
              ⟨D33.mono S', ((((S12.trans S1214).trans (Same.d S1422)).trans S2224).trans (Same.d S2432)).trans (S33.trans (Same.d S')), _, _, _, _, _, _, _, _, _, _, _, rfl⟩
            refine ⟨_, rfl, ?_⟩
            refine ite2 (fun c => ?_) (fun c => ?_)
            · have hne : leadsL n mvs zs2 ≠ leadsL n mvs ss := fun z => by rw [decide_eq_true z] at c; cases c
              refine ⟨rfl, _, rfl, _, rr, tb, Tt, ss, rfl, R33.mono S3335, by omega, fun H36 va rsa S36 VA eva => ?_⟩
              refine ⟨rfl, _, rfl, _, or, tb, Tt, zs2, rfl, R34.mono (S35.trans S36), by omega, fun H37 vb rsb S37 VB evb => ?_⟩
              have VA' := VA.mono S37
              obtain ⟨ax, af, ap, avs, a1, _⟩ := VA'.ex
              obtain ⟨bx, bf, bp, bvs, b1, _⟩ := VB.ex
              refine ⟨va, ax, af, vb, bx, bf, rfl, rfl, a1, b1, va, vb, tb, Tt, rsa, rsb, rfl, VA', VB, ?_⟩
              have hneq : rsa ≠ rsb := fun z => hne (leads_of fun s => by rw [snd.fr evb.eqv s, snd.fr eva.eqv s, z])
              rw [decide_eq_false hneq]
              refine ⟨_, rfl, ite_f rfl ?_⟩
              exact fin H37 _ _ ((S3335.trans S36).trans S37)
            · exact fin H35 _ _ S3335
        · rintro σ H12 ⟨D12, S12, w8, w9, w10, w15, w16, w17, w18, w19, w20, w21, w22, rfl⟩
          refine ⟨fun c u e => ?_, _, _, _, _, _, _, _, _, _, _, _, _, _, _, _, _, _, _, _, _, _, _, rfl⟩
          exact S12 _ _ (ne_of_none e hd0) (ne_of_none e hl0) (S011 _ _ e)
    · rintro σ H' ⟨S, v1, v2, v3, v4, v5, v6, v7, v8, v9, v10, v11, v12, v13, v14, v15, v16, v17, v18, v19, v20, v21, v22, rfl⟩
      exact q H' S
end
end Un

/-! ## HA -/
set_option Elab.async false
set_option linter.all false
set_option maxRecDepth 100000
set_option maxHeartbeats 0
/-! The head: what the top leaves, told of names; the run; the join. -/
namespace Un
open PySem PySem.Spec PyProof.Rows L2 StX
/-! ### our Hook: the facts, the defs at any address, further Bools -/
def obsU (fa : List He.Fa) (fn : List He5.DefA) (ex : List (PySem.W.Frag → Bool)) (K : PySem.W.Frag) : He.AlD × Bool := (He5.obsA fa fn K, ex.all fun b => b K)
/-- what an object names: a def's code and defaults, a class's namespace, a namespace's values, a tuple's items, a classmethod's def -/
def refsU (o : Obj) : List Addr := match o.data with
  | .func fd => He.refV fd.code ++ He.refV fd.defaults
  | .cls cd => [cd.ns]
  | .dict es _ => es.toList.flatMap fun e => He.refV e.val
  | .seq its _ => its.toList.flatMap He.refV
  | .fields vs => (match o.cls with
    | .type n => (match n == "classmethod" with
      | true => vs.toList.flatMap He.refV
      | false => [])
    | _ => [])
  | _ => []
def levU (g : Addr → Option Obj) (as : List Addr) : List Addr := as.flatMap fun a => match g a with
  | some o => refsU o
  | none => []
def gaU (g : Addr → Option Obj) (x : Str) : List Addr := match g mainGlobals with
  | some ⟨_, _, .dict es _, _⟩ => (match es.toList.find? (·.key.isStr x) with
    | some e => He.refV e.val
    | none => [])
  | _ => []
def frL {α : Type} : List Addr → (List Addr → α) → α
  | [], k => k []
  | a :: r, k => HandSHeadRun.frNat a fun a => frL r fun r => k (a :: r)
theorem frL_eq {α : Type} : ∀ (l : List Addr) (k : List Addr → α), frL l k = k l
  | [], _ => rfl
  | a :: r, k => by
    show HandSHeadRun.frNat a (fun a => frL r fun r => k (a :: r)) = _
    rw [HandSHeadRun.frNat_eq, frL_eq r]
def frK {α : Type} : PySem.W.Frag → (PySem.W.Frag → α) → α
  | [], k => k []
  | (a, o) :: r, k => HandSHeadRun.frNat a fun a => frK r fun r => k ((a, o) :: r)
theorem frK_eq {α : Type} : ∀ (l : PySem.W.Frag) (k : PySem.W.Frag → α), frK l k = k l
  | [], _ => rfl
  | (a, o) :: r, k => by
    show HandSHeadRun.frNat a (fun a => frK r fun r => k ((a, o) :: r)) = _
    rw [HandSHeadRun.frNat_eq, frK_eq r]
/-- the part of the heap that the names of need reach, handed on in a forced form -/
def withU {α : Type} (need : List Str) (g : Addr → Option Obj) (k : PySem.W.Frag → α) : α :=
  frL (need.flatMap (gaU g)) fun l1 => frL (levU g l1) fun l2 => frL (levU g l2) fun l3 => frL (levU g l3) fun l4 => frL (levU g l4) fun l5 =>
    frK (He.frG g (mainGlobals :: cStatics :: (l1 ++ (l2 ++ (l3 ++ (l4 ++ l5)))))) k
theorem withU_eq {α : Type} (need : List Str) (g : Addr → Option Obj) : ∃ as : List Addr, ∀ k : PySem.W.Frag → α, withU need g k = k (He.frG g as) :=
  ⟨mainGlobals :: cStatics :: (need.flatMap (gaU g) ++ (levU g (need.flatMap (gaU g)) ++ (levU g (levU g (need.flatMap (gaU g))) ++ (levU g (levU g (levU g (need.flatMap (gaU g)))) ++ levU g (levU g (levU g (levU g (need.flatMap (gaU g))))))))), fun k => by
    unfold withU
    rw [frL_eq, frL_eq, frL_eq, frL_eq, frL_eq, frK_eq]⟩
def obsUG (need : List Str) (fa : List He.Fa) (fn : List He5.DefA) (ex : List (PySem.W.Frag → Bool)) (g : Addr → Option Obj) : He.AlD × Bool := withU need g (obsU fa fn ex)
structure SaysU (fa : List He.Fa) (fn : List He5.DefA) (ex : List (PySem.W.Frag → Bool)) (K : PySem.W.Frag) : Prop where
  a : He5.SaysA fa fn K
  x : (ex.all fun b => b K) = true
def hookU (n : List Str) (fa : List He.Fa) (fn : List He5.DefA) (ex : List (PySem.W.Frag → Bool)) : PySem.W.Hook where
  α := He.AlD × Bool
  obs := fun s => obsUG n fa fn ex s.heap.get?
  val := fun _ => (He5.valA fn, true)
  says := fun _ h => ∃ K : PySem.W.Frag, K.In h ∧ SaysU fa fn ex K
  of := fun _ s e => by
    obtain ⟨as, h⟩ := withU_eq (α := He.AlD × Bool) n s.heap.get?
    have e2 : obsU fa fn ex (He.frG s.heap.get? as) = (He5.valA fn, true) := (h _).symm.trans e
    exact ⟨_, He.frG_in, congrArg Prod.fst e2, congrArg Prod.snd e2⟩
  keeps := fun _ _ _ ⟨K, hK, c⟩ k => ⟨K, PySem.W.Frag.In.keeps hK k, c⟩
theorem obsUG_eq {n : List Str} {fa : List He.Fa} {fn : List He5.DefA} {ex : List (PySem.W.Frag → Bool)} {g : Addr → Option Obj} {s : Shared} (h : ∀ a, g a = s.heap.get? a) : obsUG n fa fn ex g = (hookU n fa fn ex).obs s := by
  have e : g = s.heap.get? := funext h
  rw [e] <;> rfl
section
variable {fa : List He.Fa} {fn : List He5.DefA} {ex : List (PySem.W.Frag → Bool)} {K : PySem.W.Frag}
theorem SaysU.fact (c : SaysU fa fn ex K) (i : Nat) {f : He.Fa} (h : fa[i]? = some f := by rfl) : f.ok K = true := c.a.fact i h
theorem SaysU.more (c : SaysU fa fn ex K) (i : Nat) {b : PySem.W.Frag → Bool} (h : ex[i]? = some b := by rfl) : b K = true := List.all_eq_true.mp c.x b (List.mem_of_getElem? h)
theorem SaysU.def_ (c : SaysU fa fn ex K) (i : Nat) {d : He5.DefA} (h : fn[i]? = some d := by rfl) : ∃ fd, FunD K d.name d.qual d.params d.body d.scope (d.dvs K) (d.kws K) (d.at_ K) fd := c.a.def_ i h
end
section
variable {K : PySem.W.Frag} {x qual : Str} {st : Stmt} {f : Addr} {fd : FuncData} {kws : List (Str × V)}
theorem fnT_of (F : FunD K x qual (defArgs st) (defBody st) (defScope st) [] kws f fd) : FnT K x qual st f := by
  obtain ⟨oc, od, dV, kV, doc, pm, an, cdv, ct, osl, e, l, c, hd, _⟩ := F.ex
  rcases hd with ⟨_, e2⟩ | ⟨e2, _⟩
  · subst e2
    subst e
    exact ⟨oc, od, kV, doc, pm, an, cdv, ct, osl, l, c⟩
  · exact absurd rfl e2
theorem fnT1_of {v : V} (F : FunD K x qual (defArgs st) (defBody st) (defScope st) [v] kws f fd) : FnT1 K x qual st f := by
  obtain ⟨oc, od, dV, kV, doc, pm, an, cdv, ct, osl, e, l, c, hd, _⟩ := F.ex
  rcases hd with ⟨e2, _⟩ | ⟨_, T, o, its, n, e2, lT, ho, hv⟩
  · cases e2
  · subst e2
    subst e
    obtain ⟨u, rfl, _⟩ := vals1 hv
    exact ⟨oc, od, T, o, u, n, kV, doc, pm, an, cdv, ct, osl, l, c, lT, ho⟩
end
/-- the first default of the def that stands at a class's m -/
def dflU (C m : Str) (K : PySem.W.Frag) : Addr := match K.lookup (He.ma K (He.ga K C) m) with
  | some ⟨_, _, .func fd, _⟩ => (match fd.defaults with
    | .ref T => (match K.lookup T with
      | some ⟨_, _, .seq its _, _⟩ => (match (its.toList.head? : Option Value) with
        | some (.ref a) => a
        | _ => 0)
      | _ => 0)
    | _ => 0)
  | _ => 0
def d_Table_links : He5.DefA := ⟨fun K => He.ma K (He.ga K "Table") "links", "links", "Table.links", defArgs s_Table_links, defBody s_Table_links, defScope s_Table_links, [], []⟩
def d_melting_at : He5.DefA := ⟨fun K => He.ga K "melting_at", "melting_at", "melting_at", defArgs s_melting_at, defBody s_melting_at, defScope s_melting_at, [], []⟩
def d_in_pair : He5.DefA := ⟨fun K => He.ga K "in_pair", "in_pair", "in_pair", defArgs s_in_pair, defBody s_in_pair, defScope s_in_pair, [], []⟩
def d_check_index : He5.DefA := ⟨fun K => He.ga K "check_index", "check_index", "check_index", defArgs s_check_index, defBody s_check_index, defScope s_check_index, [], []⟩
def d_limited : He5.DefA := ⟨fun K => He.ga K "limited", "limited", "limited", defArgs s_limited, defBody s_limited, defScope s_limited, [], []⟩
def d_meet : He5.DefA := ⟨fun K => He.ga K "meet", "meet", "meet", defArgs s_meet, defBody s_meet, defScope s_meet, [], []⟩
def d_check_known : He5.DefA := ⟨fun K => He.ga K "check_known", "check_known", "check_known", defArgs s_check_known, defBody s_check_known, defScope s_check_known, [], []⟩
def d_is_name : He5.DefA := ⟨fun K => He.ga K "is_name", "is_name", "is_name", defArgs s_is_name, defBody s_is_name, defScope s_is_name, [], []⟩
def d_check_kinds : He5.DefA := ⟨fun K => He.ga K "check_kinds", "check_kinds", "check_kinds", defArgs s_check_kinds, defBody s_check_kinds, defScope s_check_kinds, [], []⟩
def d_depths : He5.DefA := ⟨fun K => He.ga K "depths", "depths", "depths", defArgs s_depths, defBody s_depths, defScope s_depths, [], []⟩
def d_layers_of : He5.DefA := ⟨fun K => He.ga K "layers_of", "layers_of", "layers_of", defArgs s_layers_of, defBody s_layers_of, defScope s_layers_of, [], []⟩
def d_formed : He5.DefA := ⟨fun K => He.ga K "formed", "formed", "formed", defArgs s_formed, defBody s_formed, defScope s_formed, [], []⟩
def d_shortened : He5.DefA := ⟨fun K => He.ga K "shortened", "shortened", "shortened", defArgs s_shortened, defBody s_shortened, defScope s_shortened, [], []⟩
def d_appended : He5.DefA := ⟨fun K => He.ga K "appended", "appended", "appended", defArgs s_appended, defBody s_appended, defScope s_appended, [], []⟩
def d_pressed : He5.DefA := ⟨fun K => He.ga K "pressed", "pressed", "pressed", defArgs s_pressed, defBody s_pressed, defScope s_pressed, [], []⟩
def d_firsts : He5.DefA := ⟨fun K => He.ga K "firsts", "firsts", "firsts", defArgs s_firsts, defBody s_firsts, defScope s_firsts, [], []⟩
def d_lasts : He5.DefA := ⟨fun K => He.ga K "lasts", "lasts", "lasts", defArgs s_lasts, defBody s_lasts, defScope s_lasts, [], []⟩
def d_Table___init__ : He5.DefA := ⟨fun K => He.ma K (He.ga K "Table") "__init__", "__init__", "Table.__init__", defArgs s_Table___init__, defBody s_Table___init__, defScope s_Table___init__, [.adr (dflU "Table" "__init__")], []⟩
def d_Table_of_cells : He5.DefA := ⟨fun K => He5.wf K (He.ga K "Table") "classmethod" "of_cells", "of_cells", "Table.of_cells", defArgs s_Table_of_cells, defBody s_Table_of_cells, defScope s_Table_of_cells, [], []⟩
def d_Table___eq__ : He5.DefA := ⟨fun K => He.ma K (He.ga K "Table") "__eq__", "__eq__", "Table.__eq__", defArgs s_Table___eq__, defBody s_Table___eq__, defScope s_Table___eq__, [], []⟩
def d_Row___init__ : He5.DefA := ⟨fun K => He.ma K (He.ga K "Row") "__init__", "__init__", "Row.__init__", defArgs s_Row___init__, defBody s_Row___init__, defScope s_Row___init__, [.adr (dflU "Row" "__init__")], []⟩
def d_Row___invert__ : He5.DefA := ⟨fun K => He.ma K (He.ga K "Row") "__invert__", "__invert__", "Row.__invert__", defArgs s_Row___invert__, defBody s_Row___invert__, defScope s_Row___invert__, [], []⟩
def d_Row___add__ : He5.DefA := ⟨fun K => He.ma K (He.ga K "Row") "__add__", "__add__", "Row.__add__", defArgs s_Row___add__, defBody s_Row___add__, defScope s_Row___add__, [], []⟩
def d_Row_moved : He5.DefA := ⟨fun K => He.ma K (He.ga K "Row") "moved", "moved", "Row.moved", defArgs s_Row_moved, defBody s_Row_moved, defScope s_Row_moved, [], []⟩
def d_Row_without : He5.DefA := ⟨fun K => He.ma K (He.ga K "Row") "without", "without", "Row.without", defArgs s_Row_without, defBody s_Row_without, defScope s_Row_without, [], []⟩
def d_Version___init__ : He5.DefA := ⟨fun K => He.ma K (He.ga K "Version") "__init__", "__init__", "Version.__init__", defArgs s_Version___init__, defBody s_Version___init__, defScope s_Version___init__, [.adr (dflU "Version" "__init__")], []⟩
def d_Version_of : He5.DefA := ⟨fun K => He5.wf K (He.ga K "Version") "classmethod" "of", "of", "Version.of", defArgs s_Version_of, defBody s_Version_of, defScope s_Version_of, [], []⟩
def d_Version___eq__ : He5.DefA := ⟨fun K => He.ma K (He.ga K "Version") "__eq__", "__eq__", "Version.__eq__", defArgs s_Version___eq__, defBody s_Version___eq__, defScope s_Version___eq__, [], []⟩
def d_moving : He5.DefA := ⟨fun K => He.ga K "moving", "moving", "moving", defArgs s_moving, defBody s_moving, defScope s_moving, [], []⟩
def d_amends : He5.DefA := ⟨fun K => He.ga K "amends", "amends", "amends", defArgs s_amends, defBody s_amends, defScope s_amends, [], []⟩
def d_rings_of : He5.DefA := ⟨fun K => He.ga K "rings_of", "rings_of", "rings_of", defArgs s_rings_of, defBody s_rings_of, defScope s_rings_of, [], []⟩
def d_Store___init__ : He5.DefA := ⟨fun K => He.ma K (He.ga K "Store") "__init__", "__init__", "Store.__init__", defArgs s_Store___init__, defBody s_Store___init__, defScope s_Store___init__, [], []⟩
def d_Store___call__ : He5.DefA := ⟨fun K => He.ma K (He.ga K "Store") "__call__", "__call__", "Store.__call__", defArgs s_Store___call__, defBody s_Store___call__, defScope s_Store___call__, [], []⟩
def d_Store_clash : He5.DefA := ⟨fun K => He.ma K (He.ga K "Store") "clash", "clash", "Store.clash", defArgs s_Store_clash, defBody s_Store_clash, defScope s_Store_clash, [], []⟩
def d_Store_keeps : He5.DefA := ⟨fun K => He.ma K (He.ga K "Store") "keeps", "keeps", "Store.keeps", defArgs s_Store_keeps, defBody s_Store_keeps, defScope s_Store_keeps, [], []⟩
def d__law_deal : He5.DefA := ⟨fun K => He.ga K "_law_deal", "_law_deal", "_law_deal", defArgs s__law_deal, defBody s__law_deal, defScope s__law_deal, [], []⟩
def d__law_draw : He5.DefA := ⟨fun K => He.ga K "_law_draw", "_law_draw", "_law_draw", defArgs s__law_draw, defBody s__law_draw, defScope s__law_draw, [], []⟩
def d__law_is_free : He5.DefA := ⟨fun K => He.ga K "_law_is_free", "_law_is_free", "_law_is_free", defArgs s__law_is_free, defBody s__law_is_free, defScope s__law_is_free, [], []⟩
def d__law_count : He5.DefA := ⟨fun K => He.ga K "_law_count", "_law_count", "_law_count", defArgs s__law_count, defBody s__law_count, defScope s__law_count, [], []⟩
def d__law_mixed : He5.DefA := ⟨fun K => He.ga K "_law_mixed", "_law_mixed", "_law_mixed", defArgs s__law_mixed, defBody s__law_mixed, defScope s__law_mixed, [], []⟩
def d__law_row : He5.DefA := ⟨fun K => He.ga K "_law_row", "_law_row", "_law_row", defArgs s__law_row, defBody s__law_row, defScope s__law_row, [], []⟩
def d__law_melting : He5.DefA := ⟨fun K => He.ga K "_law_melting", "_law_melting", "_law_melting", defArgs s__law_melting, defBody s__law_melting, defScope s__law_melting, [], []⟩
def d__law_short : He5.DefA := ⟨fun K => He.ga K "_law_short", "_law_short", "_law_short", defArgs s__law_short, defBody s__law_short, defScope s__law_short, [], []⟩
def d__law_layers : He5.DefA := ⟨fun K => He.ga K "_law_layers", "_law_layers", "_law_layers", defArgs s__law_layers, defBody s__law_layers, defScope s__law_layers, [], []⟩
def d__law_form : He5.DefA := ⟨fun K => He.ga K "_law_form", "_law_form", "_law_form", defArgs s__law_form, defBody s__law_form, defScope s__law_form, [], []⟩
def d__law_led : He5.DefA := ⟨fun K => He.ga K "_law_led", "_law_led", "_law_led", defArgs s__law_led, defBody s__law_led, defScope s__law_led, [], []⟩
def d__law_leads : He5.DefA := ⟨fun K => He.ga K "_law_leads", "_law_leads", "_law_leads", defArgs s__law_leads, defBody s__law_leads, defScope s__law_leads, [], []⟩
def d__law_content : He5.DefA := ⟨fun K => He.ga K "_law_content", "_law_content", "_law_content", defArgs s__law_content, defBody s__law_content, defScope s__law_content, [], []⟩
def d__law_store : He5.DefA := ⟨fun K => He.ga K "_law_store", "_law_store", "_law_store", defArgs s__law_store, defBody s__law_store, defScope s__law_store, [], []⟩
def d__law_cells : He5.DefA := ⟨fun K => He.ga K "_law_cells", "_law_cells", "_law_cells", defArgs s__law_cells, defBody s__law_cells, defScope s__law_cells, [], []⟩
def d__law_names : He5.DefA := ⟨fun K => He.ga K "_law_names", "_law_names", "_law_names", defArgs s__law_names, defBody s__law_names, defScope s__law_names, [], []⟩
def d_law : He5.DefA := ⟨fun K => He.ga K "law", "law", "law", defArgs s_law, defBody s_law, defScope s_law, [], []⟩
def fn0 : List He5.DefA := [d_Table_links, d_melting_at, d_in_pair, d_check_index, d_limited, d_meet, d_check_known, d_is_name, d_check_kinds, d_depths, d_layers_of, d_formed]
def fn1 : List He5.DefA := [d_shortened, d_appended, d_pressed, d_firsts, d_lasts, d_Table___init__, d_Table_of_cells, d_Table___eq__, d_Row___init__, d_Row___invert__, d_Row___add__, d_Row_moved]
def fn2 : List He5.DefA := [d_Row_without, d_Version___init__, d_Version_of, d_Version___eq__, d_moving, d_amends, d_rings_of, d_Store___init__, d_Store___call__, d_Store_clash, d_Store_keeps, d__law_deal]
def fn3 : List He5.DefA := [d__law_draw, d__law_is_free, d__law_count, d__law_mixed, d__law_row, d__law_melting, d__law_short, d__law_layers, d__law_form, d__law_led, d__law_leads, d__law_content]
def fn4 : List He5.DefA := [d__law_store, d__law_cells, d__law_names, d_law]
abbrev fnU : List He5.DefA := [d_Table_links, d_melting_at, d_in_pair, d_check_index, d_limited, d_meet, d_check_known, d_is_name, d_check_kinds, d_depths, d_layers_of, d_formed, d_shortened, d_appended, d_pressed, d_firsts, d_lasts, d_Table___init__, d_Table_of_cells, d_Table___eq__, d_Row___init__, d_Row___invert__, d_Row___add__, d_Row_moved, d_Row_without, d_Version___init__, d_Version_of, d_Version___eq__, d_moving, d_amends, d_rings_of, d_Store___init__, d_Store___call__, d_Store_clash, d_Store_keeps, d__law_deal, d__law_draw, d__law_is_free, d__law_count, d__law_mixed, d__law_row, d__law_melting, d__law_short, d__law_layers, d__law_form, d__law_led, d__law_leads, d__law_content, d__law_store, d__law_cells, d__law_names, d_law]
abbrev faU : List He.Fa := [.free "len", .free "max", .free "sum", .free "any", .free "all", .free "range", .free "enumerate", .free "zip", .free "tuple", .free "list", .free "set", .free "sorted", .free "isinstance", .free "int", .free "str", .glo "is_name", .glo "check_kinds", .glo "in_pair", .glo "check_known", .glo "meet", .glo "melting_at", .glo "depths", .glo "layers_of", .glo "formed", .glo "shortened", .glo "appended", .glo "pressed", .glo "firsts", .glo "lasts", .glo "check_index", .glo "limited", .glo "amends", .glo "moving", .glo "rings_of", .glo "_law_deal", .glo "_law_draw", .glo "_law_mixed", .glo "_law_names", .glo "_law_is_free", .glo "_law_count", .glo "_law_row", .glo "_law_melting", .glo "_law_short", .glo "_law_layers", .glo "_law_form", .glo "_law_led", .glo "_law_cells", .glo "_law_content", .glo "_law_store", .glo "_law_leads", .glo "Table", .glo "Row", .glo "Version", .glo "Store", .keep "is_name", .keep "check_kinds", .keep "in_pair", .keep "check_known", .keep "meet", .keep "melting_at", .keep "depths", .keep "layers_of", .keep "formed", .keep "shortened", .keep "appended", .keep "pressed", .keep "firsts", .keep "lasts", .keep "check_index", .keep "limited", .keep "amends", .keep "moving", .keep "rings_of", .keep "_law_deal", .keep "_law_draw", .keep "_law_mixed", .keep "_law_names", .keep "_law_is_free", .keep "_law_count", .keep "_law_row", .keep "_law_melting", .keep "_law_short", .keep "_law_layers", .keep "_law_form", .keep "_law_led", .keep "_law_cells", .keep "_law_content", .keep "_law_store", .keep "_law_leads", .int "LONGEST" 6, .int "MOST_KINDS" 12, .int "LIMIT" 1000, .str "LETTERS" "abcdefghijklmnopqrstuvwxyz", .cls "Table", .mkr "Table", .noat "Table" "kinds", .noat "Table" "pairs", .noat "Table" "linked", .cls "Row", .mkr "Row", .noat "Row" "table", .noat "Row" "syllables", .cls "Version", .mkr "Version", .noat "Version" "table", .noat "Version" "syllables", .noat "Version" "row", .noat "Version" "kinds", .noat "Version" "layers", .noat "Version" "last", .cls "Store", .mkr "Store", .noat "Store" "size", .noat "Store" "own_moves", .noat "Store" "rings", .meth "Table" "links", .meth "Row" "moved", .meth "Row" "without", .meth "Store" "keeps", .meth "Store" "clash", .glo "law"]
abbrev exU : List (PySem.W.Frag → Bool) := [fun K => He.eqO (PySem.W.specialIn K (.ref (He.ma K (He.ga K "Row") "without")) "__get__") (some (some (.builtin "function.__get__"))),
  fun K => decide (PySem.W.takesIn K (.ref (He.ma K (He.ga K "Row") "without")) = some false),
  fun K => PySem.W.fnIn K (He.ma K (He.ga K "Row") "without"),
  fun K => He5.wrapB K (He.ga K "Table") "classmethod" "classmethod.__get__" "of_cells",
  fun K => PySem.W.fnIn K (He5.wf K (He.ga K "Table") "classmethod" "of_cells"),
  fun K => He5.wrapB K (He.ga K "Version") "classmethod" "classmethod.__get__" "of",
  fun K => PySem.W.fnIn K (He5.wf K (He.ga K "Version") "classmethod" "of"),
  fun K => PySem.W.readsIn K (He.ga K "Table") (.type "type"),
  fun K => He.eqO (PySem.W.specialIn K (.ref (He.ga K "Table")) "__getattribute__") (some (some (.builtin "type.__getattribute__"))),
  fun K => He.eqO (PySem.W.findIn K (.ref (He.ga K "Table")) "__eq__") (some (some (.ref (He.ma K (He.ga K "Table") "__eq__")))),
  fun K => PySem.W.isFn K (.ref (He.ma K (He.ga K "Table") "__eq__")),
  fun K => PySem.W.notFirst K (He.ga K "Table") (.ref (He.ga K "Table")),
  fun K => He.eqO (PySem.W.findIn K (.ref (He.ga K "Table")) "__class__") (some (some (.builtin "object.__class__"))),
  fun K => He.eqO (PySem.W.specialIn K (.builtin "object.__class__") "__get__") (some (some (.builtin "getset_descriptor.__get__"))),
  fun K => decide (PySem.W.takesIn K (.builtin "object.__class__") = some true),
  fun K => decide (PySem.W.mroIn K (He.ga K "Table") (.type "object") = some true),
  fun K => decide (PySem.W.kitOne K (.ref (He.ga K "Table")) (.ref (He.ga K "Table")) = some true),
  fun K => PySem.W.readsIn K (He.ga K "Version") (.type "type"),
  fun K => He.eqO (PySem.W.specialIn K (.ref (He.ga K "Version")) "__getattribute__") (some (some (.builtin "type.__getattribute__"))),
  fun K => He.eqO (PySem.W.findIn K (.ref (He.ga K "Version")) "__eq__") (some (some (.ref (He.ma K (He.ga K "Version") "__eq__")))),
  fun K => PySem.W.isFn K (.ref (He.ma K (He.ga K "Version") "__eq__")),
  fun K => PySem.W.notFirst K (He.ga K "Version") (.ref (He.ga K "Version")),
  fun K => He.eqO (PySem.W.findIn K (.ref (He.ga K "Version")) "__class__") (some (some (.builtin "object.__class__"))),
  fun K => decide (PySem.W.mroIn K (He.ga K "Version") (.type "object") = some true),
  fun K => decide (PySem.W.kitOne K (.ref (He.ga K "Version")) (.ref (He.ga K "Version")) = some true),
  fun K => He.eqO (PySem.W.findIn K (.ref (He.ga K "Table")) "__ne__") (some (some (.builtin "object.__ne__"))),
  fun K => He.eqO (PySem.W.findIn K (.ref (He.ga K "Row")) "__invert__") (some (some (.ref (He.ma K (He.ga K "Row") "__invert__")))),
  fun K => PySem.W.isFn K (.ref (He.ma K (He.ga K "Row") "__invert__")),
  fun K => He.eqO (PySem.W.findIn K (.ref (He.ga K "Row")) "__add__") (some (some (.ref (He.ma K (He.ga K "Row") "__add__")))),
  fun K => PySem.W.isFn K (.ref (He.ma K (He.ga K "Row") "__add__")),
  fun K => He.eqO (PySem.W.findIn K (.ref (He.ga K "Row")) "__radd__") (some none),
  fun K => PySem.W.selfFirst K (He.ga K "Row"),
  fun K => He.eqO (PySem.W.findIn K (.ref (He.ga K "Store")) "__call__") (some (some (.ref (He.ma K (He.ga K "Store") "__call__")))),
  fun K => PySem.W.isFn K (.ref (He.ma K (He.ga K "Store") "__call__")),
  fun K => PySem.W.fnIn K (He.ma K (He.ga K "Store") "__call__")]
def need0 : List Str := [("Table" : Str), ("Row" : Str), ("Version" : Str), ("Store" : Str), ("is_name" : Str), ("check_kinds" : Str), ("in_pair" : Str), ("check_known" : Str), ("meet" : Str), ("melting_at" : Str), ("depths" : Str), ("layers_of" : Str)]
def need1 : List Str := [("formed" : Str), ("shortened" : Str), ("appended" : Str), ("pressed" : Str), ("firsts" : Str), ("lasts" : Str), ("check_index" : Str), ("limited" : Str), ("amends" : Str), ("moving" : Str), ("rings_of" : Str), ("_law_deal" : Str)]
def need2 : List Str := [("_law_draw" : Str), ("_law_mixed" : Str), ("_law_names" : Str), ("_law_is_free" : Str), ("_law_count" : Str), ("_law_row" : Str), ("_law_melting" : Str), ("_law_short" : Str), ("_law_layers" : Str), ("_law_form" : Str), ("_law_led" : Str), ("_law_cells" : Str)]
def need3 : List Str := [("_law_content" : Str), ("_law_store" : Str), ("_law_leads" : Str), ("law" : Str)]
def needU : List Str := need0 ++ need1 ++ need2 ++ need3
theorem txt_of {K : PySem.W.Frag} {h : Heap} {mg : Str → Option Value} (X : K.In h) (G : h.Ns mainGlobals mg) (c : SaysU faU fnU exU K) : Txt K mg where
  f_len := He.free_ok X G (c.fact 0 (f := .free "len"))
  f_max := He.free_ok X G (c.fact 1 (f := .free "max"))
  f_sum := He.free_ok X G (c.fact 2 (f := .free "sum"))
  f_any := He.free_ok X G (c.fact 3 (f := .free "any"))
  f_all := He.free_ok X G (c.fact 4 (f := .free "all"))
  f_range := He.free_ok X G (c.fact 5 (f := .free "range"))
  f_enumerate := He.free_ok X G (c.fact 6 (f := .free "enumerate"))
  f_zip := He.free_ok X G (c.fact 7 (f := .free "zip"))
  f_tuple := He.free_ok X G (c.fact 8 (f := .free "tuple"))
  f_list := He.free_ok X G (c.fact 9 (f := .free "list"))
  f_set := He.free_ok X G (c.fact 10 (f := .free "set"))
  f_sorted := He.free_ok X G (c.fact 11 (f := .free "sorted"))
  f_isinstance := He.free_ok X G (c.fact 12 (f := .free "isinstance"))
  f_int := He.free_ok X G (c.fact 13 (f := .free "int"))
  f_str := He.free_ok X G (c.fact 14 (f := .free "str"))
  m_is_name := He.glo_ok X G (c.fact 15 (f := .glo "is_name"))
  m_check_kinds := He.glo_ok X G (c.fact 16 (f := .glo "check_kinds"))
  m_in_pair := He.glo_ok X G (c.fact 17 (f := .glo "in_pair"))
  m_check_known := He.glo_ok X G (c.fact 18 (f := .glo "check_known"))
  m_meet := He.glo_ok X G (c.fact 19 (f := .glo "meet"))
  m_melting_at := He.glo_ok X G (c.fact 20 (f := .glo "melting_at"))
  m_depths := He.glo_ok X G (c.fact 21 (f := .glo "depths"))
  m_layers_of := He.glo_ok X G (c.fact 22 (f := .glo "layers_of"))
  m_formed := He.glo_ok X G (c.fact 23 (f := .glo "formed"))
  m_shortened := He.glo_ok X G (c.fact 24 (f := .glo "shortened"))
  m_appended := He.glo_ok X G (c.fact 25 (f := .glo "appended"))
  m_pressed := He.glo_ok X G (c.fact 26 (f := .glo "pressed"))
  m_firsts := He.glo_ok X G (c.fact 27 (f := .glo "firsts"))
  m_lasts := He.glo_ok X G (c.fact 28 (f := .glo "lasts"))
  m_check_index := He.glo_ok X G (c.fact 29 (f := .glo "check_index"))
  m_limited := He.glo_ok X G (c.fact 30 (f := .glo "limited"))
  m_amends := He.glo_ok X G (c.fact 31 (f := .glo "amends"))
  m_moving := He.glo_ok X G (c.fact 32 (f := .glo "moving"))
  m_rings_of := He.glo_ok X G (c.fact 33 (f := .glo "rings_of"))
  m__law_deal := He.glo_ok X G (c.fact 34 (f := .glo "_law_deal"))
  m__law_draw := He.glo_ok X G (c.fact 35 (f := .glo "_law_draw"))
  m__law_mixed := He.glo_ok X G (c.fact 36 (f := .glo "_law_mixed"))
  m__law_names := He.glo_ok X G (c.fact 37 (f := .glo "_law_names"))
  m__law_is_free := He.glo_ok X G (c.fact 38 (f := .glo "_law_is_free"))
  m__law_count := He.glo_ok X G (c.fact 39 (f := .glo "_law_count"))
  m__law_row := He.glo_ok X G (c.fact 40 (f := .glo "_law_row"))
  m__law_melting := He.glo_ok X G (c.fact 41 (f := .glo "_law_melting"))
  m__law_short := He.glo_ok X G (c.fact 42 (f := .glo "_law_short"))
  m__law_layers := He.glo_ok X G (c.fact 43 (f := .glo "_law_layers"))
  m__law_form := He.glo_ok X G (c.fact 44 (f := .glo "_law_form"))
  m__law_led := He.glo_ok X G (c.fact 45 (f := .glo "_law_led"))
  m__law_cells := He.glo_ok X G (c.fact 46 (f := .glo "_law_cells"))
  m__law_content := He.glo_ok X G (c.fact 47 (f := .glo "_law_content"))
  m__law_store := He.glo_ok X G (c.fact 48 (f := .glo "_law_store"))
  m__law_leads := He.glo_ok X G (c.fact 49 (f := .glo "_law_leads"))
  m_Table := He.glo_ok X G (c.fact 50 (f := .glo "Table"))
  m_Row := He.glo_ok X G (c.fact 51 (f := .glo "Row"))
  m_Version := He.glo_ok X G (c.fact 52 (f := .glo "Version"))
  m_Store := He.glo_ok X G (c.fact 53 (f := .glo "Store"))
  k_is_name := He.keep_ok (c.fact 54 (f := .keep "is_name"))
  k_check_kinds := He.keep_ok (c.fact 55 (f := .keep "check_kinds"))
  k_in_pair := He.keep_ok (c.fact 56 (f := .keep "in_pair"))
  k_check_known := He.keep_ok (c.fact 57 (f := .keep "check_known"))
  k_meet := He.keep_ok (c.fact 58 (f := .keep "meet"))
  k_melting_at := He.keep_ok (c.fact 59 (f := .keep "melting_at"))
  k_depths := He.keep_ok (c.fact 60 (f := .keep "depths"))
  k_layers_of := He.keep_ok (c.fact 61 (f := .keep "layers_of"))
  k_formed := He.keep_ok (c.fact 62 (f := .keep "formed"))
  k_shortened := He.keep_ok (c.fact 63 (f := .keep "shortened"))
  k_appended := He.keep_ok (c.fact 64 (f := .keep "appended"))
  k_pressed := He.keep_ok (c.fact 65 (f := .keep "pressed"))
  k_firsts := He.keep_ok (c.fact 66 (f := .keep "firsts"))
  k_lasts := He.keep_ok (c.fact 67 (f := .keep "lasts"))
  k_check_index := He.keep_ok (c.fact 68 (f := .keep "check_index"))
  k_limited := He.keep_ok (c.fact 69 (f := .keep "limited"))
  k_amends := He.keep_ok (c.fact 70 (f := .keep "amends"))
  k_moving := He.keep_ok (c.fact 71 (f := .keep "moving"))
  k_rings_of := He.keep_ok (c.fact 72 (f := .keep "rings_of"))
  k__law_deal := He.keep_ok (c.fact 73 (f := .keep "_law_deal"))
  k__law_draw := He.keep_ok (c.fact 74 (f := .keep "_law_draw"))
  k__law_mixed := He.keep_ok (c.fact 75 (f := .keep "_law_mixed"))
  k__law_names := He.keep_ok (c.fact 76 (f := .keep "_law_names"))
  k__law_is_free := He.keep_ok (c.fact 77 (f := .keep "_law_is_free"))
  k__law_count := He.keep_ok (c.fact 78 (f := .keep "_law_count"))
  k__law_row := He.keep_ok (c.fact 79 (f := .keep "_law_row"))
  k__law_melting := He.keep_ok (c.fact 80 (f := .keep "_law_melting"))
  k__law_short := He.keep_ok (c.fact 81 (f := .keep "_law_short"))
  k__law_layers := He.keep_ok (c.fact 82 (f := .keep "_law_layers"))
  k__law_form := He.keep_ok (c.fact 83 (f := .keep "_law_form"))
  k__law_led := He.keep_ok (c.fact 84 (f := .keep "_law_led"))
  k__law_cells := He.keep_ok (c.fact 85 (f := .keep "_law_cells"))
  k__law_content := He.keep_ok (c.fact 86 (f := .keep "_law_content"))
  k__law_store := He.keep_ok (c.fact 87 (f := .keep "_law_store"))
  k__law_leads := He.keep_ok (c.fact 88 (f := .keep "_law_leads"))
  c_LONGEST := He.int_ok X G (c.fact 89 (f := .int "LONGEST" 6))
  c_MOST_KINDS := He.int_ok X G (c.fact 90 (f := .int "MOST_KINDS" 12))
  c_LIMIT := He.int_ok X G (c.fact 91 (f := .int "LIMIT" 1000))
  c_LETTERS := He.str_ok X G (c.fact 92 (f := .str "LETTERS" "abcdefghijklmnopqrstuvwxyz"))
  cl_Table := He.cls_ok (c.fact 93 (f := .cls "Table"))
  mk_Table := He.mkr_ok (c.fact 94 (f := .mkr "Table"))
  na_Table_kinds := He.noat_ok (c.fact 95 (f := .noat "Table" "kinds"))
  na_Table_pairs := He.noat_ok (c.fact 96 (f := .noat "Table" "pairs"))
  na_Table_linked := He.noat_ok (c.fact 97 (f := .noat "Table" "linked"))
  cl_Row := He.cls_ok (c.fact 98 (f := .cls "Row"))
  mk_Row := He.mkr_ok (c.fact 99 (f := .mkr "Row"))
  na_Row_table := He.noat_ok (c.fact 100 (f := .noat "Row" "table"))
  na_Row_syllables := He.noat_ok (c.fact 101 (f := .noat "Row" "syllables"))
  cl_Version := He.cls_ok (c.fact 102 (f := .cls "Version"))
  mk_Version := He.mkr_ok (c.fact 103 (f := .mkr "Version"))
  na_Version_table := He.noat_ok (c.fact 104 (f := .noat "Version" "table"))
  na_Version_syllables := He.noat_ok (c.fact 105 (f := .noat "Version" "syllables"))
  na_Version_row := He.noat_ok (c.fact 106 (f := .noat "Version" "row"))
  na_Version_kinds := He.noat_ok (c.fact 107 (f := .noat "Version" "kinds"))
  na_Version_layers := He.noat_ok (c.fact 108 (f := .noat "Version" "layers"))
  na_Version_last := He.noat_ok (c.fact 109 (f := .noat "Version" "last"))
  cl_Store := He.cls_ok (c.fact 110 (f := .cls "Store"))
  mk_Store := He.mkr_ok (c.fact 111 (f := .mkr "Store"))
  na_Store_size := He.noat_ok (c.fact 112 (f := .noat "Store" "size"))
  na_Store_own_moves := He.noat_ok (c.fact 113 (f := .noat "Store" "own_moves"))
  na_Store_rings := He.noat_ok (c.fact 114 (f := .noat "Store" "rings"))
  me_Table_links := He.meth_ok (c.fact 115 (f := .meth "Table" "links"))
  me_Row_moved := He.meth_ok (c.fact 116 (f := .meth "Row" "moved"))
  me_Row_without := He.meth_ok (c.fact 117 (f := .meth "Row" "without"))
  me_Store_keeps := He.meth_ok (c.fact 118 (f := .meth "Store" "keeps"))
  me_Store_clash := He.meth_ok (c.fact 119 (f := .meth "Store" "clash"))
  bm_Row_without := ⟨He.meth_ok (c.fact 117 (f := .meth "Row" "without")), He.eqO_ok (c.more 0 (b := fun K => He.eqO (PySem.W.specialIn K (.ref (He.ma K (He.ga K "Row") "without")) "__get__") (some (some (.builtin "function.__get__"))))), of_decide_eq_true (c.more 1 (b := fun K => decide (PySem.W.takesIn K (.ref (He.ma K (He.ga K "Row") "without")) = some false))), by decide +kernel, c.more 2 (b := fun K => PySem.W.fnIn K (He.ma K (He.ga K "Row") "without"))⟩
  cm_Table_of_cells := He5.cmet_of (c.more 3 (b := fun K => He5.wrapB K (He.ga K "Table") "classmethod" "classmethod.__get__" "of_cells")) (c.more 4 (b := fun K => PySem.W.fnIn K (He5.wf K (He.ga K "Table") "classmethod" "of_cells")))
  cm_Version_of := He5.cmet_of (c.more 5 (b := fun K => He5.wrapB K (He.ga K "Version") "classmethod" "classmethod.__get__" "of")) (c.more 6 (b := fun K => PySem.W.fnIn K (He5.wf K (He.ga K "Version") "classmethod" "of")))
  rd_Table := ⟨c.more 7 (b := fun K => PySem.W.readsIn K (He.ga K "Table") (.type "type")), He.eqO_ok (c.more 8 (b := fun K => He.eqO (PySem.W.specialIn K (.ref (He.ga K "Table")) "__getattribute__") (some (some (.builtin "type.__getattribute__")))))⟩
  eq_Table := He.eqO_ok (c.more 9 (b := fun K => He.eqO (PySem.W.findIn K (.ref (He.ga K "Table")) "__eq__") (some (some (.ref (He.ma K (He.ga K "Table") "__eq__"))))))
  eqf_Table := c.more 10 (b := fun K => PySem.W.isFn K (.ref (He.ma K (He.ga K "Table") "__eq__")))
  nf_Table := c.more 11 (b := fun K => PySem.W.notFirst K (He.ga K "Table") (.ref (He.ga K "Table")))
  is_Table := ⟨He.eqO_ok (c.more 12 (b := fun K => He.eqO (PySem.W.findIn K (.ref (He.ga K "Table")) "__class__") (some (some (.builtin "object.__class__"))))), He.eqO_ok (c.more 13 (b := fun K => He.eqO (PySem.W.specialIn K (.builtin "object.__class__") "__get__") (some (some (.builtin "getset_descriptor.__get__"))))), of_decide_eq_true (c.more 14 (b := fun K => decide (PySem.W.takesIn K (.builtin "object.__class__") = some true))), of_decide_eq_true (c.more 15 (b := fun K => decide (PySem.W.mroIn K (He.ga K "Table") (.type "object") = some true))), of_decide_eq_true (c.more 16 (b := fun K => decide (PySem.W.kitOne K (.ref (He.ga K "Table")) (.ref (He.ga K "Table")) = some true)))⟩
  rd_Version := ⟨c.more 17 (b := fun K => PySem.W.readsIn K (He.ga K "Version") (.type "type")), He.eqO_ok (c.more 18 (b := fun K => He.eqO (PySem.W.specialIn K (.ref (He.ga K "Version")) "__getattribute__") (some (some (.builtin "type.__getattribute__")))))⟩
  eq_Version := He.eqO_ok (c.more 19 (b := fun K => He.eqO (PySem.W.findIn K (.ref (He.ga K "Version")) "__eq__") (some (some (.ref (He.ma K (He.ga K "Version") "__eq__"))))))
  eqf_Version := c.more 20 (b := fun K => PySem.W.isFn K (.ref (He.ma K (He.ga K "Version") "__eq__")))
  nf_Version := c.more 21 (b := fun K => PySem.W.notFirst K (He.ga K "Version") (.ref (He.ga K "Version")))
  is_Version := ⟨He.eqO_ok (c.more 22 (b := fun K => He.eqO (PySem.W.findIn K (.ref (He.ga K "Version")) "__class__") (some (some (.builtin "object.__class__"))))), He.eqO_ok (c.more 13 (b := fun K => He.eqO (PySem.W.specialIn K (.builtin "object.__class__") "__get__") (some (some (.builtin "getset_descriptor.__get__"))))), of_decide_eq_true (c.more 14 (b := fun K => decide (PySem.W.takesIn K (.builtin "object.__class__") = some true))), of_decide_eq_true (c.more 23 (b := fun K => decide (PySem.W.mroIn K (He.ga K "Version") (.type "object") = some true))), of_decide_eq_true (c.more 24 (b := fun K => decide (PySem.W.kitOne K (.ref (He.ga K "Version")) (.ref (He.ga K "Version")) = some true)))⟩
  ne_Table := He.eqO_ok (c.more 25 (b := fun K => He.eqO (PySem.W.findIn K (.ref (He.ga K "Table")) "__ne__") (some (some (.builtin "object.__ne__")))))
  inv_Row := He.eqO_ok (c.more 26 (b := fun K => He.eqO (PySem.W.findIn K (.ref (He.ga K "Row")) "__invert__") (some (some (.ref (He.ma K (He.ga K "Row") "__invert__"))))))
  invf_Row := c.more 27 (b := fun K => PySem.W.isFn K (.ref (He.ma K (He.ga K "Row") "__invert__")))
  add_Row := He.eqO_ok (c.more 28 (b := fun K => He.eqO (PySem.W.findIn K (.ref (He.ga K "Row")) "__add__") (some (some (.ref (He.ma K (He.ga K "Row") "__add__"))))))
  addf_Row := c.more 29 (b := fun K => PySem.W.isFn K (.ref (He.ma K (He.ga K "Row") "__add__")))
  radd_Row := He.eqO_ok (c.more 30 (b := fun K => He.eqO (PySem.W.findIn K (.ref (He.ga K "Row")) "__radd__") (some none)))
  sf_Row := c.more 31 (b := fun K => PySem.W.selfFirst K (He.ga K "Row"))
  co_Store := ⟨He.eqO_ok (c.more 32 (b := fun K => He.eqO (PySem.W.findIn K (.ref (He.ga K "Store")) "__call__") (some (some (.ref (He.ma K (He.ga K "Store") "__call__")))))), c.more 33 (b := fun K => PySem.W.isFn K (.ref (He.ma K (He.ga K "Store") "__call__"))), c.more 34 (b := fun K => PySem.W.fnIn K (He.ma K (He.ga K "Store") "__call__"))⟩
theorem deeds_of {P : Program} {w : World} {K : PySem.W.Frag} {mg : Str → Option Value} {base : Heap} (T : Txt K mg) (c : SaysU faU fnU exU K) : Deeds P w K mg base := by
  obtain ⟨_, D_Table_links⟩ := c.def_ 0 (d := d_Table_links) rfl
  obtain ⟨_, D_melting_at⟩ := c.def_ 1 (d := d_melting_at) rfl
  obtain ⟨_, D_in_pair⟩ := c.def_ 2 (d := d_in_pair) rfl
  obtain ⟨_, D_check_index⟩ := c.def_ 3 (d := d_check_index) rfl
  obtain ⟨_, D_limited⟩ := c.def_ 4 (d := d_limited) rfl
  obtain ⟨_, D_meet⟩ := c.def_ 5 (d := d_meet) rfl
  obtain ⟨_, D_check_known⟩ := c.def_ 6 (d := d_check_known) rfl
  obtain ⟨_, D_is_name⟩ := c.def_ 7 (d := d_is_name) rfl
  obtain ⟨_, D_check_kinds⟩ := c.def_ 8 (d := d_check_kinds) rfl
  obtain ⟨_, D_depths⟩ := c.def_ 9 (d := d_depths) rfl
  obtain ⟨_, D_layers_of⟩ := c.def_ 10 (d := d_layers_of) rfl
  obtain ⟨_, D_formed⟩ := c.def_ 11 (d := d_formed) rfl
  obtain ⟨_, D_shortened⟩ := c.def_ 12 (d := d_shortened) rfl
  obtain ⟨_, D_appended⟩ := c.def_ 13 (d := d_appended) rfl
  obtain ⟨_, D_pressed⟩ := c.def_ 14 (d := d_pressed) rfl
  obtain ⟨_, D_firsts⟩ := c.def_ 15 (d := d_firsts) rfl
  obtain ⟨_, D_lasts⟩ := c.def_ 16 (d := d_lasts) rfl
  obtain ⟨_, D_Table___init__⟩ := c.def_ 17 (d := d_Table___init__) rfl
  obtain ⟨_, D_Table_of_cells⟩ := c.def_ 18 (d := d_Table_of_cells) rfl
  obtain ⟨_, D_Table___eq__⟩ := c.def_ 19 (d := d_Table___eq__) rfl
  obtain ⟨_, D_Row___init__⟩ := c.def_ 20 (d := d_Row___init__) rfl
  obtain ⟨_, D_Row___invert__⟩ := c.def_ 21 (d := d_Row___invert__) rfl
  obtain ⟨_, D_Row___add__⟩ := c.def_ 22 (d := d_Row___add__) rfl
  obtain ⟨_, D_Row_moved⟩ := c.def_ 23 (d := d_Row_moved) rfl
  obtain ⟨_, D_Row_without⟩ := c.def_ 24 (d := d_Row_without) rfl
  obtain ⟨_, D_Version___init__⟩ := c.def_ 25 (d := d_Version___init__) rfl
  obtain ⟨_, D_Version_of⟩ := c.def_ 26 (d := d_Version_of) rfl
  obtain ⟨_, D_Version___eq__⟩ := c.def_ 27 (d := d_Version___eq__) rfl
  obtain ⟨_, D_moving⟩ := c.def_ 28 (d := d_moving) rfl
  obtain ⟨_, D_amends⟩ := c.def_ 29 (d := d_amends) rfl
  obtain ⟨_, D_rings_of⟩ := c.def_ 30 (d := d_rings_of) rfl
  obtain ⟨_, D_Store___init__⟩ := c.def_ 31 (d := d_Store___init__) rfl
  obtain ⟨_, D_Store___call__⟩ := c.def_ 32 (d := d_Store___call__) rfl
  obtain ⟨_, D_Store_clash⟩ := c.def_ 33 (d := d_Store_clash) rfl
  obtain ⟨_, D_Store_keeps⟩ := c.def_ 34 (d := d_Store_keeps) rfl
  obtain ⟨_, D__law_deal⟩ := c.def_ 35 (d := d__law_deal) rfl
  obtain ⟨_, D__law_draw⟩ := c.def_ 36 (d := d__law_draw) rfl
  obtain ⟨_, D__law_is_free⟩ := c.def_ 37 (d := d__law_is_free) rfl
  obtain ⟨_, D__law_count⟩ := c.def_ 38 (d := d__law_count) rfl
  obtain ⟨_, D__law_mixed⟩ := c.def_ 39 (d := d__law_mixed) rfl
  obtain ⟨_, D__law_row⟩ := c.def_ 40 (d := d__law_row) rfl
  obtain ⟨_, D__law_melting⟩ := c.def_ 41 (d := d__law_melting) rfl
  obtain ⟨_, D__law_short⟩ := c.def_ 42 (d := d__law_short) rfl
  obtain ⟨_, D__law_layers⟩ := c.def_ 43 (d := d__law_layers) rfl
  obtain ⟨_, D__law_form⟩ := c.def_ 44 (d := d__law_form) rfl
  obtain ⟨_, D__law_led⟩ := c.def_ 45 (d := d__law_led) rfl
  obtain ⟨_, D__law_leads⟩ := c.def_ 46 (d := d__law_leads) rfl
  obtain ⟨_, D__law_content⟩ := c.def_ 47 (d := d__law_content) rfl
  obtain ⟨_, D__law_store⟩ := c.def_ 48 (d := d__law_store) rfl
  obtain ⟨_, D__law_cells⟩ := c.def_ 49 (d := d__law_cells) rfl
  obtain ⟨_, D__law_names⟩ := c.def_ 50 (d := d__law_names) rfl
  have F_Table_links := ok_Table_links (P := P) (w := w) (mg := mg) (base := base) T (fnT_of D_Table_links)
  have F_melting_at := ok_melting_at (P := P) (w := w) (mg := mg) (base := base) T (fnT_of D_melting_at) F_Table_links
  have F_in_pair := ok_in_pair (P := P) (w := w) (mg := mg) (base := base) (fnT_of D_in_pair)
  have F_check_index := ok_check_index (P := P) (w := w) (mg := mg) (base := base) (fnT_of D_check_index)
  have F_limited := ok_limited (P := P) (w := w) (mg := mg) (base := base) T (fnT_of D_limited)
  have F_meet := ok_meet (P := P) (w := w) (mg := mg) (base := base) T (fnT_of D_meet)
  have F_check_known := ok_check_known (P := P) (w := w) (mg := mg) (base := base) T (fnT_of D_check_known)
  have F_is_name := ok_is_name (P := P) (w := w) (mg := mg) (base := base) T (fnT_of D_is_name)
  have F_check_kinds := ok_check_kinds (P := P) (w := w) (mg := mg) (base := base) T (fnT_of D_check_kinds) F_is_name
  have F_depths := ok_depths (P := P) (w := w) (mg := mg) (base := base) T (fnT_of D_depths) F_Table_links
  have F_layers_of := ok_layers_of (P := P) (w := w) (mg := mg) (base := base) T (fnT_of D_layers_of) F_depths
  have F_formed := ok_formed (P := P) (w := w) (mg := mg) (base := base) T (fnT_of D_formed) F_layers_of
  have F_shortened := ok_shortened (P := P) (w := w) (mg := mg) (base := base) T (fnT_of D_shortened) F_melting_at
  have F_appended := ok_appended (P := P) (w := w) (mg := mg) (base := base) T (fnT_of D_appended) F_formed F_shortened
  have F_pressed := ok_pressed (P := P) (w := w) (mg := mg) (base := base) T (fnT_of D_pressed) F_appended
  have F_firsts := ok_firsts (P := P) (w := w) (mg := mg) (base := base) T (fnT_of D_firsts) F_Table_links
  have F_lasts := ok_lasts (P := P) (w := w) (mg := mg) (base := base) T (fnT_of D_lasts) F_firsts
  have F_Table___init__ := ok_Table___init__ (P := P) (w := w) (mg := mg) (base := base) T (fnT1_of D_Table___init__) F_check_kinds F_in_pair
  have F_Table_of_cells := ok_Table_of_cells (P := P) (w := w) (mg := mg) (base := base) T (fnT_of D_Table_of_cells) F_check_kinds F_meet F_Table___init__
  have F_Table___eq__ := ok_Table___eq__ (P := P) (w := w) (mg := mg) (base := base) T (fnT_of D_Table___eq__)
  have F_Row___init__ := ok_Row___init__ (P := P) (w := w) (mg := mg) (base := base) T (fnT1_of D_Row___init__) F_check_known
  have F_Row___invert__ := ok_Row___invert__ (P := P) (w := w) (mg := mg) (base := base) T (fnT_of D_Row___invert__) F_Row___init__
  have F_Row___add__ := ok_Row___add__ (P := P) (w := w) (mg := mg) (base := base) T (fnT_of D_Row___add__) F_Row___init__ F_Table___eq__
  have F_Row_moved := ok_Row_moved (P := P) (w := w) (mg := mg) (base := base) T (fnT_of D_Row_moved) F_Row___init__ F_check_index
  have F_Row_without := ok_Row_without (P := P) (w := w) (mg := mg) (base := base) T (fnT_of D_Row_without) F_Row___init__ F_check_index
  have F_Version___init__ := ok_Version___init__ (P := P) (w := w) (mg := mg) (base := base) T (fnT1_of D_Version___init__) F_limited F_pressed F_Row___init__ F_layers_of F_lasts
  have F_Version_of := ok_Version_of (P := P) (w := w) (mg := mg) (base := base) T (fnT_of D_Version_of) F_Version___init__
  have F_Version___eq__ := ok_Version___eq__ (P := P) (w := w) (mg := mg) (base := base) T (fnT_of D_Version___eq__) F_Table___eq__
  have F_moving := ok_moving (P := P) (w := w) (mg := mg) (base := base) T (fnT_of D_moving) F_Version_of F_Row___add__ F_Row___invert__ F_Row_moved
  have F_amends := ok_amends (P := P) (w := w) (mg := mg) (base := base) T (fnT_of D_amends) F_Version_of F_Row___add__ F_Row___invert__ F_Row_without
  have F_rings_of := ok_rings_of (P := P) (w := w) (mg := mg) (base := base) T (fnT_of D_rings_of)
  have F_Store___init__ := ok_Store___init__ (P := P) (w := w) (mg := mg) (base := base) T (fnT_of D_Store___init__) F_is_name F_rings_of
  have F_Store___call__ := ok_Store___call__ (P := P) (w := w) (mg := mg) (base := base) T (fnT_of D_Store___call__)
  have F_Store_clash := ok_Store_clash (P := P) (w := w) (mg := mg) (base := base) T (fnT_of D_Store_clash)
  have F_Store_keeps := ok_Store_keeps (P := P) (w := w) (mg := mg) (base := base) T (fnT_of D_Store_keeps) F_Store_clash
  have F__law_deal := ok__law_deal (P := P) (w := w) (mg := mg) (base := base) T (fnT_of D__law_deal)
  have F__law_draw := ok__law_draw (P := P) (w := w) (mg := mg) (base := base) T (fnT_of D__law_draw)
  have F__law_is_free := ok__law_is_free (P := P) (w := w) (mg := mg) (base := base) T (fnT_of D__law_is_free)
  have F__law_count := ok__law_count (P := P) (w := w) (mg := mg) (base := base) T (fnT_of D__law_count) F__law_draw
  have F__law_mixed := ok__law_mixed (P := P) (w := w) (mg := mg) (base := base) T (fnT_of D__law_mixed) F__law_draw
  have F__law_row := ok__law_row (P := P) (w := w) (mg := mg) (base := base) T (fnT_of D__law_row) F__law_draw F__law_count
  have F__law_melting := melt_v (ok__law_melting (P := P) (w := w) (mg := mg) (base := base) T (fnT_of D__law_melting) F__law_is_free)
  have F__law_short := ok__law_short (P := P) (w := w) (mg := mg) (base := base) T (fnT_of D__law_short) F__law_melting
  have F__law_layers := ok__law_layers (P := P) (w := w) (mg := mg) (base := base) T (fnT_of D__law_layers) F__law_is_free
  have F__law_form := ok__law_form (P := P) (w := w) (mg := mg) (base := base) T (fnT_of D__law_form) F__law_short F__law_layers
  have F__law_led := ok__law_led (P := P) (w := w) (mg := mg) (base := base) T (fnT_of D__law_led)
  have F__law_leads := ok__law_leads (P := P) (w := w) (mg := mg) (base := base) T (fnT_of D__law_leads) F_Store___call__
  have F__law_content := ok__law_content (P := P) (w := w) (mg := mg) (base := base) T (fnT_of D__law_content)
  have F__law_store := ok__law_store (P := P) (w := w) (mg := mg) (base := base) T (fnT_of D__law_store) F__law_content
  have F__law_cells := ok__law_cells (P := P) (w := w) (mg := mg) (base := base) T (fnT_of D__law_cells) F__law_draw
  have F__law_names := ok__law_names (P := P) (w := w) (mg := mg) (base := base) T (fnT_of D__law_names) F__law_draw F__law_mixed
  exact ⟨F__law_deal, F__law_draw, F__law_names, F__law_row, F__law_form, F__law_led, F__law_cells, F__law_store, F__law_leads, F_amends, F_moving, F_Table_of_cells, F_Version_of, F_Version___eq__, F_Row___init__, F_Row_without, F_Row_moved, F_Store___init__, F_Store_keeps, F_Store___call__⟩
end Un

/-! ## HD -/
set_option Elab.async false
set_option linter.all false
set_option maxRecDepth 100000
set_option maxHeartbeats 0
namespace Un
open PySem PySem.Spec PyProof.Rows L2 StX
def n0 : List PySem.Str := [("_wall" : PySem.Str), ("UndoError" : PySem.Str), ("InvalidTable" : PySem.Str), ("InvalidText" : PySem.Str), ("InvalidStore" : PySem.Str), ("OtherTable" : PySem.Str), ("NoDeed" : PySem.Str), ("TooMany" : PySem.Str), ("Barred" : PySem.Str), ("UnknownKind" : PySem.Str), ("LETTERS" : PySem.Str), ("DIGITS" : PySem.Str)]
def n1 : List PySem.Str := [("LONGEST" : PySem.Str), ("MOST_DIGITS" : PySem.Str), ("is_name" : PySem.Str), ("integer_of" : PySem.Str), ("MOST_KINDS" : PySem.Str), ("check_kinds" : PySem.Str), ("in_pair" : PySem.Str), ("check_known" : PySem.Str), ("meet" : PySem.Str), ("kinds_of_line" : PySem.Str), ("pair_of_line" : PySem.Str), ("Table" : PySem.Str)]
def n2 : List PySem.Str := [("melting_at" : PySem.Str), ("depths" : PySem.Str), ("layers_of" : PySem.Str), ("formed" : PySem.Str), ("shortened" : PySem.Str), ("appended" : PySem.Str), ("pressed" : PySem.Str), ("undone" : PySem.Str), ("turns_of" : PySem.Str), ("firsts" : PySem.Str), ("lasts" : PySem.Str), ("lesser" : PySem.Str)]
def n3 : List PySem.Str := [("less_counts" : PySem.Str), ("common_front" : PySem.Str), ("shared" : PySem.Str), ("first_clash" : PySem.Str), ("check_index" : PySem.Str), ("syllable_of" : PySem.Str), ("word_of" : PySem.Str), ("Row" : PySem.Str), ("LIMIT" : PySem.Str), ("limited" : PySem.Str), ("check_tables" : PySem.Str), ("Version" : PySem.Str)]
def n4 : List PySem.Str := [("amends" : PySem.Str), ("moving" : PySem.Str), ("rings_of" : PySem.Str), ("Store" : PySem.Str), ("_law_deal" : PySem.Str), ("_law_draw" : PySem.Str), ("_law_mixed" : PySem.Str), ("_law_names" : PySem.Str), ("_law_is_free" : PySem.Str), ("_law_count" : PySem.Str), ("_law_row" : PySem.Str), ("_law_melting" : PySem.Str)]
def n5 : List PySem.Str := [("_law_short" : PySem.Str), ("_law_layers" : PySem.Str), ("_law_form" : PySem.Str), ("_law_led" : PySem.Str), ("_law_cells" : PySem.Str), ("_law_content" : PySem.Str), ("_law_store" : PySem.Str), ("_law_leads" : PySem.Str)]
abbrev RU : PySem.W.OpenRow := PySem.W.OpenLaw.row PySem.Challenge.rw_undoamid_k83_whole_deeds_on_cells
abbrev hkU : PySem.W.Hook := hookU needU faU fnU exU
def obU (s : PySem.W.SharedT) : He.AlD × Bool := obsUG needU faU fnU exU (HandSHeadRun.getT s)
theorem obU_eq (s : PySem.W.SharedT) : obU s = hkU.obs s.abs := obsUG_eq (HandSHeadRun.getT_eq s)
theorem runU (w : World) : HandSHeadRun.RunEq RU (PySem.W.view RU.prog [77]) hkU obU 20000 (n0 ++ n1 ++ n2 ++ n3 ++ n4 ++ n5) w := by
  intro os
  kernel_rfl
theorem factsU {P : Program} {w : World} {K : PySem.W.Frag} {h : Heap} {mg : Str → Option Value} {f : Addr} (X : K.In h) (G : h.Ns mainGlobals mg) (hfa : mg ("law" : Str) = some (.ref f)) (c : SaysU faU fnU exU K) :
    ∃ fd : FuncData, (∀ (s : Shared) (v : Value), BindsTo s fd ⟨[v], []⟩ [("_law_script", v)]) ∧ ∀ base : Heap, K.In base → base.Ns mainGlobals mg → FnOk P w K mg base CX0 13 f fd ["_law_script"] (spLaw K) := by
  obtain ⟨fd, F⟩ := c.def_ 51 (d := d_law) rfl
  have e := hfa.symm.trans (He.glo_ok X G (c.fact 120 (f := .glo "law") rfl))
  cases e
  have b := FunD.bindsA (ps := ["_law_script"]) F fun _ _ _ _ _ _ us hl => match us, hl with | [_], _ => rfl
  refine ⟨fd, fun s v => b s [v] rfl, fun base Xb Gb => ?_⟩
  have T := txt_of X G c
  refine FunD.ok F sc_law (fun vs H Q E h => ?_) (fun cdv A outer s H vs Q E hr h => ?_)
  · obtain ⟨a, zs, rfl, _⟩ := h
    rfl
  · obtain ⟨t, h1, h2⟩ := law_body (P := P) (w := w) (base := base) T (deeds_of T c) cdv A outer s H vs Q E hr h
    exact ⟨t, h1.nox, h2⟩
end Un
open PySem PySem.W PySem.Calls PyProof.Rows
theorem PySem.Challenge.cw_undoamid_k83_whole_deeds_on_cells_holds : PySem.Challenge.rw_undoamid_k83_whole_deeds_on_cells.Holds := by
  w_on; o_law
  refine HandSHeadRun.head_any (r := OpenLaw.row PySem.Challenge.rw_undoamid_k83_whole_deeds_on_cells) (q := view (OpenLaw.row PySem.Challenge.rw_undoamid_k83_whole_deeds_on_cells).prog [77]) (H := Un.hkU) (ob := Un.obU) (M := 20000) (loose := Un.n0 ++ Un.n1 ++ Un.n2 ++ Un.n3 ++ Un.n4 ++ Un.n5) (d := HandSHeadRun.topDef (OpenLaw.row PySem.Challenge.rw_undoamid_k83_whole_deeds_on_cells).prog 77) (kwd := []) Un.obU_eq
    (by kernel_rfl) (fun s => by kernel_rfl) Un.runU (by kernel_rfl) (by kernel_rfl) (by kernel_rfl) (by rfl) (by first | assumption | decide +kernel) (by decide +kernel) ⟨rfl, rfl, rfl, rfl, rfl, by decide +kernel⟩ ?hw ?hc
  case hw => w_witness2
  case hc =>
    refine L2.walk_ofE (l := PySem.Challenge.rw_undoamid_k83_whole_deeds_on_cells) (n := 63) (k := 13) (x := "_law_script") (CX := L2.CX0) rfl (by decide) (by kernel_rfl) ⟨rfl, by decide, by decide⟩ ?F (fun _ _ _ _ z => z)
    intro w mg fa h Y G hmg0
    obtain ⟨K, KX, c⟩ := Y
    have hmg : mg ("law" : PySem.Str) = some (.ref fa) := by
      have e : (HandSHeadRun.topDef (OpenLaw.row PySem.Challenge.rw_undoamid_k83_whole_deeds_on_cells).prog 77).name = ("law" : PySem.Str) := by kernel_rfl
      rw [← e]
      exact hmg0
    obtain ⟨fd, hb, hF⟩ := Un.factsU (P := (PySem.Challenge.rw_undoamid_k83_whole_deeds_on_cells).prog) (w := w) KX G hmg c
    exact ⟨K, fd, Un.spLaw K, KX, hb, fun H a ns hl _ hS => ⟨a, ns, rfl, hS, hl, fun _ _ => rfl⟩, hF⟩

