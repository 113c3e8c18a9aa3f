import PyProof.Rows.All
import Wide.All
import OpenK.AllK
import Wide.FinOn
import KE.GoesEnum
import HandS.ForMost
import HandS.Star
import HandS.MakeKwOnly
import HandS.ClsMeth
import HandS.Property
import HandS.Codes
import KE.KStateDown
import Lean
import HandS.Defaults
import HandS.HeadNt
import HandS.Head0
import HandS.Head1
import HandS.Head2
import HandS.HeadEnd
import HandS.Evl
import HandS.IsInst
import HandS.Deep
import HandS.NoneIn
import HandS.ListItems
import HandS.TupAny
import HandS.Walk
import PySem.Challenge.RW_agedfiles_k57_whole_chains_of_deeds
set_option Elab.async false
set_option linter.all false
set_option maxRecDepth 100000
set_option maxHeartbeats 4000000
-- part R1
/-! Rules that the layer lacks: len(o), o[i] by an own class, a staticmethod read off its class, C() by a positional promise, enumerate of a tuple, d.update(e). -/
namespace KX
open PySem PySem.Spec PyProof.Rows L2

/-! ### an own method run by the machine (one level deeper) -/
section
variable {X : Cx} {pins : List (Addr × Obj)} {σ : L2.St} {H : Hp} {s : Shared} {k : Nat} {f : Addr} {fd : FuncData} {ps : List Str} {sp : Sp}
theorem run_in1 {Q : VK} {us : List Value} {vs : List V} {E' : Value → Shared → Prop} (F : FnOk X.prog X.w X.K X.mg X.base CX0 k f fd ps sp) (hr : Room (k + 1) X.A) (hb : Binds X.K fd ps []) (I : Inv X pins σ H s) (r : Vals vs us) (h : sp vs H Q E0) :
    wpAny (model X.prog X.w) X.A.in1 (call (.ref f) us) (EP X pins σ Q) E' s := by
  have hl : (us ++ ([] : List Value)).length = ps.length := by
    rw [List.append_nil, ← r.length]
    exact F.len _ _ _ _ h
  have b := hb s us I.kIn hl
  rw [List.append_nil] at b
  refine wpAny_call (codeAny_mono (F.run X.A.in1 X.stack s H ⟨us, []⟩ us vs Q E0 hr.in1 I.env0.in1 b r h) fun z s' hq => ?_)
  cases z with
  | error e => exact False.elim hq
  | ok fl =>
    cases fl with
    | ret u => exact I.after hq
    | next => exact False.elim hq
    | brk => exact False.elim hq
    | cont => exact False.elim hq

/-! ### len(o) -/
structure LenC (K : PySem.W.Frag) (C f : Addr) : Prop where
  at_ : PySem.W.findIn K (.ref C) "__len__" = some (some (.ref f))
  fn : PySem.W.isFn K (.ref f) = true
def rLenO (C : Addr) (sp : Sp) : List V → Hp → VK → Prop := fun xs H Q => ∃ a dx fs, xs = [.ref a] ∧ H a = some (.ins C dx fs) ∧ sp [.ref a] H (fun v H' => ∃ n : Int, v = .int n ∧ (0 ≤ n ∧ n < 2 ^ 63) ∧ Q (.int n) H') E0
theorem call_lenO {C : Addr} (c : LenC X.K C f) (F : FnOk X.prog X.w X.K X.mg X.base CX0 k f fd ps sp) (hr : Room (k + 1) X.A) (hb : Binds X.K fd ps []) : CallR X (.builtin "len") (rLenO C sp) := by
  intro pins s σ H xs us Q I r h
  obtain ⟨a, dx, fs, rfl, ea, q⟩ := h
  obtain ⟨u, rfl, ru⟩ := r.one
  cases ru
  obtain ⟨mA, O, _⟩ := ins_get I.hok ea
  obtain ⟨od, J, _⟩ := O.look
  obtain ⟨m, Fr0⟩ := I.fr
  refine PySem.W.len_K Fr0 I.ok.mod.kin J c.at_ c.fn (thn (run_in1 (vs := [V.ref a]) (us := [Value.ref a]) F hr hb I (.cons rfl .nil) q) fun v s' hv => ?_)
  obtain ⟨v', H', I', rv, n, rfl, hn, q'⟩ := hv
  obtain ⟨t, rfl⟩ := rv
  exact ⟨hn, .int n, H', I'.tok _, ⟨_, rfl⟩, q'⟩

/-! ### o[i] -/
structure IxC (K : PySem.W.Frag) (C f : Addr) : Prop where
  at_ : PySem.W.findIn K (.ref C) "__getitem__" = some (some (.ref f))
  fi : PySem.W.fnIn K f = true
  fn : PySem.W.isFn K (.ref f) = true
def rIxO (C : Addr) (sp : Sp) : R2 := fun x y H Q => ∃ a dx fs, x = .ref a ∧ H a = some (.ins C dx fs) ∧ sp [.ref a, y] H Q E0
theorem pe_ixO {C : Addr} {a b : Expr} {ta tb : TE} {pos : Pos} (c : IxC X.K C f) (F : FnOk X.prog X.w X.K X.mg X.base CX0 k f fd ps sp) (hr : Room (k + 1) X.A) (hb : Binds X.K fd ps []) (ha : PE X a ta) (hi : PE X b tb)
    (hsl : ∀ x i, subscripted b true (.ref x) i = runValue (.builtin "lifetime.subscript" ⟨[.ref x, i], []⟩) := by intro _ _; with_unfolding_all rfl) : PE X (.Subscript a b pos) (tOp (rIxO C sp) ta tb) := by
  refine ⟨fun pins s σ H Q I h => ?_⟩
  refine Subscript_ (binT ha hi I h fun v u s2 x y H2 I2 rx ry q => ?_)
  obtain ⟨a, dx, fs, rfl, ea, q⟩ := q
  cases rx
  obtain ⟨mA, O, _⟩ := ins_get I2.hok ea
  obtain ⟨od, J, _⟩ := O.look
  obtain ⟨m, Fr0⟩ := I2.fr
  exact PySem.W.sub_K Fr0 I2.ok.mod.kin J c.at_ c.fi c.fn (run_in1 (vs := [V.ref a, y]) (us := [Value.ref a, u]) F hr hb I2 (.cons rfl (.cons ry .nil)) q) (hsl _ _)
end

/-! ### C.m(), m a staticmethod without parameters -/
structure SMet (K : PySem.W.Frag) (C : Addr) (mc : Value) (m : Str) (p g : Addr) : Prop where
  rd : PySem.W.readsIn K C mc = true
  ga : PySem.W.specialIn K (.ref C) "__getattribute__" = some (some (.builtin "type.__getattribute__"))
  at_ : PySem.W.findCls K (.ref C) mc m = some (.get (.builtin "staticmethod.__get__") (.ref p) .none (.ref C))
  rc : ∃ rest, PySem.W.recIn K p "staticmethod" = some (.ref g :: rest)
  kp : PySem.W.keepIn K (.ref g) = true
def tSMeth0 (C : Addr) (sp : Sp) (ta : TE) : TE := fun σ H Q => ta σ H fun x H1 => x = .ref C ∧ sp [] H1 Q E0
section
variable {X : Cx} {k : Nat} {C p g : Addr} {mc : Value} {fd : FuncData} {ps : List Str} {sp : Sp} {o : Expr} {m : Str} {pos apos : Pos} {ta : TE} {pl : Sem Bool}
theorem pe_smeth0 (he : PE X o ta) (c : SMet X.K C mc m p g) (F : FnOk X.prog X.w X.K X.mg X.base CX0 k g fd ps sp) (hr : Room k X.A) (hb : Binds X.K fd ps [])
    (ht : eval (.Call (.Attribute o m apos) [] [] pos) X.env = (do
      let ov ← eval o X.env
      standAt apos.atName
      let (f, first) ← holding [ov] (getMethod ov m pl)
      callWith pos f first (backTo pos (starEach [] X.env)) (backToKw pos (keywordEach [] X.env))) := by rfl) : PE X (.Call (.Attribute o m apos) [] [] pos) (tSMeth0 C sp ta) := by
  refine ⟨fun pins s σ H Q I h => ?_⟩
  refine PySem.W.methodCall_KW (pl := pl) (thn (he.run pins s σ H _ I h) fun u s1 ⟨x, H1, I1, rx, ex, q⟩ => ?_) ht
  subst ex
  obtain rfl : u = Value.ref C := rx
  obtain ⟨rest, hp⟩ := c.rc
  refine PySem.W.method_cls I1.kIn c.ga (PySem.W.cls_bind I1.kIn c.rd c.at_ ?_)
  refine wpAny_call (PySem.W.sm_get (s := { s1 with toks := s1.toks + 1 }) I1.kIn hp (PySem.W.handed_on rfl ?_))
  have I2 := I1.tok (s1.toks + 1)
  exact PySem.W.callWith_K0 (first := []) I2.kIn c.kp (run_fn (us := []) (vs := []) F hr hb .nil pass0 I2 .nil q)
end

/-! ### C() by a positional promise -/
section
variable {X : Cx} {k : Nat} {f C : Addr} {sp : Sp} {x : Str} {p pos : Pos}
theorem pe_makeR0 (M : Mk X.K C f) (F : FnR X.prog X.w X.K X.mg X.base CX0 k f sp) (hr : Room (k + 1) X.A) (hg : Gl X x) (hm : X.mg x = some (.ref C)) (hdb : (x == ("__debug__" : Str)) = false := by decide) :
    PE X (.Call (.Name x p) [] [] pos) (StX.tMakeR C sp E0 tNil) := by
  refine ⟨fun pins s σ H Q I h => ?_⟩
  refine wpAny_Call_Name_kw (ld_glob I hg hm ?_ hdb)
  exact PySem.W.callWith_K0 I.kIn M.kp (StX.run_makeR (us := []) (vs := []) M F hr pass0 I .nil h)
end
end KX
-- part W0
/-! The text by places, the facts that the walks ask of the top. -/
namespace K57
open PySem L2 He
def top (i : Nat) : Stmt := PySem.Challenge.pw_agedfiles_k57_whole_chains_of_deeds.main.body.getD i (.Pass ⟨0, 0, 0, 0⟩)
/-- a property's getter -/
def pgt (K : PySem.W.Frag) (p : Addr) : Addr := match PySem.W.recIn K p "property" with
  | some (.ref g :: _) => g
  | _ => 0
def propB (K : PySem.W.Frag) (C : Addr) (f : Str) : Bool := eqO (PySem.W.findIn K (.ref C) f) (some (some (.ref (ma K C f)))) && (eqO (PySem.W.specialIn K (.ref (ma K C f)) "__get__") (some (some (.builtin "property.__get__"))) &&
  (decide (PySem.W.takesIn K (.ref (ma K C f)) = some true) && (match PySem.W.recIn K (ma K C f) "property" with
    | some (.ref _ :: _) => true
    | _ => false)))
theorem propB_ok {K : PySem.W.Frag} {C : Addr} {f : Str} (h : propB K C f = true) : PropOf K C f (ma K C f) (pgt K (ma K C f)) := by
  obtain ⟨h1, h⟩ := ba h
  obtain ⟨h2, h⟩ := ba h
  obtain ⟨h3, h4⟩ := ba h
  refine ⟨eqO_ok h1, eqO_ok h2, of_decide_eq_true h3, ?_⟩
  unfold pgt
  split at h4
  · rename_i g r e
    exact ⟨r, by rw [e]⟩
  · cases h4
def statB (K : PySem.W.Frag) (C : Addr) (m : Str) : Bool := PySem.W.readsIn K C (.type "type") && (eqO (PySem.W.specialIn K (.ref C) "__getattribute__") (some (some (.builtin "type.__getattribute__"))) &&
  (He5.wrapB K C "staticmethod" "staticmethod.__get__" m && PySem.W.keepIn K (.ref (He5.wf K C "staticmethod" m))))
theorem statB_ok {K : PySem.W.Frag} {C : Addr} {m : Str} (h : statB K C m = true) : KX.SMet K C (.type "type") m (ma K C m) (He5.wf K C "staticmethod" m) := by
  obtain ⟨h1, h⟩ := ba h
  obtain ⟨h2, h⟩ := ba h
  obtain ⟨h3, h4⟩ := ba h
  obtain ⟨h5, h6⟩ := He5.wrapB_ok h3
  exact ⟨h1, eqO_ok h2, h5, h6, h4⟩
def insB (K : PySem.W.Frag) (C : Addr) : Bool := eqO (PySem.W.findIn K (.ref C) "__class__") (some (some (.builtin "object.__class__"))) && (eqO (PySem.W.specialIn K (.builtin "object.__class__") "__get__") (some (some (.builtin "getset_descriptor.__get__"))) &&
  (decide (PySem.W.takesIn K (.builtin "object.__class__") = some true) && (decide (PySem.W.mroIn K C (.type "object") = some true) && decide (PySem.W.kitOne K (.ref C) (.ref C) = some true))))
theorem insB_ok {K : PySem.W.Frag} {C : Addr} (cl : Cls K C) (h : insB K C = true) : C8.InsC K C := by
  obtain ⟨h1, h⟩ := ba h
  obtain ⟨h2, h⟩ := ba h
  obtain ⟨h3, h⟩ := ba h
  obtain ⟨h4, h5⟩ := ba h
  exact ⟨cl, eqO_ok h1, eqO_ok h2, of_decide_eq_true h3, of_decide_eq_true h4, of_decide_eq_true h5⟩
abbrev FDat (K : PySem.W.Frag) (x qual : Str) (st : Stmt) (kws : List (Str × V)) (f : Addr) : Prop := ∃ fd : FuncData, FunD K x qual (defArgs st) (defBody st) (defScope st) [] kws f fd
/-- what the walks ask of the top -/
structure Txt (K : PySem.W.Frag) (mg : Str → Option Value) : Prop where
  g_is_whole : mg "is_whole" = some (.ref (ga K "is_whole"))
  g_is_between : mg "is_between" = some (.ref (ga K "is_between"))
  g_is_listed : mg "is_listed" = some (.ref (ga K "is_listed"))
  g_is_part_of : mg "is_part_of" = some (.ref (ga K "is_part_of"))
  g_is_time : mg "is_time" = some (.ref (ga K "is_time"))
  g_is_deed : mg "is_deed" = some (.ref (ga K "is_deed"))
  g_makes : mg "makes" = some (.ref (ga K "makes"))
  g_is_looks : mg "is_looks" = some (.ref (ga K "is_looks"))
  g_all_looks : mg "all_looks" = some (.ref (ga K "all_looks"))
  g_backs : mg "backs" = some (.ref (ga K "backs"))
  g_check_rule : mg "check_rule" = some (.ref (ga K "check_rule"))
  g_joined : mg "joined" = some (.ref (ga K "joined"))
  g_is_arrow : mg "is_arrow" = some (.ref (ga K "is_arrow"))
  g_reached_from : mg "reached_from" = some (.ref (ga K "reached_from"))
  g_check_way : mg "check_way" = some (.ref (ga K "check_way"))
  g_check_node : mg "check_node" = some (.ref (ga K "check_node"))
  g_all_ages : mg "all_ages" = some (.ref (ga K "all_ages"))
  g_surely_set : mg "surely_set" = some (.ref (ga K "surely_set"))
  g_is_more : mg "is_more" = some (.ref (ga K "is_more"))
  g_least_table : mg "least_table" = some (.ref (ga K "least_table"))
  g_one_least : mg "one_least" = some (.ref (ga K "one_least"))
  g_check_looks : mg "check_looks" = some (.ref (ga K "check_looks"))
  g_greatest_age : mg "greatest_age" = some (.ref (ga K "greatest_age"))
  g_least_age : mg "least_age" = some (.ref (ga K "least_age"))
  g_is_value : mg "is_value" = some (.ref (ga K "is_value"))
  g_check_parts : mg "check_parts" = some (.ref (ga K "check_parts"))
  g_check_book : mg "check_book" = some (.ref (ga K "check_book"))
  g_check_all : mg "check_all" = some (.ref (ga K "check_all"))
  g_counts : mg "counts" = some (.ref (ga K "counts"))
  g_seen_most : mg "seen_most" = some (.ref (ga K "seen_most"))
  g_greatest_seen : mg "greatest_seen" = some (.ref (ga K "greatest_seen"))
  g_law_source : mg "_law_source" = some (.ref (ga K "_law_source"))
  g_law_draw : mg "_law_draw" = some (.ref (ga K "_law_draw"))
  g_law_pick : mg "_law_pick" = some (.ref (ga K "_law_pick"))
  g_law_backs : mg "_law_backs" = some (.ref (ga K "_law_backs"))
  g_law_maker : mg "_law_maker" = some (.ref (ga K "_law_maker"))
  g_law_user : mg "_law_user" = some (.ref (ga K "_law_user"))
  g_law_chain : mg "_law_chain" = some (.ref (ga K "_law_chain"))
  g_law_ages : mg "_law_ages" = some (.ref (ga K "_law_ages"))
  g_law : mg "law" = some (.ref (ga K "law"))
  g_Rule : mg "Rule" = some (.ref (ga K "Rule"))
  g_Stretches : mg "Stretches" = some (.ref (ga K "Stretches"))
  g_Way : mg "Way" = some (.ref (ga K "Way"))
  g_Ages : mg "Ages" = some (.ref (ga K "Ages"))
  g_Book : mg "Book" = some (.ref (ga K "Book"))
  g_MARKS : mg "MARKS" = some (.ref (ga K "MARKS"))
  g_PLAIN : mg "PLAIN" = some (.ref (ga K "PLAIN"))
  g_WORDS : mg "WORDS" = some (.ref (ga K "WORDS"))
  g_PARTS : mg "PARTS" = some (.ref (ga K "PARTS"))
  b_isinstance : mg "isinstance" = none
  b_int : mg "int" = none
  b_bool : mg "bool" = none
  b_tuple : mg "tuple" = none
  b_list : mg "list" = none
  b_str : mg "str" = none
  b_len : mg "len" = none
  b_enumerate : mg "enumerate" = none
  b_any : mg "any" = none
  b_range : mg "range" = none
  b_min : mg "min" = none
  b_max : mg "max" = none
  b_abs : mg "abs" = none
  b_dict : mg "dict" = none
  b_sorted : mg "sorted" = none
  i_LONGEST : ∃ t, mg "LONGEST" = some (.int 1000000000 t)
  i_MOST_NODES : ∃ t, mg "MOST_NODES" = some (.int 12 t)
  i_MOST_ARROWS : ∃ t, mg "MOST_ARROWS" = some (.int 40 t)
  i_LARGEST_GRAIN : ∃ t, mg "LARGEST_GRAIN" = some (.int 1000000 t)
  i_LARGEST_BOUND : ∃ t, mg "LARGEST_BOUND" = some (.int 1000000000000 t)
  i_LATEST : ∃ t, mg "LATEST" = some (.int 1000000000 t)
  t_MARKS : ∀ H : Hp, SqT K H (ga K "MARKS") [V.str "read", V.str "written", V.str "changed"]
  t_PLAIN : ∀ H : Hp, SqT K H (ga K "PLAIN") [V.str "make", V.str "read", V.str "write", V.str "rename", V.str "touch"]
  t_WORDS : ∀ H : Hp, SqT K H (ga K "WORDS") [V.str "", V.str "held", V.str "anew"]
  t_PARTS : ∀ H : Hp, SqT K H (ga K "PARTS") [V.str "bound", V.str "looks", V.str "how", V.str "day", V.str "grain", V.str "spares", V.str "late", V.str "again", V.str "period"]
  c_Rule : Cls K (ga K "Rule")
  c_Stretches : Cls K (ga K "Stretches")
  c_Way : Cls K (ga K "Way")
  c_Ages : Cls K (ga K "Ages")
  c_Book : Cls K (ga K "Book")
  m_Rule : Mk K (ga K "Rule") (ma K (ga K "Rule") "__init__")
  m_Stretches : Mk K (ga K "Stretches") (ma K (ga K "Stretches") "__init__")
  m_Way : Mk K (ga K "Way") (ma K (ga K "Way") "__init__")
  m_Ages : Mk K (ga K "Ages") (ma K (ga K "Ages") "__init__")
  m_Book : Mk K (ga K "Book") (ma K (ga K "Book") "__init__")
  n_Rule_own_word : NoAttr K (ga K "Rule") "own_word"
  n_Rule_own_after : NoAttr K (ga K "Rule") "own_after"
  n_Stretches_own_pairs : NoAttr K (ga K "Stretches") "own_pairs"
  n_Way_own_nodes : NoAttr K (ga K "Way") "own_nodes"
  n_Way_own_arrows : NoAttr K (ga K "Way") "own_arrows"
  n_Ages_way : NoAttr K (ga K "Ages") "way"
  n_Ages_rule : NoAttr K (ga K "Ages") "rule"
  n_Ages_read_ages : NoAttr K (ga K "Ages") "read_ages"
  n_Ages_kept : NoAttr K (ga K "Ages") "kept"
  n_Book_own_parts : NoAttr K (ga K "Book") "own_parts"
  me_Way_arrows : Meth K (ga K "Way") "arrows" (ma K (ga K "Way") "arrows")
  me_Way_getitem : Meth K (ga K "Way") "__getitem__" (ma K (ga K "Way") "__getitem__")
  me_Way_len : Meth K (ga K "Way") "__len__" (ma K (ga K "Way") "__len__")
  me_Way_into : Meth K (ga K "Way") "into" (ma K (ga K "Way") "into")
  me_Ages_is_told : Meth K (ga K "Ages") "is_told" (ma K (ga K "Ages") "is_told")
  me_Ages_rest_of : Meth K (ga K "Ages") "rest_of" (ma K (ga K "Ages") "rest_of")
  me_Ages_nearest : Meth K (ga K "Ages") "nearest" (ma K (ga K "Ages") "nearest")
  me_Ages_arriving : Meth K (ga K "Ages") "arriving" (ma K (ga K "Ages") "arriving")
  me_Ages_settled : Meth K (ga K "Ages") "settled" (ma K (ga K "Ages") "settled")
  me_Ages_table : Meth K (ga K "Ages") "table" (ma K (ga K "Ages") "table")
  me_Ages_walked : Meth K (ga K "Ages") "walked" (ma K (ga K "Ages") "walked")
  fi_getitem : PySem.W.fnIn K (ma K (ga K "Way") "__getitem__") = true
  p_Rule_word : PropOf K (ga K "Rule") "word" (ma K (ga K "Rule") "word") (pgt K (ma K (ga K "Rule") "word"))
  p_Book_looks : PropOf K (ga K "Book") "looks" (ma K (ga K "Book") "looks") (pgt K (ma K (ga K "Book") "looks"))
  p_Book_grain : PropOf K (ga K "Book") "grain" (ma K (ga K "Book") "grain") (pgt K (ma K (ga K "Book") "grain"))
  s_Rule_always : KX.SMet K (ga K "Rule") (.type "type") "always" (ma K (ga K "Rule") "always") (He5.wf K (ga K "Rule") "staticmethod" "always")
  s_Rule_never : KX.SMet K (ga K "Rule") (.type "type") "never" (ma K (ga K "Rule") "never") (He5.wf K (ga K "Rule") "staticmethod" "never")
  s_Stretches_none : KX.SMet K (ga K "Stretches") (.type "type") "none" (ma K (ga K "Stretches") "none") (He5.wf K (ga K "Stretches") "staticmethod" "none")
  is_Rule : C8.InsC K (ga K "Rule")
  is_Way : C8.InsC K (ga K "Way")
  is_Book : C8.InsC K (ga K "Book")
  d_is_whole : FDat K "is_whole" "is_whole" (top 13) [] (ga K "is_whole")
  d_is_between : FDat K "is_between" "is_between" (top 14) [] (ga K "is_between")
  d_is_listed : FDat K "is_listed" "is_listed" (top 16) [] (ga K "is_listed")
  d_is_part_of : FDat K "is_part_of" "is_part_of" (top 17) [] (ga K "is_part_of")
  d_is_time : FDat K "is_time" "is_time" (top 22) [] (ga K "is_time")
  d_is_deed : FDat K "is_deed" "is_deed" (top 23) [] (ga K "is_deed")
  d_makes : FDat K "makes" "makes" (top 24) [] (ga K "makes")
  d_is_looks : FDat K "is_looks" "is_looks" (top 25) [] (ga K "is_looks")
  d_all_looks : FDat K "all_looks" "all_looks" (top 26) [] (ga K "all_looks")
  d_backs : FDat K "backs" "backs" (top 27) [] (ga K "backs")
  d_check_rule : FDat K "check_rule" "check_rule" (top 37) [] (ga K "check_rule")
  d_joined : FDat K "joined" "joined" (top 40) [] (ga K "joined")
  d_is_arrow : FDat K "is_arrow" "is_arrow" (top 50) [] (ga K "is_arrow")
  d_reached_from : FDat K "reached_from" "reached_from" (top 51) [] (ga K "reached_from")
  d_check_way : FDat K "check_way" "check_way" (top 53) [] (ga K "check_way")
  d_check_node : FDat K "check_node" "check_node" (top 54) [] (ga K "check_node")
  d_all_ages : FDat K "all_ages" "all_ages" (top 61) [] (ga K "all_ages")
  d_surely_set : FDat K "surely_set" "surely_set" (top 63) [] (ga K "surely_set")
  d_is_more : FDat K "is_more" "is_more" (top 64) [] (ga K "is_more")
  d_least_table : FDat K "least_table" "least_table" (top 66) [] (ga K "least_table")
  d_one_least : FDat K "one_least" "one_least" (top 67) [] (ga K "one_least")
  d_check_looks : FDat K "check_looks" "check_looks" (top 68) [] (ga K "check_looks")
  d_greatest_age : FDat K "greatest_age" "greatest_age" (top 69) [] (ga K "greatest_age")
  d_least_age : FDat K "least_age" "least_age" (top 70) [] (ga K "least_age")
  d_is_value : FDat K "is_value" "is_value" (top 78) [] (ga K "is_value")
  d_check_parts : FDat K "check_parts" "check_parts" (top 79) [] (ga K "check_parts")
  d_check_book : FDat K "check_book" "check_book" (top 82) [] (ga K "check_book")
  d_check_all : FDat K "check_all" "check_all" (top 85) [] (ga K "check_all")
  d_counts : FDat K "counts" "counts" (top 87) [] (ga K "counts")
  d_seen_most : FDat K "seen_most" "seen_most" (top 88) [] (ga K "seen_most")
  d_greatest_seen : FDat K "greatest_seen" "greatest_seen" (top 89) [] (ga K "greatest_seen")
  d_law_source : FDat K "_law_source" "_law_source" (top 91) [] (ga K "_law_source")
  d_law_draw : FDat K "_law_draw" "_law_draw" (top 92) [] (ga K "_law_draw")
  d_law_pick : FDat K "_law_pick" "_law_pick" (top 93) [] (ga K "_law_pick")
  d_law_backs : FDat K "_law_backs" "_law_backs" (top 94) [] (ga K "_law_backs")
  d_law_maker : FDat K "_law_maker" "_law_maker" (top 95) [] (ga K "_law_maker")
  d_law_user : FDat K "_law_user" "_law_user" (top 96) [] (ga K "_law_user")
  d_law_chain : FDat K "_law_chain" "_law_chain" (top 97) [] (ga K "_law_chain")
  d_law_ages : FDat K "_law_ages" "_law_ages" (top 98) [] (ga K "_law_ages")
  d_law : FDat K "law" "law" (top 99) [] (ga K "law")
  d_Rule_init : FDat K "__init__" "Rule.__init__" (inClass (top 36) 0) [] (ma K (ga K "Rule") "__init__")
  d_Stretches_init : FDat K "__init__" "Stretches.__init__" (inClass (top 45) 0) [] (ma K (ga K "Stretches") "__init__")
  d_Way_init : FDat K "__init__" "Way.__init__" (inClass (top 52) 0) [] (ma K (ga K "Way") "__init__")
  d_Way_arrows : FDat K "arrows" "Way.arrows" (inClass (top 52) 2) [] (ma K (ga K "Way") "arrows")
  d_Way_getitem : FDat K "__getitem__" "Way.__getitem__" (inClass (top 52) 3) [] (ma K (ga K "Way") "__getitem__")
  d_Way_len : FDat K "__len__" "Way.__len__" (inClass (top 52) 5) [] (ma K (ga K "Way") "__len__")
  d_Way_into : FDat K "into" "Way.into" (inClass (top 52) 7) [] (ma K (ga K "Way") "into")
  d_Ages_init : FDat K "__init__" "Ages.__init__" (inClass (top 65) 0) [] (ma K (ga K "Ages") "__init__")
  d_Ages_is_told : FDat K "is_told" "Ages.is_told" (inClass (top 65) 1) [] (ma K (ga K "Ages") "is_told")
  d_Ages_rest_of : FDat K "rest_of" "Ages.rest_of" (inClass (top 65) 2) [] (ma K (ga K "Ages") "rest_of")
  d_Ages_nearest : FDat K "nearest" "Ages.nearest" (inClass (top 65) 3) [] (ma K (ga K "Ages") "nearest")
  d_Ages_arriving : FDat K "arriving" "Ages.arriving" (inClass (top 65) 4) [] (ma K (ga K "Ages") "arriving")
  d_Ages_settled : FDat K "settled" "Ages.settled" (inClass (top 65) 5) [] (ma K (ga K "Ages") "settled")
  d_Ages_table : FDat K "table" "Ages.table" (inClass (top 65) 6) [] (ma K (ga K "Ages") "table")
  d_Ages_walked : FDat K "walked" "Ages.walked" (inClass (top 65) 7) [] (ma K (ga K "Ages") "walked")
  d_Book_init : FDat K "__init__" "Book.__init__" (inClass (top 81) 0) [("looks", V.ref (ga K "MARKS")), ("how", .str "above"), ("day", .int 1), ("grain", .int 1), ("spares", .bl false), ("late", .int 0), ("again", .bl true), ("period", .int 1)] (ma K (ga K "Book") "__init__")
  d_Rule_word : FDat K "word" "Rule.word" (inClass (top 36) 4) [] (pgt K (ma K (ga K "Rule") "word"))
  d_Book_looks : FDat K "looks" "Book.looks" (inClass (top 81) 4) [] (pgt K (ma K (ga K "Book") "looks"))
  d_Book_grain : FDat K "grain" "Book.grain" (inClass (top 81) 10) [] (pgt K (ma K (ga K "Book") "grain"))
  d_Rule_always : FDat K "always" "Rule.always" (inClass (top 36) 1) [] (He5.wf K (ga K "Rule") "staticmethod" "always")
  d_Rule_never : FDat K "never" "Rule.never" (inClass (top 36) 2) [] (He5.wf K (ga K "Rule") "staticmethod" "never")
  d_Stretches_none : FDat K "none" "Stretches.none" (inClass (top 45) 19) [] (He5.wf K (ga K "Stretches") "staticmethod" "none")
end K57
-- part Hd
namespace K57
open PySem L2 He
def nm0 : List Str := ["_wall", "AgeError", "NoMoment", "NoRule", "NoFile", "NoDeed", "NoMark", "NoGrain", "NoStretch", "NoWay", "NoBook", "is_whole", "is_between", "is_count", "is_listed", "is_part_of", "MARKS", "PLAIN", "LONGEST", "is_time", "is_deed", "makes", "is_looks", "all_looks", "backs", "FARTHEST", "LARGEST_GRAIN", "Moment", "seconds_of", "LATEST_AFTER"]
def nm1 : List Str := ["Marked", "Rule", "check_rule", "is_pair", "joined", "gaps_of", "lesser_end", "overlaps_of", "checked", "Stretches", "MOST_NODES", "MOST_ARROWS", "WORDS", "is_arrow", "reached_from", "Way", "check_way", "check_node", "smeared", "passed", "next_bits", "bits_of", "stretches_of", "all_ages", "surely_set", "is_more", "Ages", "least_table", "one_least", "check_looks"]
def nm2 : List Str := ["greatest_age", "least_age", "Hold", "File", "PARTS", "LARGEST_BOUND", "LATEST", "is_value", "check_parts", "common_grain", "Book", "check_book", "seconds_old", "check_all", "counts", "seen_most", "greatest_seen", "_law_source", "_law_draw", "_law_pick", "_law_backs", "_law_maker", "_law_user", "_law_chain", "_law_ages"]
def names : List Str := nm0 ++ (nm1 ++ (nm2))
def wn0 : List Str := ["is_whole", "is_between", "is_listed", "is_part_of", "is_time", "is_deed", "makes", "is_looks", "all_looks", "backs", "check_rule", "joined", "is_arrow", "reached_from", "check_way", "check_node", "all_ages", "surely_set", "is_more", "least_table", "one_least", "check_looks", "greatest_age", "least_age", "is_value", "check_parts", "check_book", "check_all", "counts", "seen_most"]
def wn1 : List Str := ["greatest_seen", "_law_source", "_law_draw", "_law_pick", "_law_backs", "_law_maker", "_law_user", "_law_chain", "_law_ages", "law", "Rule", "Stretches", "Way", "Ages", "Book", "MARKS", "PLAIN", "WORDS", "PARTS"]
def want : List Str := wn0 ++ (wn1)
def fk0 (K : PySem.W.Frag) : Bool := (Fa.glo "is_whole").ok K
def fk1 (K : PySem.W.Frag) : Bool := (Fa.glo "is_between").ok K
def fk2 (K : PySem.W.Frag) : Bool := (Fa.glo "is_listed").ok K
def fk3 (K : PySem.W.Frag) : Bool := (Fa.glo "is_part_of").ok K
def fk4 (K : PySem.W.Frag) : Bool := (Fa.glo "is_time").ok K
def fk5 (K : PySem.W.Frag) : Bool := (Fa.glo "is_deed").ok K
def fk6 (K : PySem.W.Frag) : Bool := (Fa.glo "makes").ok K
def fk7 (K : PySem.W.Frag) : Bool := (Fa.glo "is_looks").ok K
def fk8 (K : PySem.W.Frag) : Bool := (Fa.glo "all_looks").ok K
def fk9 (K : PySem.W.Frag) : Bool := (Fa.glo "backs").ok K
def fk10 (K : PySem.W.Frag) : Bool := (Fa.glo "check_rule").ok K
def fk11 (K : PySem.W.Frag) : Bool := (Fa.glo "joined").ok K
def fk12 (K : PySem.W.Frag) : Bool := (Fa.glo "is_arrow").ok K
def fk13 (K : PySem.W.Frag) : Bool := (Fa.glo "reached_from").ok K
def fk14 (K : PySem.W.Frag) : Bool := (Fa.glo "check_way").ok K
def fk15 (K : PySem.W.Frag) : Bool := (Fa.glo "check_node").ok K
def fk16 (K : PySem.W.Frag) : Bool := (Fa.glo "all_ages").ok K
def fk17 (K : PySem.W.Frag) : Bool := (Fa.glo "surely_set").ok K
def fk18 (K : PySem.W.Frag) : Bool := (Fa.glo "is_more").ok K
def fk19 (K : PySem.W.Frag) : Bool := (Fa.glo "least_table").ok K
def fk20 (K : PySem.W.Frag) : Bool := (Fa.glo "one_least").ok K
def fk21 (K : PySem.W.Frag) : Bool := (Fa.glo "check_looks").ok K
def fk22 (K : PySem.W.Frag) : Bool := (Fa.glo "greatest_age").ok K
def fk23 (K : PySem.W.Frag) : Bool := (Fa.glo "least_age").ok K
def fk24 (K : PySem.W.Frag) : Bool := (Fa.glo "is_value").ok K
def fk25 (K : PySem.W.Frag) : Bool := (Fa.glo "check_parts").ok K
def fk26 (K : PySem.W.Frag) : Bool := (Fa.glo "check_book").ok K
def fk27 (K : PySem.W.Frag) : Bool := (Fa.glo "check_all").ok K
def fk28 (K : PySem.W.Frag) : Bool := (Fa.glo "counts").ok K
def fk29 (K : PySem.W.Frag) : Bool := (Fa.glo "seen_most").ok K
def fk30 (K : PySem.W.Frag) : Bool := (Fa.glo "greatest_seen").ok K
def fk31 (K : PySem.W.Frag) : Bool := (Fa.glo "_law_source").ok K
def fk32 (K : PySem.W.Frag) : Bool := (Fa.glo "_law_draw").ok K
def fk33 (K : PySem.W.Frag) : Bool := (Fa.glo "_law_pick").ok K
def fk34 (K : PySem.W.Frag) : Bool := (Fa.glo "_law_backs").ok K
def fk35 (K : PySem.W.Frag) : Bool := (Fa.glo "_law_maker").ok K
def fk36 (K : PySem.W.Frag) : Bool := (Fa.glo "_law_user").ok K
def fk37 (K : PySem.W.Frag) : Bool := (Fa.glo "_law_chain").ok K
def fk38 (K : PySem.W.Frag) : Bool := (Fa.glo "_law_ages").ok K
def fk39 (K : PySem.W.Frag) : Bool := (Fa.glo "law").ok K
def fk40 (K : PySem.W.Frag) : Bool := (Fa.glo "Rule").ok K
def fk41 (K : PySem.W.Frag) : Bool := (Fa.glo "Stretches").ok K
def fk42 (K : PySem.W.Frag) : Bool := (Fa.glo "Way").ok K
def fk43 (K : PySem.W.Frag) : Bool := (Fa.glo "Ages").ok K
def fk44 (K : PySem.W.Frag) : Bool := (Fa.glo "Book").ok K
def fk45 (K : PySem.W.Frag) : Bool := (Fa.glo "MARKS").ok K
def fk46 (K : PySem.W.Frag) : Bool := (Fa.glo "PLAIN").ok K
def fk47 (K : PySem.W.Frag) : Bool := (Fa.glo "WORDS").ok K
def fk48 (K : PySem.W.Frag) : Bool := (Fa.glo "PARTS").ok K
def fk49 (K : PySem.W.Frag) : Bool := (Fa.free "isinstance").ok K
def fk50 (K : PySem.W.Frag) : Bool := (Fa.free "int").ok K
def fk51 (K : PySem.W.Frag) : Bool := (Fa.free "bool").ok K
def fk52 (K : PySem.W.Frag) : Bool := (Fa.free "tuple").ok K
def fk53 (K : PySem.W.Frag) : Bool := (Fa.free "list").ok K
def fk54 (K : PySem.W.Frag) : Bool := (Fa.free "str").ok K
def fk55 (K : PySem.W.Frag) : Bool := (Fa.free "len").ok K
def fk56 (K : PySem.W.Frag) : Bool := (Fa.free "enumerate").ok K
def fk57 (K : PySem.W.Frag) : Bool := (Fa.free "any").ok K
def fk58 (K : PySem.W.Frag) : Bool := (Fa.free "range").ok K
def fk59 (K : PySem.W.Frag) : Bool := (Fa.free "min").ok K
def fk60 (K : PySem.W.Frag) : Bool := (Fa.free "max").ok K
def fk61 (K : PySem.W.Frag) : Bool := (Fa.free "abs").ok K
def fk62 (K : PySem.W.Frag) : Bool := (Fa.free "dict").ok K
def fk63 (K : PySem.W.Frag) : Bool := (Fa.free "sorted").ok K
def fk64 (K : PySem.W.Frag) : Bool := (Fa.int "LONGEST" 1000000000).ok K
def fk65 (K : PySem.W.Frag) : Bool := (Fa.int "MOST_NODES" 12).ok K
def fk66 (K : PySem.W.Frag) : Bool := (Fa.int "MOST_ARROWS" 40).ok K
def fk67 (K : PySem.W.Frag) : Bool := (Fa.int "LARGEST_GRAIN" 1000000).ok K
def fk68 (K : PySem.W.Frag) : Bool := (Fa.int "LARGEST_BOUND" 1000000000000).ok K
def fk69 (K : PySem.W.Frag) : Bool := (Fa.int "LATEST" 1000000000).ok K
def fk70 (K : PySem.W.Frag) : Bool := tupB K "MARKS" [.str "read", .str "written", .str "changed"]
def fk71 (K : PySem.W.Frag) : Bool := tupB K "PLAIN" [.str "make", .str "read", .str "write", .str "rename", .str "touch"]
def fk72 (K : PySem.W.Frag) : Bool := tupB K "WORDS" [.str "", .str "held", .str "anew"]
def fk73 (K : PySem.W.Frag) : Bool := tupB K "PARTS" [.str "bound", .str "looks", .str "how", .str "day", .str "grain", .str "spares", .str "late", .str "again", .str "period"]
def fk74 (K : PySem.W.Frag) : Bool := (Fa.cls "Rule").ok K
def fk75 (K : PySem.W.Frag) : Bool := (Fa.cls "Stretches").ok K
def fk76 (K : PySem.W.Frag) : Bool := (Fa.cls "Way").ok K
def fk77 (K : PySem.W.Frag) : Bool := (Fa.cls "Ages").ok K
def fk78 (K : PySem.W.Frag) : Bool := (Fa.cls "Book").ok K
def fk79 (K : PySem.W.Frag) : Bool := (Fa.mkr "Rule").ok K
def fk80 (K : PySem.W.Frag) : Bool := (Fa.mkr "Stretches").ok K
def fk81 (K : PySem.W.Frag) : Bool := (Fa.mkr "Way").ok K
def fk82 (K : PySem.W.Frag) : Bool := (Fa.mkr "Ages").ok K
def fk83 (K : PySem.W.Frag) : Bool := (Fa.mkr "Book").ok K
def fk84 (K : PySem.W.Frag) : Bool := (Fa.noat "Rule" "own_word").ok K
def fk85 (K : PySem.W.Frag) : Bool := (Fa.noat "Rule" "own_after").ok K
def fk86 (K : PySem.W.Frag) : Bool := (Fa.noat "Stretches" "own_pairs").ok K
def fk87 (K : PySem.W.Frag) : Bool := (Fa.noat "Way" "own_nodes").ok K
def fk88 (K : PySem.W.Frag) : Bool := (Fa.noat "Way" "own_arrows").ok K
def fk89 (K : PySem.W.Frag) : Bool := (Fa.noat "Ages" "way").ok K
def fk90 (K : PySem.W.Frag) : Bool := (Fa.noat "Ages" "rule").ok K
def fk91 (K : PySem.W.Frag) : Bool := (Fa.noat "Ages" "read_ages").ok K
def fk92 (K : PySem.W.Frag) : Bool := (Fa.noat "Ages" "kept").ok K
def fk93 (K : PySem.W.Frag) : Bool := (Fa.noat "Book" "own_parts").ok K
def fk94 (K : PySem.W.Frag) : Bool := (Fa.meth "Way" "arrows").ok K
def fk95 (K : PySem.W.Frag) : Bool := (Fa.meth "Way" "__getitem__").ok K
def fk96 (K : PySem.W.Frag) : Bool := (Fa.meth "Way" "__len__").ok K
def fk97 (K : PySem.W.Frag) : Bool := (Fa.meth "Way" "into").ok K
def fk98 (K : PySem.W.Frag) : Bool := (Fa.meth "Ages" "is_told").ok K
def fk99 (K : PySem.W.Frag) : Bool := (Fa.meth "Ages" "rest_of").ok K
def fk100 (K : PySem.W.Frag) : Bool := (Fa.meth "Ages" "nearest").ok K
def fk101 (K : PySem.W.Frag) : Bool := (Fa.meth "Ages" "arriving").ok K
def fk102 (K : PySem.W.Frag) : Bool := (Fa.meth "Ages" "settled").ok K
def fk103 (K : PySem.W.Frag) : Bool := (Fa.meth "Ages" "table").ok K
def fk104 (K : PySem.W.Frag) : Bool := (Fa.meth "Ages" "walked").ok K
def fk105 (K : PySem.W.Frag) : Bool := PySem.W.fnIn K (ma K (ga K "Way") "__getitem__")
def fk106 (K : PySem.W.Frag) : Bool := propB K (ga K "Rule") "word"
def fk107 (K : PySem.W.Frag) : Bool := propB K (ga K "Book") "looks"
def fk108 (K : PySem.W.Frag) : Bool := propB K (ga K "Book") "grain"
def fk109 (K : PySem.W.Frag) : Bool := statB K (ga K "Rule") "always"
def fk110 (K : PySem.W.Frag) : Bool := statB K (ga K "Rule") "never"
def fk111 (K : PySem.W.Frag) : Bool := statB K (ga K "Stretches") "none"
def fk112 (K : PySem.W.Frag) : Bool := insB K (ga K "Rule")
def fk113 (K : PySem.W.Frag) : Bool := insB K (ga K "Way")
def fk114 (K : PySem.W.Frag) : Bool := insB K (ga K "Book")
def dd0 : He5.DefA := ⟨(fun K => ga K "is_whole"), "is_whole", "is_whole", defArgs (top 13), defBody (top 13), defScope (top 13), [], []⟩
def dd1 : He5.DefA := ⟨(fun K => ga K "is_between"), "is_between", "is_between", defArgs (top 14), defBody (top 14), defScope (top 14), [], []⟩
def dd2 : He5.DefA := ⟨(fun K => ga K "is_listed"), "is_listed", "is_listed", defArgs (top 16), defBody (top 16), defScope (top 16), [], []⟩
def dd3 : He5.DefA := ⟨(fun K => ga K "is_part_of"), "is_part_of", "is_part_of", defArgs (top 17), defBody (top 17), defScope (top 17), [], []⟩
def dd4 : He5.DefA := ⟨(fun K => ga K "is_time"), "is_time", "is_time", defArgs (top 22), defBody (top 22), defScope (top 22), [], []⟩
def dd5 : He5.DefA := ⟨(fun K => ga K "is_deed"), "is_deed", "is_deed", defArgs (top 23), defBody (top 23), defScope (top 23), [], []⟩
def dd6 : He5.DefA := ⟨(fun K => ga K "makes"), "makes", "makes", defArgs (top 24), defBody (top 24), defScope (top 24), [], []⟩
def dd7 : He5.DefA := ⟨(fun K => ga K "is_looks"), "is_looks", "is_looks", defArgs (top 25), defBody (top 25), defScope (top 25), [], []⟩
def dd8 : He5.DefA := ⟨(fun K => ga K "all_looks"), "all_looks", "all_looks", defArgs (top 26), defBody (top 26), defScope (top 26), [], []⟩
def dd9 : He5.DefA := ⟨(fun K => ga K "backs"), "backs", "backs", defArgs (top 27), defBody (top 27), defScope (top 27), [], []⟩
def dd10 : He5.DefA := ⟨(fun K => ga K "check_rule"), "check_rule", "check_rule", defArgs (top 37), defBody (top 37), defScope (top 37), [], []⟩
def dd11 : He5.DefA := ⟨(fun K => ga K "joined"), "joined", "joined", defArgs (top 40), defBody (top 40), defScope (top 40), [], []⟩
def dd12 : He5.DefA := ⟨(fun K => ga K "is_arrow"), "is_arrow", "is_arrow", defArgs (top 50), defBody (top 50), defScope (top 50), [], []⟩
def dd13 : He5.DefA := ⟨(fun K => ga K "reached_from"), "reached_from", "reached_from", defArgs (top 51), defBody (top 51), defScope (top 51), [], []⟩
def dd14 : He5.DefA := ⟨(fun K => ga K "check_way"), "check_way", "check_way", defArgs (top 53), defBody (top 53), defScope (top 53), [], []⟩
def dd15 : He5.DefA := ⟨(fun K => ga K "check_node"), "check_node", "check_node", defArgs (top 54), defBody (top 54), defScope (top 54), [], []⟩
def dd16 : He5.DefA := ⟨(fun K => ga K "all_ages"), "all_ages", "all_ages", defArgs (top 61), defBody (top 61), defScope (top 61), [], []⟩
def dd17 : He5.DefA := ⟨(fun K => ga K "surely_set"), "surely_set", "surely_set", defArgs (top 63), defBody (top 63), defScope (top 63), [], []⟩
def dd18 : He5.DefA := ⟨(fun K => ga K "is_more"), "is_more", "is_more", defArgs (top 64), defBody (top 64), defScope (top 64), [], []⟩
def dd19 : He5.DefA := ⟨(fun K => ga K "least_table"), "least_table", "least_table", defArgs (top 66), defBody (top 66), defScope (top 66), [], []⟩
def dd20 : He5.DefA := ⟨(fun K => ga K "one_least"), "one_least", "one_least", defArgs (top 67), defBody (top 67), defScope (top 67), [], []⟩
def dd21 : He5.DefA := ⟨(fun K => ga K "check_looks"), "check_looks", "check_looks", defArgs (top 68), defBody (top 68), defScope (top 68), [], []⟩
def dd22 : He5.DefA := ⟨(fun K => ga K "greatest_age"), "greatest_age", "greatest_age", defArgs (top 69), defBody (top 69), defScope (top 69), [], []⟩
def dd23 : He5.DefA := ⟨(fun K => ga K "least_age"), "least_age", "least_age", defArgs (top 70), defBody (top 70), defScope (top 70), [], []⟩
def dd24 : He5.DefA := ⟨(fun K => ga K "is_value"), "is_value", "is_value", defArgs (top 78), defBody (top 78), defScope (top 78), [], []⟩
def dd25 : He5.DefA := ⟨(fun K => ga K "check_parts"), "check_parts", "check_parts", defArgs (top 79), defBody (top 79), defScope (top 79), [], []⟩
def dd26 : He5.DefA := ⟨(fun K => ga K "check_book"), "check_book", "check_book", defArgs (top 82), defBody (top 82), defScope (top 82), [], []⟩
def dd27 : He5.DefA := ⟨(fun K => ga K "check_all"), "check_all", "check_all", defArgs (top 85), defBody (top 85), defScope (top 85), [], []⟩
def dd28 : He5.DefA := ⟨(fun K => ga K "counts"), "counts", "counts", defArgs (top 87), defBody (top 87), defScope (top 87), [], []⟩
def dd29 : He5.DefA := ⟨(fun K => ga K "seen_most"), "seen_most", "seen_most", defArgs (top 88), defBody (top 88), defScope (top 88), [], []⟩
def dd30 : He5.DefA := ⟨(fun K => ga K "greatest_seen"), "greatest_seen", "greatest_seen", defArgs (top 89), defBody (top 89), defScope (top 89), [], []⟩
def dd31 : He5.DefA := ⟨(fun K => ga K "_law_source"), "_law_source", "_law_source", defArgs (top 91), defBody (top 91), defScope (top 91), [], []⟩
def dd32 : He5.DefA := ⟨(fun K => ga K "_law_draw"), "_law_draw", "_law_draw", defArgs (top 92), defBody (top 92), defScope (top 92), [], []⟩
def dd33 : He5.DefA := ⟨(fun K => ga K "_law_pick"), "_law_pick", "_law_pick", defArgs (top 93), defBody (top 93), defScope (top 93), [], []⟩
def dd34 : He5.DefA := ⟨(fun K => ga K "_law_backs"), "_law_backs", "_law_backs", defArgs (top 94), defBody (top 94), defScope (top 94), [], []⟩
def dd35 : He5.DefA := ⟨(fun K => ga K "_law_maker"), "_law_maker", "_law_maker", defArgs (top 95), defBody (top 95), defScope (top 95), [], []⟩
def dd36 : He5.DefA := ⟨(fun K => ga K "_law_user"), "_law_user", "_law_user", defArgs (top 96), defBody (top 96), defScope (top 96), [], []⟩
def dd37 : He5.DefA := ⟨(fun K => ga K "_law_chain"), "_law_chain", "_law_chain", defArgs (top 97), defBody (top 97), defScope (top 97), [], []⟩
def dd38 : He5.DefA := ⟨(fun K => ga K "_law_ages"), "_law_ages", "_law_ages", defArgs (top 98), defBody (top 98), defScope (top 98), [], []⟩
def dd39 : He5.DefA := ⟨(fun K => ga K "law"), "law", "law", defArgs (top 99), defBody (top 99), defScope (top 99), [], []⟩
def dd40 : He5.DefA := ⟨(fun K => ma K (ga K "Rule") "__init__"), "__init__", "Rule.__init__", defArgs (inClass (top 36) 0), defBody (inClass (top 36) 0), defScope (inClass (top 36) 0), [], []⟩
def dd41 : He5.DefA := ⟨(fun K => ma K (ga K "Stretches") "__init__"), "__init__", "Stretches.__init__", defArgs (inClass (top 45) 0), defBody (inClass (top 45) 0), defScope (inClass (top 45) 0), [], []⟩
def dd42 : He5.DefA := ⟨(fun K => ma K (ga K "Way") "__init__"), "__init__", "Way.__init__", defArgs (inClass (top 52) 0), defBody (inClass (top 52) 0), defScope (inClass (top 52) 0), [], []⟩
def dd43 : He5.DefA := ⟨(fun K => ma K (ga K "Way") "arrows"), "arrows", "Way.arrows", defArgs (inClass (top 52) 2), defBody (inClass (top 52) 2), defScope (inClass (top 52) 2), [], []⟩
def dd44 : He5.DefA := ⟨(fun K => ma K (ga K "Way") "__getitem__"), "__getitem__", "Way.__getitem__", defArgs (inClass (top 52) 3), defBody (inClass (top 52) 3), defScope (inClass (top 52) 3), [], []⟩
def dd45 : He5.DefA := ⟨(fun K => ma K (ga K "Way") "__len__"), "__len__", "Way.__len__", defArgs (inClass (top 52) 5), defBody (inClass (top 52) 5), defScope (inClass (top 52) 5), [], []⟩
def dd46 : He5.DefA := ⟨(fun K => ma K (ga K "Way") "into"), "into", "Way.into", defArgs (inClass (top 52) 7), defBody (inClass (top 52) 7), defScope (inClass (top 52) 7), [], []⟩
def dd47 : He5.DefA := ⟨(fun K => ma K (ga K "Ages") "__init__"), "__init__", "Ages.__init__", defArgs (inClass (top 65) 0), defBody (inClass (top 65) 0), defScope (inClass (top 65) 0), [], []⟩
def dd48 : He5.DefA := ⟨(fun K => ma K (ga K "Ages") "is_told"), "is_told", "Ages.is_told", defArgs (inClass (top 65) 1), defBody (inClass (top 65) 1), defScope (inClass (top 65) 1), [], []⟩
def dd49 : He5.DefA := ⟨(fun K => ma K (ga K "Ages") "rest_of"), "rest_of", "Ages.rest_of", defArgs (inClass (top 65) 2), defBody (inClass (top 65) 2), defScope (inClass (top 65) 2), [], []⟩
def dd50 : He5.DefA := ⟨(fun K => ma K (ga K "Ages") "nearest"), "nearest", "Ages.nearest", defArgs (inClass (top 65) 3), defBody (inClass (top 65) 3), defScope (inClass (top 65) 3), [], []⟩
def dd51 : He5.DefA := ⟨(fun K => ma K (ga K "Ages") "arriving"), "arriving", "Ages.arriving", defArgs (inClass (top 65) 4), defBody (inClass (top 65) 4), defScope (inClass (top 65) 4), [], []⟩
def dd52 : He5.DefA := ⟨(fun K => ma K (ga K "Ages") "settled"), "settled", "Ages.settled", defArgs (inClass (top 65) 5), defBody (inClass (top 65) 5), defScope (inClass (top 65) 5), [], []⟩
def dd53 : He5.DefA := ⟨(fun K => ma K (ga K "Ages") "table"), "table", "Ages.table", defArgs (inClass (top 65) 6), defBody (inClass (top 65) 6), defScope (inClass (top 65) 6), [], []⟩
def dd54 : He5.DefA := ⟨(fun K => ma K (ga K "Ages") "walked"), "walked", "Ages.walked", defArgs (inClass (top 65) 7), defBody (inClass (top 65) 7), defScope (inClass (top 65) 7), [], []⟩
def dd55 : He5.DefA := ⟨(fun K => ma K (ga K "Book") "__init__"), "__init__", "Book.__init__", defArgs (inClass (top 81) 0), defBody (inClass (top 81) 0), defScope (inClass (top 81) 0), [], [("looks", .glo "MARKS"), ("how", .str "above"), ("day", .int 1), ("grain", .int 1), ("spares", .bl false), ("late", .int 0), ("again", .bl true), ("period", .int 1)]⟩
def dd56 : He5.DefA := ⟨(fun K => pgt K (ma K (ga K "Rule") "word")), "word", "Rule.word", defArgs (inClass (top 36) 4), defBody (inClass (top 36) 4), defScope (inClass (top 36) 4), [], []⟩
def dd57 : He5.DefA := ⟨(fun K => pgt K (ma K (ga K "Book") "looks")), "looks", "Book.looks", defArgs (inClass (top 81) 4), defBody (inClass (top 81) 4), defScope (inClass (top 81) 4), [], []⟩
def dd58 : He5.DefA := ⟨(fun K => pgt K (ma K (ga K "Book") "grain")), "grain", "Book.grain", defArgs (inClass (top 81) 10), defBody (inClass (top 81) 10), defScope (inClass (top 81) 10), [], []⟩
def dd59 : He5.DefA := ⟨(fun K => He5.wf K (ga K "Rule") "staticmethod" "always"), "always", "Rule.always", defArgs (inClass (top 36) 1), defBody (inClass (top 36) 1), defScope (inClass (top 36) 1), [], []⟩
def dd60 : He5.DefA := ⟨(fun K => He5.wf K (ga K "Rule") "staticmethod" "never"), "never", "Rule.never", defArgs (inClass (top 36) 2), defBody (inClass (top 36) 2), defScope (inClass (top 36) 2), [], []⟩
def dd61 : He5.DefA := ⟨(fun K => He5.wf K (ga K "Stretches") "staticmethod" "none"), "none", "Stretches.none", defArgs (inClass (top 45) 19), defBody (inClass (top 45) 19), defScope (inClass (top 45) 19), [], []⟩
def fl0 : List (PySem.W.Frag → Bool) := [fk0, fk1, fk2, fk3, fk4, fk5, fk6, fk7, fk8, fk9, fk10, fk11, fk12, fk13, fk14, fk15, fk16, fk17, fk18, fk19, fk20, fk21, fk22, fk23, fk24, fk25, fk26, fk27, fk28, fk29]
def fl1 : List (PySem.W.Frag → Bool) := [fk30, fk31, fk32, fk33, fk34, fk35, fk36, fk37, fk38, fk39, fk40, fk41, fk42, fk43, fk44, fk45, fk46, fk47, fk48, fk49, fk50, fk51, fk52, fk53, fk54, fk55, fk56, fk57, fk58, fk59]
def fl2 : List (PySem.W.Frag → Bool) := [fk60, fk61, fk62, fk63, fk64, fk65, fk66, fk67, fk68, fk69, fk70, fk71, fk72, fk73, fk74, fk75, fk76, fk77, fk78, fk79, fk80, fk81, fk82, fk83, fk84, fk85, fk86, fk87, fk88, fk89]
def fl3 : List (PySem.W.Frag → Bool) := [fk90, fk91, fk92, fk93, fk94, fk95, fk96, fk97, fk98, fk99, fk100, fk101, fk102, fk103, fk104, fk105, fk106, fk107, fk108, fk109, fk110, fk111, fk112, fk113, fk114]
def fkL : List (PySem.W.Frag → Bool) := fl0 ++ (fl1 ++ (fl2 ++ (fl3)))
def dl0 : List He5.DefA := [dd0, dd1, dd2, dd3, dd4, dd5, dd6, dd7, dd8, dd9, dd10, dd11, dd12, dd13, dd14, dd15, dd16, dd17, dd18, dd19, dd20, dd21, dd22, dd23, dd24, dd25, dd26, dd27, dd28, dd29]
def dl1 : List He5.DefA := [dd30, dd31, dd32, dd33, dd34, dd35, dd36, dd37, dd38, dd39, dd40, dd41, dd42, dd43, dd44, dd45, dd46, dd47, dd48, dd49, dd50, dd51, dd52, dd53, dd54, dd55, dd56, dd57, dd58, dd59]
def dl2 : List He5.DefA := [dd60, dd61]
def ddL : List He5.DefA := dl0 ++ (dl1 ++ (dl2))
def mts : List (Str × Str) := [("Rule", "__init__"), ("Stretches", "__init__"), ("Way", "__init__"), ("Way", "arrows"), ("Way", "__getitem__"), ("Way", "__len__"), ("Way", "into"), ("Ages", "__init__"), ("Ages", "is_told"), ("Ages", "rest_of"), ("Ages", "nearest"), ("Ages", "arriving"), ("Ages", "settled"), ("Ages", "table"), ("Ages", "walked"), ("Book", "__init__"), ("Rule", "word"), ("Book", "looks"), ("Book", "grain"), ("Rule", "always"), ("Rule", "never"), ("Stretches", "none")]
/-! ### the Hook: facts of a part of the heap, each list laid out in full before it is used -/
def frA {β : Type} : List Addr → (List Addr → β) → β
  | [], k => k []
  | a :: r, k => HandSHeadRun.frNat a fun a => frA r fun r => k (a :: r)
theorem frA_eq {β : Type} : ∀ (l : List Addr) (k : List Addr → β), frA l k = k l
  | [], _ => rfl
  | a :: r, k => by
    show HandSHeadRun.frNat a (fun a => frA r fun r => k (a :: r)) = k (a :: r)
    rw [HandSHeadRun.frNat_eq, frA_eq r]
def frK {β : Type} : List (Addr × Obj) → (List (Addr × Obj) → β) → β
  | [], k => k []
  | (a, ⟨c, d, dt, sl⟩) :: r, k => HandSHeadRun.frNat a fun a => frK r fun r => k ((a, ⟨c, d, dt, sl⟩) :: r)
theorem frK_eq {β : Type} : ∀ (l : List (Addr × Obj)) (k : List (Addr × Obj) → β), frK l k = k l
  | [], _ => rfl
  | (a, ⟨c, d, dt, sl⟩) :: r, k => by
    show HandSHeadRun.frNat a (fun a => frK r fun r => k ((a, ⟨c, d, dt, sl⟩) :: r)) = k ((a, ⟨c, d, dt, sl⟩) :: r)
    rw [HandSHeadRun.frNat_eq, frK_eq r]
/-- what an object leads to: a def to its code and its keyword defaults, a class to its names, a property or staticmethod to its def -/
def refsS (o : Obj) : List Addr := match o.data with
  | .func fd => refV fd.code ++ refV fd.kwdefaults
  | .cls cd => [cd.ns]
  | .fields vs => (match o.cls with
    | .type n => if n == "property" || n == "staticmethod" then vs.toList.flatMap refV else []
    | _ => [])
  | _ => []
def reach (g : Addr → Option Obj) : Nat → Addr → List Addr
  | 0, a => [a]
  | n + 1, a => a :: (match g a with
    | some o => (refsS o).flatMap (reach g n)
    | none => [])
def glos (g : Addr → Option Obj) (xs : List Str) (k : List Addr → He.AlD) : He.AlD := frK (frG g [mainGlobals]) fun K0 => frA (xs.map fun x => ga K0 x) fun gs => frA (gs.flatMap (reach g 2)) k
def methL (g : Addr → Option Obj) (ms : List (Str × Str)) (as : List Addr) (k : List Addr → He.AlD) : He.AlD := frK (frG g (mainGlobals :: as)) fun K1 => frA (ms.map fun p => ma K1 (ga K1 p.1) p.2) fun bs => frA (bs.flatMap (reach g 3)) fun bs => k (mainGlobals :: PySem.cStatics :: (as ++ bs))
def asB (g : Addr → Option Obj) (xs : List Str) (ms : List (Str × Str)) : List Addr :=
  let as := (xs.map fun x => ga (frG g [mainGlobals]) x).flatMap (reach g 2)
  mainGlobals :: PySem.cStatics :: (as ++ (ms.map fun p => ma (frG g (mainGlobals :: as)) (ga (frG g (mainGlobals :: as)) p.1) p.2).flatMap (reach g 3))
def obsB (fa : List (PySem.W.Frag → Bool)) (fn : List He5.DefA) (K : PySem.W.Frag) : He.AlD := ((fa.all fun f => f K) && fn.all fun d => d.ok K, fn.map fun d => He5.fnA K (d.at_ K))
def SaysB (fa : List (PySem.W.Frag → Bool)) (fn : List He5.DefA) (K : PySem.W.Frag) : Prop := obsB fa fn K = He5.valA fn
def obsBG (xs : List Str) (ms : List (Str × Str)) (fa : List (PySem.W.Frag → Bool)) (fn : List He5.DefA) (g : Addr → Option Obj) : He.AlD := glos g xs fun as => methL g ms as fun as => frK (frG g as) fun K => obsB fa fn K
theorem obsBG_at (xs : List Str) (ms : List (Str × Str)) (fa : List (PySem.W.Frag → Bool)) (fn : List He5.DefA) (g : Addr → Option Obj) : obsBG xs ms fa fn g = obsB fa fn (frG g (asB g xs ms)) := by
  unfold obsBG glos methL asB
  simp only [frK_eq, frA_eq]
def hookB (xs : List Str) (ms : List (Str × Str)) (fa : List (PySem.W.Frag → Bool)) (fn : List He5.DefA) : PySem.W.Hook where
  α := He.AlD
  obs := fun s => obsBG xs ms fa fn s.heap.get?
  val := fun _ => He5.valA fn
  says := fun _ h => ∃ K : PySem.W.Frag, K.In h ∧ SaysB fa fn K
  of := fun _ _ e => ⟨_, frG_in, (obsBG_at _ _ _ _ _).symm.trans e⟩
  keeps := fun _ _ _ ⟨K, hK, c⟩ k => ⟨K, PySem.W.Frag.In.keeps hK k, c⟩
theorem obsBG_eq {xs : List Str} {ms : List (Str × Str)} {fa : List (PySem.W.Frag → Bool)} {fn : List He5.DefA} {g : Addr → Option Obj} {s : Shared} (h : ∀ a, g a = s.heap.get? a) : obsBG xs ms fa fn g = (hookB xs ms fa fn).obs s := by
  have e : g = s.heap.get? := funext h
  rw [e]
  all_goals rfl
section
variable {fa : List (PySem.W.Frag → Bool)} {fn : List He5.DefA} {K : PySem.W.Frag}
theorem SaysB.fact (c : SaysB fa fn K) (i : Nat) {f : PySem.W.Frag → Bool} (h : fa[i]? = some f := by rfl) : f K = true := by
  have c1 := (ba (show ((fa.all fun f => f K) && fn.all fun d => d.ok K) = true from congrArg (fun z : He.AlD => z.1) c)).1
  exact List.all_eq_true.mp c1 f (List.mem_of_getElem? h)
theorem SaysB.def_ (c : SaysB fa fn K) (i : Nat) {d : He5.DefA} (h : fn[i]? = some d := by rfl) : ∃ fd, FunD K d.name d.qual d.params d.body d.scope (d.dvs K) (d.kws K) (d.at_ K) fd := by
  have c2 := (ba (show ((fa.all fun f => f K) && fn.all fun d => d.ok K) = true from congrArg (fun z : He.AlD => z.1) c)).2
  have e : fn.map (fun d => He5.fnA K (d.at_ K)) = fn.map He5.DefA.val := congrArg (fun z : He.AlD => z.2) c
  have e2 : (fn.map fun d => He5.fnA K (d.at_ K))[i]? = (fn.map He5.DefA.val)[i]? := by rw [e]
  rw [List.getElem?_map, List.getElem?_map, h] at e2
  exact He5.DefA.funD (Option.some.inj e2) (List.all_eq_true.mp c2 d (List.mem_of_getElem? h))
end
theorem txt_of {K : PySem.W.Frag} {h : Heap} {mg : Str → Option Value} (X : K.In h) (G : h.Ns mainGlobals mg) (c : SaysB fkL ddL K) : Txt K mg where
  g_is_whole := glo_ok X G (c.fact 0 (f := fk0) rfl)
  g_is_between := glo_ok X G (c.fact 1 (f := fk1) rfl)
  g_is_listed := glo_ok X G (c.fact 2 (f := fk2) rfl)
  g_is_part_of := glo_ok X G (c.fact 3 (f := fk3) rfl)
  g_is_time := glo_ok X G (c.fact 4 (f := fk4) rfl)
  g_is_deed := glo_ok X G (c.fact 5 (f := fk5) rfl)
  g_makes := glo_ok X G (c.fact 6 (f := fk6) rfl)
  g_is_looks := glo_ok X G (c.fact 7 (f := fk7) rfl)
  g_all_looks := glo_ok X G (c.fact 8 (f := fk8) rfl)
  g_backs := glo_ok X G (c.fact 9 (f := fk9) rfl)
  g_check_rule := glo_ok X G (c.fact 10 (f := fk10) rfl)
  g_joined := glo_ok X G (c.fact 11 (f := fk11) rfl)
  g_is_arrow := glo_ok X G (c.fact 12 (f := fk12) rfl)
  g_reached_from := glo_ok X G (c.fact 13 (f := fk13) rfl)
  g_check_way := glo_ok X G (c.fact 14 (f := fk14) rfl)
  g_check_node := glo_ok X G (c.fact 15 (f := fk15) rfl)
  g_all_ages := glo_ok X G (c.fact 16 (f := fk16) rfl)
  g_surely_set := glo_ok X G (c.fact 17 (f := fk17) rfl)
  g_is_more := glo_ok X G (c.fact 18 (f := fk18) rfl)
  g_least_table := glo_ok X G (c.fact 19 (f := fk19) rfl)
  g_one_least := glo_ok X G (c.fact 20 (f := fk20) rfl)
  g_check_looks := glo_ok X G (c.fact 21 (f := fk21) rfl)
  g_greatest_age := glo_ok X G (c.fact 22 (f := fk22) rfl)
  g_least_age := glo_ok X G (c.fact 23 (f := fk23) rfl)
  g_is_value := glo_ok X G (c.fact 24 (f := fk24) rfl)
  g_check_parts := glo_ok X G (c.fact 25 (f := fk25) rfl)
  g_check_book := glo_ok X G (c.fact 26 (f := fk26) rfl)
  g_check_all := glo_ok X G (c.fact 27 (f := fk27) rfl)
  g_counts := glo_ok X G (c.fact 28 (f := fk28) rfl)
  g_seen_most := glo_ok X G (c.fact 29 (f := fk29) rfl)
  g_greatest_seen := glo_ok X G (c.fact 30 (f := fk30) rfl)
  g_law_source := glo_ok X G (c.fact 31 (f := fk31) rfl)
  g_law_draw := glo_ok X G (c.fact 32 (f := fk32) rfl)
  g_law_pick := glo_ok X G (c.fact 33 (f := fk33) rfl)
  g_law_backs := glo_ok X G (c.fact 34 (f := fk34) rfl)
  g_law_maker := glo_ok X G (c.fact 35 (f := fk35) rfl)
  g_law_user := glo_ok X G (c.fact 36 (f := fk36) rfl)
  g_law_chain := glo_ok X G (c.fact 37 (f := fk37) rfl)
  g_law_ages := glo_ok X G (c.fact 38 (f := fk38) rfl)
  g_law := glo_ok X G (c.fact 39 (f := fk39) rfl)
  g_Rule := glo_ok X G (c.fact 40 (f := fk40) rfl)
  g_Stretches := glo_ok X G (c.fact 41 (f := fk41) rfl)
  g_Way := glo_ok X G (c.fact 42 (f := fk42) rfl)
  g_Ages := glo_ok X G (c.fact 43 (f := fk43) rfl)
  g_Book := glo_ok X G (c.fact 44 (f := fk44) rfl)
  g_MARKS := glo_ok X G (c.fact 45 (f := fk45) rfl)
  g_PLAIN := glo_ok X G (c.fact 46 (f := fk46) rfl)
  g_WORDS := glo_ok X G (c.fact 47 (f := fk47) rfl)
  g_PARTS := glo_ok X G (c.fact 48 (f := fk48) rfl)
  b_isinstance := free_ok X G (c.fact 49 (f := fk49) rfl)
  b_int := free_ok X G (c.fact 50 (f := fk50) rfl)
  b_bool := free_ok X G (c.fact 51 (f := fk51) rfl)
  b_tuple := free_ok X G (c.fact 52 (f := fk52) rfl)
  b_list := free_ok X G (c.fact 53 (f := fk53) rfl)
  b_str := free_ok X G (c.fact 54 (f := fk54) rfl)
  b_len := free_ok X G (c.fact 55 (f := fk55) rfl)
  b_enumerate := free_ok X G (c.fact 56 (f := fk56) rfl)
  b_any := free_ok X G (c.fact 57 (f := fk57) rfl)
  b_range := free_ok X G (c.fact 58 (f := fk58) rfl)
  b_min := free_ok X G (c.fact 59 (f := fk59) rfl)
  b_max := free_ok X G (c.fact 60 (f := fk60) rfl)
  b_abs := free_ok X G (c.fact 61 (f := fk61) rfl)
  b_dict := free_ok X G (c.fact 62 (f := fk62) rfl)
  b_sorted := free_ok X G (c.fact 63 (f := fk63) rfl)
  i_LONGEST := int_ok X G (c.fact 64 (f := fk64) rfl)
  i_MOST_NODES := int_ok X G (c.fact 65 (f := fk65) rfl)
  i_MOST_ARROWS := int_ok X G (c.fact 66 (f := fk66) rfl)
  i_LARGEST_GRAIN := int_ok X G (c.fact 67 (f := fk67) rfl)
  i_LARGEST_BOUND := int_ok X G (c.fact 68 (f := fk68) rfl)
  i_LATEST := int_ok X G (c.fact 69 (f := fk69) rfl)
  t_MARKS := fun H => tupB_ok (c.fact 70 (f := fk70) rfl) H
  t_PLAIN := fun H => tupB_ok (c.fact 71 (f := fk71) rfl) H
  t_WORDS := fun H => tupB_ok (c.fact 72 (f := fk72) rfl) H
  t_PARTS := fun H => tupB_ok (c.fact 73 (f := fk73) rfl) H
  c_Rule := cls_ok (c.fact 74 (f := fk74) rfl)
  c_Stretches := cls_ok (c.fact 75 (f := fk75) rfl)
  c_Way := cls_ok (c.fact 76 (f := fk76) rfl)
  c_Ages := cls_ok (c.fact 77 (f := fk77) rfl)
  c_Book := cls_ok (c.fact 78 (f := fk78) rfl)
  m_Rule := mkr_ok (c.fact 79 (f := fk79) rfl)
  m_Stretches := mkr_ok (c.fact 80 (f := fk80) rfl)
  m_Way := mkr_ok (c.fact 81 (f := fk81) rfl)
  m_Ages := mkr_ok (c.fact 82 (f := fk82) rfl)
  m_Book := mkr_ok (c.fact 83 (f := fk83) rfl)
  n_Rule_own_word := noat_ok (c.fact 84 (f := fk84) rfl)
  n_Rule_own_after := noat_ok (c.fact 85 (f := fk85) rfl)
  n_Stretches_own_pairs := noat_ok (c.fact 86 (f := fk86) rfl)
  n_Way_own_nodes := noat_ok (c.fact 87 (f := fk87) rfl)
  n_Way_own_arrows := noat_ok (c.fact 88 (f := fk88) rfl)
  n_Ages_way := noat_ok (c.fact 89 (f := fk89) rfl)
  n_Ages_rule := noat_ok (c.fact 90 (f := fk90) rfl)
  n_Ages_read_ages := noat_ok (c.fact 91 (f := fk91) rfl)
  n_Ages_kept := noat_ok (c.fact 92 (f := fk92) rfl)
  n_Book_own_parts := noat_ok (c.fact 93 (f := fk93) rfl)
  me_Way_arrows := meth_ok (c.fact 94 (f := fk94) rfl)
  me_Way_getitem := meth_ok (c.fact 95 (f := fk95) rfl)
  me_Way_len := meth_ok (c.fact 96 (f := fk96) rfl)
  me_Way_into := meth_ok (c.fact 97 (f := fk97) rfl)
  me_Ages_is_told := meth_ok (c.fact 98 (f := fk98) rfl)
  me_Ages_rest_of := meth_ok (c.fact 99 (f := fk99) rfl)
  me_Ages_nearest := meth_ok (c.fact 100 (f := fk100) rfl)
  me_Ages_arriving := meth_ok (c.fact 101 (f := fk101) rfl)
  me_Ages_settled := meth_ok (c.fact 102 (f := fk102) rfl)
  me_Ages_table := meth_ok (c.fact 103 (f := fk103) rfl)
  me_Ages_walked := meth_ok (c.fact 104 (f := fk104) rfl)
  fi_getitem := (c.fact 105 (f := fk105) rfl)
  p_Rule_word := propB_ok (c.fact 106 (f := fk106) rfl)
  p_Book_looks := propB_ok (c.fact 107 (f := fk107) rfl)
  p_Book_grain := propB_ok (c.fact 108 (f := fk108) rfl)
  s_Rule_always := statB_ok (c.fact 109 (f := fk109) rfl)
  s_Rule_never := statB_ok (c.fact 110 (f := fk110) rfl)
  s_Stretches_none := statB_ok (c.fact 111 (f := fk111) rfl)
  is_Rule := insB_ok (cls_ok (c.fact 74 (f := fk74) rfl)) (c.fact 112 (f := fk112) rfl)
  is_Way := insB_ok (cls_ok (c.fact 76 (f := fk76) rfl)) (c.fact 113 (f := fk113) rfl)
  is_Book := insB_ok (cls_ok (c.fact 78 (f := fk78) rfl)) (c.fact 114 (f := fk114) rfl)
  d_is_whole := c.def_ 0 (d := dd0) rfl
  d_is_between := c.def_ 1 (d := dd1) rfl
  d_is_listed := c.def_ 2 (d := dd2) rfl
  d_is_part_of := c.def_ 3 (d := dd3) rfl
  d_is_time := c.def_ 4 (d := dd4) rfl
  d_is_deed := c.def_ 5 (d := dd5) rfl
  d_makes := c.def_ 6 (d := dd6) rfl
  d_is_looks := c.def_ 7 (d := dd7) rfl
  d_all_looks := c.def_ 8 (d := dd8) rfl
  d_backs := c.def_ 9 (d := dd9) rfl
  d_check_rule := c.def_ 10 (d := dd10) rfl
  d_joined := c.def_ 11 (d := dd11) rfl
  d_is_arrow := c.def_ 12 (d := dd12) rfl
  d_reached_from := c.def_ 13 (d := dd13) rfl
  d_check_way := c.def_ 14 (d := dd14) rfl
  d_check_node := c.def_ 15 (d := dd15) rfl
  d_all_ages := c.def_ 16 (d := dd16) rfl
  d_surely_set := c.def_ 17 (d := dd17) rfl
  d_is_more := c.def_ 18 (d := dd18) rfl
  d_least_table := c.def_ 19 (d := dd19) rfl
  d_one_least := c.def_ 20 (d := dd20) rfl
  d_check_looks := c.def_ 21 (d := dd21) rfl
  d_greatest_age := c.def_ 22 (d := dd22) rfl
  d_least_age := c.def_ 23 (d := dd23) rfl
  d_is_value := c.def_ 24 (d := dd24) rfl
  d_check_parts := c.def_ 25 (d := dd25) rfl
  d_check_book := c.def_ 26 (d := dd26) rfl
  d_check_all := c.def_ 27 (d := dd27) rfl
  d_counts := c.def_ 28 (d := dd28) rfl
  d_seen_most := c.def_ 29 (d := dd29) rfl
  d_greatest_seen := c.def_ 30 (d := dd30) rfl
  d_law_source := c.def_ 31 (d := dd31) rfl
  d_law_draw := c.def_ 32 (d := dd32) rfl
  d_law_pick := c.def_ 33 (d := dd33) rfl
  d_law_backs := c.def_ 34 (d := dd34) rfl
  d_law_maker := c.def_ 35 (d := dd35) rfl
  d_law_user := c.def_ 36 (d := dd36) rfl
  d_law_chain := c.def_ 37 (d := dd37) rfl
  d_law_ages := c.def_ 38 (d := dd38) rfl
  d_law := c.def_ 39 (d := dd39) rfl
  d_Rule_init := c.def_ 40 (d := dd40) rfl
  d_Stretches_init := c.def_ 41 (d := dd41) rfl
  d_Way_init := c.def_ 42 (d := dd42) rfl
  d_Way_arrows := c.def_ 43 (d := dd43) rfl
  d_Way_getitem := c.def_ 44 (d := dd44) rfl
  d_Way_len := c.def_ 45 (d := dd45) rfl
  d_Way_into := c.def_ 46 (d := dd46) rfl
  d_Ages_init := c.def_ 47 (d := dd47) rfl
  d_Ages_is_told := c.def_ 48 (d := dd48) rfl
  d_Ages_rest_of := c.def_ 49 (d := dd49) rfl
  d_Ages_nearest := c.def_ 50 (d := dd50) rfl
  d_Ages_arriving := c.def_ 51 (d := dd51) rfl
  d_Ages_settled := c.def_ 52 (d := dd52) rfl
  d_Ages_table := c.def_ 53 (d := dd53) rfl
  d_Ages_walked := c.def_ 54 (d := dd54) rfl
  d_Book_init := c.def_ 55 (d := dd55) rfl
  d_Rule_word := c.def_ 56 (d := dd56) rfl
  d_Book_looks := c.def_ 57 (d := dd57) rfl
  d_Book_grain := c.def_ 58 (d := dd58) rfl
  d_Rule_always := c.def_ 59 (d := dd59) rfl
  d_Rule_never := c.def_ 60 (d := dd60) rfl
  d_Stretches_none := c.def_ 61 (d := dd61) rfl
abbrev R57 : PySem.W.OpenRow := PySem.W.OpenLaw.row PySem.Challenge.rw_agedfiles_k57_whole_chains_of_deeds
abbrev hk57 : PySem.W.Hook := hookB want mts fkL ddL
def ob57 (s : PySem.W.SharedT) : He.AlD := obsBG want mts fkL ddL (HandSHeadRun.getT s)
theorem ob57_eq (s : PySem.W.SharedT) : ob57 s = hk57.obs s.abs := obsBG_eq (HandSHeadRun.getT_eq s)
theorem run57 (w : World) : HandSHeadRun.RunEq R57 (PySem.W.view R57.prog [99]) hk57 ob57 20000 names w := by
  intro os
  kernel_rfl
end K57
-- part R2
/-! enumerate of a tuple; d.update(e). -/
namespace KX
open PySem PySem.Spec PyProof.Rows L2

/-! ### d.update(e), two dicts that are tracked -/
def rUpdK : V → List V → Hp → VK → Prop := fun x xs H Q => ∃ (a b : Addr) (ks ls : List (Key × V)), x = .ref a ∧ xs = [.ref b] ∧ a ≠ b ∧ H a = some (.dK ks) ∧ H b = some (.dK ls) ∧ ks.length + ls.length ≤ sizeLine ∧ Q .non (upd H a (.dK (mergeK ks ls)))
theorem mt_updK {X : Cx} : MtR X "dict.update" rUpdK := by
  intro pins s σ H x xs v us Q I rx rv h
  obtain ⟨a, b, ks, ls, rfl, rfl, hab, ha, hb, hz, q⟩ := h
  cases rx
  obtain ⟨u, rfl, ru⟩ := rv.one
  cases ru
  obtain ⟨_, da, vs, ra, dda⟩ := dk_of I.hok ha
  obtain ⟨_, db, ws, rb, ddb⟩ := dk_of I.hok hb
  refine call_meetsIn PySem.F.slot_dict_update dda.typeIs PySem.F.entry_dict_update (PySem.F.args_dict_update_2 _ _) (meets_dict_update (mixKind X.prog X.w) a b hab db)
    ⟨vs, ws, dda, ddb, by rw [← ra.length, ← rb.length]; exact hz, fun h' dd' _ hs => ?_⟩
  have he : ∃ q, h'.get? a = some q := let ⟨q, _, _, hq, _⟩ := dd'; ⟨q, hq⟩
  have hl : (mergeK ks ls).length ≤ sizeLine := Nat.le_trans (length_mergeK ls ks) hz
  exact ⟨.non, _, d_write (t' := s.toks) I (by rw [ha]; exact True.intro) hs he (dk_new hl da (KV.merge rb ra) dd'), rfl, q⟩

/-! ### enumerate(t), t a tuple -/
theorem meets_enum_tup (l : Addr) (items : Array Value) :
    Meets (Builtin.«enumerate.__new__» ⟨[.type "enumerate", .ref l], []⟩) (fun _ R s => s.heap.IsTuple l items ∧
      R (.ok (.ret (.ref (s.heap.push { cls := .type "tuple_iterator", data := .fields #[.ref l, .int 0 0] }).objs.size)))
        { s with heap := (s.heap.push { cls := .type "tuple_iterator", data := .fields #[.ref l, .int 0 0] }).push { cls := .type "enumerate", data := .fields #[.none, .bool false, .ref s.heap.objs.size, rawInt 0, .none, .none] } }) :=
  .of_wp fun prog w A R s h => by
    obtain ⟨hp, g, d, tk, os⟩ := s
    obtain ⟨h1, h⟩ := h
    have hsub := sub_enumerate
    have q1 : ∀ {A' : Around} {E : Value → Shared → Prop} {Q : Value → Shared → Prop}, Q (.ref hp.objs.size) ⟨hp.push { cls := .type "tuple_iterator", data := .fields #[.ref l, .int 0 0] }, g, d, tk, os⟩ → wpAny (model prog w) A' (pyIter (.ref l)) Q E ⟨hp, g, d, tk, os⟩ :=
      fun q => wpAny_pyIter_tuple h1 q
    wp_walk using q1
    refine wpAny_stack_any fun st => wpAny_pure ?_
    split
    · rename_i c _ _ _ _ _
      cases (c == Value.type "enumerate") <;> (wp_walk using q1; exact ⟨_, rfl, h⟩)
    · wp_walk using q1
      exact ⟨_, rfl, h⟩
theorem call_enum_tup {prog : Program} {w : World} {A : Around} {E : Value → Shared → Prop} {s : Shared} {l : Addr} {items : Array Value} {Q : Value → Shared → Prop} (hL : s.heap.IsTuple l items)
    (h : ∀ h', IsEnum h' (s.heap.objs.size + 1) s.heap.objs.size 0 .none → h'.IsTupleIter s.heap.objs.size l 0 → h'.objs.size = s.heap.objs.size + 2 → (∀ b o, s.heap.get? b = some o → h'.get? b = some o) → Q (.ref (s.heap.objs.size + 1)) { s with heap := h' }) :
    wpAny (model prog w) A (call (.type "enumerate") [.ref l]) Q E s := by
  refine callType_new F.called_enumerate (by decide) (F.typeCall_enumerate_1 _) (F.newCall_enumerate_1 _) (fun obj => F.args_object_init_2 obj _) F.entry_enumerate_new (meets_enum_tup l items) ⟨hL, ?_⟩
  have hz : (s.heap.push { cls := .type "tuple_iterator", data := .fields #[.ref l, .int 0 0] }).objs.size = s.heap.objs.size + 1 := Heap.size_push ..
  show _ ∧ _
  rw [hz]
  have he : IsEnum ((s.heap.push { cls := .type "tuple_iterator", data := .fields #[.ref l, .int 0 0] }).push { cls := .type "enumerate", data := .fields #[.none, .bool false, .ref s.heap.objs.size, rawInt 0, .none, .none] }) (s.heap.objs.size + 1) s.heap.objs.size 0 .none := by
    have z := Heap.get?_push_size (s.heap.push { cls := .type "tuple_iterator", data := .fields #[.ref l, .int 0 0] }) (o := { cls := .type "enumerate", data := .fields #[.none, .bool false, .ref s.heap.objs.size, rawInt 0, .none, .none] }) rfl
    rw [hz] at z
    exact z
  refine ⟨⟨_, he, rfl⟩, h _ he ⟨_, Heap.get?_push_of_some _ (Heap.get?_push_size _ rfl), rfl, rfl⟩ (by rw [Heap.size_push, hz]) fun b o y => Heap.get?_push_of_some _ (Heap.get?_push_of_some _ y)⟩

/-- enumerate of the empty tuple: no turn -/
def Ite0 (K : PySem.W.Frag) (a : Addr) : It := ⟨fun _ _ => False, fun _ _ _ _ => False, fun _ H => SqT K H a []⟩
theorem turn_enum0 {P : Program} {w : World} {K : PySem.W.Frag} {elts : List Expr} {kk : Nat} {tpos : Pos} (a e it : Addr) (hne : a ≠ it) :
    Turn P w K (.Tuple elts kk tpos) (Ite0 K a) [e, it] e (fun i h => (∃ old, IsEnum h e it ((i : Nat) : Int) old) ∧ h.IsTupleIter it a 0 ∧ i = 0) where
  mem := by simp
  obj := fun i h st b hb => by
    obtain ⟨⟨old, he⟩, ⟨o, ho, hc, hd⟩, _⟩ := st
    have e' : b = e ∨ b = it := by simpa using hb
    rcases e' with z | z
    · rw [z]
      exact ⟨_, he, fun v q => nomatch q⟩
    · rw [z]
      exact ⟨o, ho, fun v q => by rw [hd] at q; cases q⟩
  keep := fun i h h' st k => let ⟨⟨old, he⟩, hi, h0⟩ := st; ⟨⟨old, k e (by simp) _ he⟩, hi.at fun o q => k it (by simp) o q, h0⟩
  item := by
    intro X hP hw hK hc i pins s σ H E I hf st hg
    exact False.elim hg
  done := by
    intro X hP hw hK hc i pins s σ H E I hf st hg
    subst hP hw hK
    obtain ⟨⟨old, he⟩, hit, h0⟩ := st
    obtain ⟨its, rv, p, hz⟩ := I.tuple (show SqT X.K H a [] from hg)
    obtain ⟨f0, f1, f2, f3, f4, f5⟩ := hf it (by simp)
    have hl : its = [] := by cases rv; rfl
    subst hl
    have D := Draws.tuple (prog := X.prog) (w := X.w) (A := X.A.in1) (I.ok.hd hc) it a hne #[]
    exact wpAny_pyNext_enum_endD D he ⟨hit, (show s.heap.IsTuple a #[] from p)⟩ fun h' eb => ⟨rfl, I.turned (t' := s.toks) (fun b o hb q => eb b o hb q) f0 f1 f3 f4 f5⟩
  self := fun _ _ _ _ _ st h => let ⟨⟨_, he⟩, _⟩ := st; wpAny_pyIter_enum he h
def iEnum0 (K : PySem.W.Frag) (ta : TA) : TI := fun σ H R => ta σ H fun vs H1 => ∃ a, vs = [.ref a] ∧ SqT K H1 a [] ∧ R (Ite0 K a) H1
theorem pi_enum0 {X : Cx} {e : Expr} {ta : TA} {p pos tpos : Pos} {elts : List Expr} {kk : Nat} (hg : Gl X "enumerate") (hm : X.mg "enumerate" = none) (ha : PA X [e] ta) (hs : starEach [e] X.env = [(false, eval e X.env)] := by rfl) :
    PI X (.Tuple elts kk tpos) (.Call (.Name "enumerate" p) [e] [] pos) (iEnum0 X.K ta) := by
  refine ⟨fun pins s σ H R I h => ?_⟩
  refine Call_ (ld_blt I hg hm boot_enumerate (PyProof.Rows.callWith_type1 (thn (ha.run pos pins s σ H _ I h) fun us s1 ⟨vs, H1, I1, r1, q1⟩ => ?_) hs rfl))
  obtain ⟨a, ex, hq, q⟩ := q1
  subst ex
  obtain ⟨u, rfl, ru⟩ := r1.one
  cases ru
  obtain ⟨its, rv, p', hz⟩ := I1.tuple hq
  have hal : a < s1.heap.objs.size := p'.lt
  refine call_enum_tup (show s1.heap.IsTuple a its.toArray from p') fun h' he hit hsz hk => wpAny_pyIter_enum he ?_
  have I2 : Inv X pins σ H1 { s1 with heap := h' } := I1.kept (t' := s1.toks) hk
  refine ⟨s1.heap.objs.size + 1, [s1.heap.objs.size + 1, s1.heap.objs.size], _, _, H1, rfl, I2, turn_enum0 a (s1.heap.objs.size + 1) s1.heap.objs.size (Nat.ne_of_lt hal), ⟨⟨.none, he⟩, hit, rfl⟩, fun b hb => ?_, q⟩
  have e' : b = s1.heap.objs.size + 1 ∨ b = s1.heap.objs.size := by simpa using hb
  have hle : s1.heap.objs.size ≤ b := by
    rcases e' with z | z
    · rw [z]; exact Nat.le_add_right _ _
    · rw [z]; exact Nat.le_refl _
  exact I1.fpOk hle (I1.hok.fresh hle)
end KX
-- part L0
/-! Short words over the layer: defs as constants, promises by value, what evaluates to what. -/
namespace K57
open PySem PySem.Spec PyProof.Rows L2 He Evl

/-! ### defs that may be called -/
theorem r65 {k : Nat} {A : Around} (r : Room k A) : A.units + 65 < cLine := by have := r.un; omega
structure Cal (P : Program) (w : World) (K : PySem.W.Frag) (mg : Str → Option Value) (base : Heap) (k : Nat) (x : Str) (sp : Sp) : Prop where
  ex : ∃ (f : Addr) (fd : FuncData) (ps : List Str), FnOk P w K mg base CX0 k f fd ps sp ∧ mg x = some (.ref f) ∧ PySem.W.keepIn K (.ref f) = true ∧ Binds K fd ps []
structure Met (P : Program) (w : World) (K : PySem.W.Frag) (mg : Str → Option Value) (base : Heap) (k : Nat) (C : Addr) (m : Str) (sp : Sp) : Prop where
  ex : ∃ (f : Addr) (fd : FuncData) (ps : List Str), Cls K C ∧ Meth K C m f ∧ FnOk P w K mg base CX0 k f fd ps sp ∧ Binds K fd ps []
structure Mak (P : Program) (w : World) (K : PySem.W.Frag) (mg : Str → Option Value) (base : Heap) (k : Nat) (x : Str) (C : Addr) (sp : Sp) : Prop where
  ex : ∃ (f : Addr) (fd : FuncData) (ps : List Str), Mk K C f ∧ FnOk P w K mg base CX0 k f fd ps sp ∧ mg x = some (.ref C) ∧ Binds K fd ps []
/-- a def at an address -/
structure At (P : Program) (w : World) (K : PySem.W.Frag) (mg : Str → Option Value) (base : Heap) (k : Nat) (f : Addr) (sp : Sp) : Prop where
  ex : ∃ (fd : FuncData) (ps : List Str), FnOk P w K mg base CX0 k f fd ps sp ∧ Binds K fd ps []
theorem Met.imp {P : Program} {w : World} {K : PySem.W.Frag} {mg : Str → Option Value} {base : Heap} {k : Nat} {C : Addr} {m : Str} {sp sp' : Sp} (c : Met P w K mg base k C m sp) (h : ∀ vs H Q E, sp' vs H Q E → sp vs H Q E) : Met P w K mg base k C m sp' := by
  obtain ⟨f, fd, ps, a, b, F, d⟩ := c.ex
  exact ⟨f, fd, ps, a, b, F.imp h, d⟩
section
variable {X : Cx} {k j : Nat} {C : Addr} {x m : Str} {sp : Sp} {p pos apos : Pos} {e o : Expr} {es : List Expr} {ta : TE} {t : TA}
theorem pcal (c : Cal X.prog X.w X.K X.mg X.base k x sp) (hr : Room j X.A) (ha : PA X (e :: es) t) (hk : k ≤ j := by decide) (hg : Gl X x := by rfl)
    (hdb : (x == ("__debug__" : Str)) = false := by decide) (he : starEach (e :: es) X.env = (false, eval e X.env) :: starEach es X.env := by rfl) (hpl : (backTo pos (starEach es X.env)).any (·.1) = false := by rfl) :
    PE X (.Call (.Name x p) (e :: es) [] pos) (tCall sp [] E0 t) := by
  obtain ⟨f, fd, ps, F, hm, kp, b⟩ := c.ex
  exact pe_call F (hr.mono hk) hg hm kp b .nil pass0 ha hdb he hpl
theorem pcal0 (c : Cal X.prog X.w X.K X.mg X.base k x sp) (hr : Room j X.A) (hk : k ≤ j := by decide) (hg : Gl X x := by rfl) (hdb : (x == ("__debug__" : Str)) = false := by decide) : PE X (.Call (.Name x p) [] [] pos) (tCall sp [] E0 tNil) := by
  obtain ⟨f, fd, ps, F, hm, kp, b⟩ := c.ex
  exact pe_call0 F (hr.mono hk) hg hm kp b .nil pass0 hdb
theorem pmak (c : Mak X.prog X.w X.K X.mg X.base k x C sp) (hr : Room j X.A) (ha : PA X (e :: es) t) (hk : k + 1 ≤ j := by decide) (hg : Gl X x := by rfl)
    (hdb : (x == ("__debug__" : Str)) = false := by decide) (he : starEach (e :: es) X.env = (false, eval e X.env) :: starEach es X.env := by rfl) (hpl : (backTo pos (starEach es X.env)).any (·.1) = false := by rfl) :
    PE X (.Call (.Name x p) (e :: es) [] pos) (tMake C sp [] E0 t) := by
  obtain ⟨f, fd, ps, M, F, hm, b⟩ := c.ex
  exact pe_make M F (hr.mono hk) hg hm b .nil pass0 ha hdb he hpl
theorem pmet {pl : Sem Bool} (c : Met X.prog X.w X.K X.mg X.base k C m sp) (hr : Room j X.A) (he : PE X o ta) (ha : PA X (e :: es) t) (hk : k ≤ j := by decide)
    (hst : starEach (e :: es) X.env = (false, eval e X.env) :: starEach es X.env := by rfl) (hpl : (backTo pos (starEach es X.env)).any (·.1) = false := by rfl)
    (ht : eval (.Call (.Attribute o m apos) (e :: es) [] pos) X.env = (do
      let ov ← eval o X.env
      standAt apos.atName
      let (f, first) ← holding [ov] (getMethod ov m pl)
      callWith pos f first (backTo pos (starEach (e :: es) X.env)) (backToKw pos (keywordEach [] X.env))) := by rfl) :
    PE X (.Call (.Attribute o m apos) (e :: es) [] pos) (tMeth C m sp [] E0 ta t) := by
  obtain ⟨f, fd, ps, hc, hm, F, b⟩ := c.ex
  exact pe_meth (pl := pl) he hc hm F (hr.mono hk) b .nil pass0 ha hst hpl ht
theorem pmet0 {pl : Sem Bool} (c : Met X.prog X.w X.K X.mg X.base k C m sp) (hr : Room j X.A) (he : PE X o ta) (hk : k ≤ j := by decide)
    (ht : eval (.Call (.Attribute o m apos) [] [] pos) X.env = (do
      let ov ← eval o X.env
      standAt apos.atName
      let (f, first) ← holding [ov] (getMethod ov m pl)
      callWith pos f first (backTo pos (starEach [] X.env)) (backToKw pos (keywordEach [] X.env))) := by rfl) :
    PE X (.Call (.Attribute o m apos) [] [] pos) (tMeth C m sp [] E0 ta tNil) := by
  obtain ⟨f, fd, ps, hc, hm, F, b⟩ := c.ex
  exact pe_meth0 (pl := pl) he hc hm F (hr.mono hk) b .nil pass0 ht
/-- a property; a staticmethod; own len; own subscript -/
structure Prp (P : Program) (w : World) (K : PySem.W.Frag) (mg : Str → Option Value) (base : Heap) (k : Nat) (C : Addr) (f : Str) (sp : Sp) : Prop where
  ex : ∃ (p g : Addr) (fd : FuncData) (ps : List Str), Cls K C ∧ PropOf K C f p g ∧ FnOk P w K mg base CX0 k g fd ps sp ∧ Binds K fd ps []
structure Smt (P : Program) (w : World) (K : PySem.W.Frag) (mg : Str → Option Value) (base : Heap) (k : Nat) (C : Addr) (m : Str) (sp : Sp) : Prop where
  ex : ∃ (p g : Addr) (mc : Value) (fd : FuncData) (ps : List Str), KX.SMet K C mc m p g ∧ FnOk P w K mg base CX0 k g fd ps sp ∧ Binds K fd ps []
structure Lno (P : Program) (w : World) (K : PySem.W.Frag) (mg : Str → Option Value) (base : Heap) (k : Nat) (C : Addr) (sp : Sp) : Prop where
  ex : ∃ (f : Addr) (fd : FuncData) (ps : List Str), KX.LenC K C f ∧ FnOk P w K mg base CX0 k f fd ps sp ∧ Binds K fd ps []
structure Ixo (P : Program) (w : World) (K : PySem.W.Frag) (mg : Str → Option Value) (base : Heap) (k : Nat) (C : Addr) (sp : Sp) : Prop where
  ex : ∃ (f : Addr) (fd : FuncData) (ps : List Str), KX.IxC K C f ∧ FnOk P w K mg base CX0 k f fd ps sp ∧ Binds K fd ps []
theorem pprop {f : Str} (c : Prp X.prog X.w X.K X.mg X.base k C f sp) (hr : Room j X.A) (he : PE X o ta) (hk : k + 1 ≤ j := by decide) (hab : attributeBase o f X.env (eval o X.env) = eval o X.env := by rfl) : PE X (.Attribute o f pos) (tProp C sp [] E0 ta) := by
  obtain ⟨q, g, fd, ps, hc, hp, F, b⟩ := c.ex
  exact pe_prop he hc hp F (hr.mono hk) b .nil pass0 hab
theorem psmt {pl : Sem Bool} (c : Smt X.prog X.w X.K X.mg X.base k C m sp) (hr : Room j X.A) (he : PE X o ta) (hk : k ≤ j := by decide)
    (ht : eval (.Call (.Attribute o m apos) [] [] pos) X.env = (do
      let ov ← eval o X.env
      standAt apos.atName
      let (f, first) ← holding [ov] (getMethod ov m pl)
      callWith pos f first (backTo pos (starEach [] X.env)) (backToKw pos (keywordEach [] X.env))) := by rfl) : PE X (.Call (.Attribute o m apos) [] [] pos) (KX.tSMeth0 C sp ta) := by
  obtain ⟨q, g, mc, fd, ps, hs, F, b⟩ := c.ex
  exact KX.pe_smeth0 (pl := pl) he hs F (hr.mono hk) b ht
theorem plen (c : Lno X.prog X.w X.K X.mg X.base k C sp) (hr : Room j X.A) (hm : X.mg "len" = none) (ha : PA X [e] t) (hk : k + 1 ≤ j := by decide) (hg : Gl X "len" := by rfl) (he : starEach [e] X.env = (false, eval e X.env) :: starEach [] X.env := by rfl) (hpl : (backTo pos (starEach [] X.env)).any (·.1) = false := by rfl) :
    PE X (.Call (.Name "len" p) [e] [] pos) (tCB (KX.rLenO C sp) t) := by
  obtain ⟨f, fd, ps, hs, F, b⟩ := c.ex
  exact pe_callB (KX.call_lenO hs F (hr.mono hk) b) hg hm boot_len ha (by decide) (by decide) he hpl
theorem pixo {tb : TE} (c : Ixo X.prog X.w X.K X.mg X.base k C sp) (hr : Room j X.A) (ha : PE X o ta) (hi : PE X e tb) (hk : k + 1 ≤ j := by decide)
    (hsl : ∀ x i, subscripted e true (.ref x) i = runValue (.builtin "lifetime.subscript" ⟨[.ref x, i], []⟩) := by intro _ _; with_unfolding_all rfl) : PE X (.Subscript o e pos) (tOp (KX.rIxO C sp) ta tb) := by
  obtain ⟨f, fd, ps, hs, F, b⟩ := c.ex
  exact KX.pe_ixO hs F (hr.mono hk) b ha hi hsl
/-- a module's number -/
theorem pgi {n : Int} (h : ∃ t, X.mg x = some (.int n t)) (hg : Gl X x := by rfl) (hd : (x == ("__debug__" : Str)) = false := by decide) : PE X (.Name x pos) (tC (.int n)) := by
  obtain ⟨t, h⟩ := h
  exact pe_glob hg h ⟨t, rfl⟩ hd
/-- a built-in class -/
theorem pty {n : String} (hm : X.mg x = none) (hv : bootBuiltins x = some (.type n)) (hg : Gl X x := by rfl) (hn : x ≠ "__name__" := by decide) (hd : (x == ("__debug__" : Str)) = false := by decide) : PE X (.Name x pos) (tC (.ty n)) := pe_bltn hg hm hv rfl hn hd
/-- a module's object -/
theorem pgo {a : Addr} (h : X.mg x = some (.ref a)) (hg : Gl X x := by rfl) (hd : (x == ("__debug__" : Str)) = false := by decide) : PE X (.Name x pos) (tC (.ref a)) := pe_glob hg h rfl hd
end
section
variable {P : Program} {w : World} {K : PySem.W.Frag} {mg : Str → Option Value} {base : Heap} {x qual : Str} {st : Stmt} {kws : List (Str × V)} {f : Addr} {fd : FuncData}
theorem fn_ok {N ps : List Str} {k : Nat} {sp : Sp} (F : FunD K x qual (defArgs st) (defBody st) (defScope st) [] kws f fd) (S : FnScope N ps (defScope st)) (len : ∀ vs H Q E, sp vs H Q E → vs.length = ps.length)
    (hbody : ∀ (cdv : Value) (A : Around) (outer : List Env) (s : Shared) (H : Hp) (vs : List V) (Q : VK) (E : XK), Room k (A.deeper (envOfC qual (defScope st) s.heap.objs.size f cdv)) → sp vs H Q E →
      ∃ t, PSs (cxOf CX0 P w K mg base N qual (defScope st) f cdv A outer s H E).nox (defBody st) t ∧ t { nx := fun _ H' => Q .non H', rt := Q } (start N vs) H) : FnOk P w K mg base CX0 (k + 1) f fd ps sp := by
  refine F.ok S len fun cdv A outer s H vs Q E hr h => ?_
  obtain ⟨t, ht, q⟩ := hbody cdv A outer s H vs Q E hr h
  exact ⟨t, ht.nox, q⟩
theorem cal_of {N ps : List Str} {k : Nat} {sp : Sp} (F : FDat K x x st [] f) (hm : mg x = some (.ref f)) (S : FnScope N ps (defScope st))
    (hb : ∀ (kV doc pm : Value) (an : Option Addr) (cdv ct : Value) (us : List Value), us.length = ps.length → bindArgs (PySem.W.fnOf x x (defArgs st) (defBody st) (defScope st) .none kV doc pm an cdv ct) ⟨us, []⟩ = pure (ps.zip us)) (len : ∀ vs H Q E, sp vs H Q E → vs.length = ps.length)
    (hbody : ∀ (cdv : Value) (A : Around) (outer : List Env) (s : Shared) (H : Hp) (vs : List V) (Q : VK) (E : XK), Room k (A.deeper (envOfC x (defScope st) s.heap.objs.size f cdv)) → sp vs H Q E →
      ∃ t, PSs (cxOf CX0 P w K mg base N x (defScope st) f cdv A outer s H E).nox (defBody st) t ∧ t { nx := fun _ H' => Q .non H', rt := Q } (start N vs) H) : Cal P w K mg base (k + 1) x sp := by
  obtain ⟨fd, F⟩ := F
  exact ⟨f, fd, ps, fn_ok F S len hbody, hm, F.kp, F.bindsN hb⟩
theorem at_ok {N ps : List Str} {k : Nat} {sp : Sp} (F : FDat K x qual st [] f) (S : FnScope N ps (defScope st))
    (hb : ∀ (kV doc pm : Value) (an : Option Addr) (cdv ct : Value) (us : List Value), us.length = ps.length → bindArgs (PySem.W.fnOf x qual (defArgs st) (defBody st) (defScope st) .none kV doc pm an cdv ct) ⟨us, []⟩ = pure (ps.zip us)) (len : ∀ vs H Q E, sp vs H Q E → vs.length = ps.length)
    (hbody : ∀ (cdv : Value) (A : Around) (outer : List Env) (s : Shared) (H : Hp) (vs : List V) (Q : VK) (E : XK), Room k (A.deeper (envOfC qual (defScope st) s.heap.objs.size f cdv)) → sp vs H Q E →
      ∃ t, PSs (cxOf CX0 P w K mg base N qual (defScope st) f cdv A outer s H E).nox (defBody st) t ∧ t { nx := fun _ H' => Q .non H', rt := Q } (start N vs) H) : At P w K mg base (k + 1) f sp := by
  obtain ⟨fd, F⟩ := F
  exact ⟨fd, ps, fn_ok F S len hbody, F.bindsN hb⟩
theorem At.met {C : Addr} {m : Str} {k : Nat} {sp : Sp} (c : At P w K mg base k f sp) (cl : Cls K C) (me : Meth K C m f) : Met P w K mg base k C m sp := by
  obtain ⟨fd, ps, F, b⟩ := c.ex
  exact ⟨f, fd, ps, cl, me, F, b⟩
theorem At.mak {C : Addr} {k : Nat} {sp : Sp} (c : At P w K mg base k f sp) (M : Mk K C f) (hm : mg x = some (.ref C)) : Mak P w K mg base k x C sp := by
  obtain ⟨fd, ps, F, b⟩ := c.ex
  exact ⟨f, fd, ps, M, F, hm, b⟩
end

/-! ### rules whose reading names the written part, that part said (within a comprehension's block it is the def's) -/
section
variable {X : Cx} (K : PySem.W.Frag) {e : Expr} {es : List Expr} {te : TE} {t : TA} {p pos : Pos} {f : Str} {tg : Expr} {tl : TE}
theorem ixL (hK : X.K = K := by rfl) : IxR X (rIxL K) := hK ▸ ix_list
theorem ixT (hK : X.K = K := by rfl) : IxR X (rIxT K) := hK ▸ ix_tup
theorem pstar (he : PE X e te) (hr : PA X es t) (hK : X.K = K := by rfl) (hs : starEach (.Starred e p :: es) X.env = (true, eval e X.env) :: starEach es X.env := by rfl) : PA X (.Starred e p :: es) (StX.tStar K te t) := hK ▸ StX.pa_star he hr hs
theorem pfld (he : PE X e te) (hb : attributeBase e f X.env (eval e X.env) = eval e X.env := by rfl) (hK : X.K = K := by rfl) : PE X (.Attribute e f pos) (tFld K te f) := hK ▸ pe_fld he hb
theorem clen (hK : X.K = K := by rfl) : CallR X (.builtin "len") (rLenS K) := hK ▸ call_len_seq
theorem cmin (hc : X.calm = true := by rfl) (hK : X.K = K := by rfl) : CallR X (.builtin "min") (rMin K) := hK ▸ cr_min hc
theorem cany (hc : X.calm = true := by rfl) (hK : X.K = K := by rfl) : CallR X (.builtin "any") (rAny K) := hK ▸ cr_any hc
theorem piL (hl : PE X e tl) (hK : X.K = K := by rfl) : PI X tg e (iList K tl) := hK ▸ pi_list hl
theorem piT (hl : PE X e tl) (hK : X.K = K := by rfl) : PI X tg e (iTup K tl) := hK ▸ pi_tup hl
theorem slT (hK : X.K = K := by rfl) : SlR X (rSlA K) := hK ▸ sl_tupA
theorem slL (hK : X.K = K := by rfl) : SlR X (rSlL K) := hK ▸ sl_list
theorem oeqD (hu : X.A.units + 64 < cLine) (hK : X.K = K := by rfl) : OpR X (compareOp .Eq) (rEqD K) := hK ▸ op_eqD hu
theorem oinS (hK : X.K = K := by rfl) : OpR X (compareOp .In) (rIn K false) := hK ▸ op_in_seq
theorem onotinS (hK : X.K = K := by rfl) : OpR X (compareOp .NotIn) (rIn K true) := hK ▸ op_notIn_seq
theorem oinD (hu : X.A.units + 65 < cLine) (hK : X.K = K := by rfl) : OpR X (compareOp .In) (rInD K) := hK ▸ op_inD hu
theorem cisi (hK : X.K = K := by rfl) : CallR X (.builtin "isinstance") (rIsi K) := hK ▸ call_isi
theorem cisiT (hK : X.K = K := by rfl) : CallR X (.builtin "isinstance") (rIsiT K) := hK ▸ call_isiT
end
section
variable {P : Program} {w : World} {K : PySem.W.Frag} {mg : Str → Option Value} {base : Heap} {k : Nat} {C p g f : Addr} {x m : Str} {mc : Value} {sp : Sp}
theorem At.prp (c : At P w K mg base k g sp) (cl : Cls K C) (h : PropOf K C x p g) : Prp P w K mg base k C x sp := by
  obtain ⟨fd, ps, F, b⟩ := c.ex
  exact ⟨p, g, fd, ps, cl, h, F, b⟩
theorem At.smt (c : At P w K mg base k g sp) (h : KX.SMet K C mc m p g) : Smt P w K mg base k C m sp := by
  obtain ⟨fd, ps, F, b⟩ := c.ex
  exact ⟨p, g, mc, fd, ps, h, F, b⟩
theorem At.lno (c : At P w K mg base k f sp) (h : Meth K C "__len__" f) : Lno P w K mg base k C sp := by
  obtain ⟨fd, ps, F, b⟩ := c.ex
  exact ⟨f, fd, ps, ⟨h.at_, h.fn⟩, F, b⟩
theorem At.ixo (c : At P w K mg base k f sp) (h : Meth K C "__getitem__" f) (hf : PySem.W.fnIn K f = true) : Ixo P w K mg base k C sp := by
  obtain ⟨fd, ps, F, b⟩ := c.ex
  exact ⟨f, fd, ps, ⟨h.at_, hf, h.fn⟩, F, b⟩
end

/-! ### promises: by a value; by what holds of the value and the heap (all that stood stands) -/
def SpVal (R : List V → Hp → V → Prop) : Sp := fun vs H Q _ => ∃ z, R vs H z ∧ ∀ H', Ex H H' → Q z H'
def SpPost (R : List V → Hp → (V → Hp → Prop) → Prop) : Sp := fun vs H Q _ => ∃ P, R vs H P ∧ ∀ v H', Ex H H' → P v H' → Q v H'
abbrev MonoV (R : List V → Hp → V → Prop) : Prop := ∀ vs H H1 z, Ex H H1 → R vs H z → R vs H1 z
abbrev MonoP (R : List V → Hp → (V → Hp → Prop) → Prop) : Prop := ∀ vs H H1 P, Ex H H1 → R vs H P → R vs H1 P
theorem sv_of {R : List V → Hp → V → Prop} {vs : List V} {H : Hp} {z : V} (h : ∀ H1, Ex H H1 → R vs H1 z) : SpV (SpVal R) vs H z := fun H1 e Q q E => ⟨z, h H1 e, q⟩
def EvP (te : TE) (σ : L2.St) (H : Hp) (P : V → Hp → Prop) : Prop := ∀ H1, Ex H H1 → ∀ Q : VK, (∀ v H2, Ex H1 H2 → P v H2 → Q v H2) → te σ H1 Q
def SpP (sp : Sp) (vs : List V) (H : Hp) (P : V → Hp → Prop) : Prop := ∀ H1, Ex H H1 → ∀ Q : VK, (∀ v H2, Ex H1 H2 → P v H2 → Q v H2) → ∀ E : XK, sp vs H1 Q E
theorem sp_of {R : List V → Hp → (V → Hp → Prop) → Prop} {vs : List V} {H : Hp} {P : V → Hp → Prop} (h : ∀ H1, Ex H H1 → R vs H1 P) : SpP (SpPost R) vs H P := fun H1 e Q q E => ⟨P, h H1 e, q⟩
section
variable {K : PySem.W.Frag} {σ : L2.St} {H H' : Hp} {ta tb te tx : TE} {t u : TT} {x y z v : V} {r : R2} {P : V → Hp → Prop} {D : Ends} {tu tw tz : TS} {g : TG} {C : Addr} {m : Str} {sp : Sp} {a dx : Addr} {fs : List (Str × V)} {vs : List V} {tas : TA}
theorem EvP.mono (h : EvP te σ H P) (e : Ex H H') : EvP te σ H' P := fun H1 e1 => h H1 (e.trans e1)
theorem Ev.p (h : Ev te σ H v) : EvP te σ H (fun v' _ => v' = v) := fun H1 e Q q => h H1 e Q fun H2 e2 => q v H2 e2 rfl
theorem evp_call {E : XK} {dvs : List V} (h : EvA tas σ H vs) (hs : SpP sp (vs ++ dvs) H P) : EvP (tCall sp dvs E tas) σ H P := fun H1 e Q q => h H1 e _ fun H2 e2 => hs H2 (e.trans e2) Q (fun v H3 e3 p => q v H3 (e2.trans e3) p) E
theorem ev_meth {E : XK} {dvs : List V} (ha : Ev ta σ H (.ref a)) (ho : H a = some (.ins C dx fs)) (hn : fs.lookup m = none) (h : EvA tas σ H vs) (hs : SpV sp (.ref a :: (vs ++ dvs)) H z) : Ev (tMeth C m sp dvs E ta tas) σ H z := fun H1 e Q q =>
  ha H1 e _ fun H2 e2 => ⟨a, dx, fs, rfl, (e.trans e2) _ _ ho, hn, h H2 (e.trans e2) _ fun H3 e3 => hs H3 ((e.trans e2).trans e3) Q (fun H4 e4 => q H4 ((e2.trans e3).trans e4)) E⟩
theorem evp_meth {E : XK} {dvs : List V} (ha : Ev ta σ H (.ref a)) (ho : H a = some (.ins C dx fs)) (hn : fs.lookup m = none) (h : EvA tas σ H vs) (hs : SpP sp (.ref a :: (vs ++ dvs)) H P) : EvP (tMeth C m sp dvs E ta tas) σ H P := fun H1 e Q q =>
  ha H1 e _ fun H2 e2 => ⟨a, dx, fs, rfl, (e.trans e2) _ _ ho, hn, h H2 (e.trans e2) _ fun H3 e3 => hs H3 ((e.trans e2).trans e3) Q (fun v H4 e4 p => q v H4 ((e2.trans e3).trans e4) p) E⟩
theorem ev_fld {f : Str} (ha : Ev ta σ H (.ref a)) (ho : H a = some (.ins C dx fs)) (hc : Cls K C) (hn : NoAttr K C f) (hl : fs.lookup f = some v) : Ev (tFld K ta f) σ H v := fun H1 e Q q =>
  ha H1 e _ fun H2 e2 => ⟨a, C, dx, fs, v, rfl, (e.trans e2) _ _ ho, hc, hn, hl, q H2 e2⟩
theorem ev_ixO (ha : Ev ta σ H (.ref a)) (hb : Ev tb σ H y) (ho : H a = some (.ins C dx fs)) (hs : SpV sp [.ref a, y] H z) : Ev (tOp (KX.rIxO C sp) ta tb) σ H z := ev_op ha hb fun H1 e Q q => ⟨a, dx, fs, rfl, e _ _ ho, hs H1 e Q q E0⟩
theorem ev_lenO {n : Int} (ha : Ev ta σ H (.ref a)) (ho : H a = some (.ins C dx fs)) (hs : SpV sp [.ref a] H (.int n)) (h0 : 0 ≤ n) (h1 : n < 2 ^ 63) : Ev (tCB (KX.rLenO C sp) (tCons ta tNil)) σ H (.int n) := fun H1 e Q q =>
  ha H1 e _ fun H2 e2 => ⟨a, dx, fs, rfl, (e.trans e2) _ _ ho, hs H2 (e.trans e2) _ (fun H3 e3 => ⟨n, rfl, ⟨h0, h1⟩, q H3 (e2.trans e3)⟩) E0⟩
theorem ev_dget {d : Addr} {kvs : List (Key × V)} {k : Key} (ha : Ev ta σ H (.ref d)) (hb : Ev tb σ H (kV k)) (hd : H d = some (.dK kvs)) (hv : valV kvs k = some v) : Ev (tDGet ta tb) σ H v := fun H1 e Q q =>
  ha H1 e _ fun H2 e2 => hb H2 (e.trans e2) _ fun H3 e3 => ⟨d, v, rfl, by rw [← hv]; exact DGet.k (((e.trans e2).trans e3) _ _ hd), q H3 (e2.trans e3)⟩
theorem ev_din {d : Addr} {kvs : List (Key × V)} {k : Key} (hb : Ev tb σ H (kV k)) (ha : Ev ta σ H (.ref d)) (hd : H d = some (.dK kvs)) : Ev (tDIn tb ta) σ H (.bl (valV kvs k).isSome) := fun H1 e Q q =>
  hb H1 e _ fun H2 e2 => ha H2 (e.trans e2) _ fun H3 e3 => ⟨d, _, rfl, DGet.k (((e.trans e2).trans e3) _ _ hd), q H3 (e2.trans e3)⟩
theorem ev_dnotin {d : Addr} {kvs : List (Key × V)} {k : Key} (hb : Ev tb σ H (kV k)) (ha : Ev ta σ H (.ref d)) (hd : H d = some (.dK kvs)) : Ev (tDNotIn tb ta) σ H (.bl (!(valV kvs k).isSome)) := fun H1 e Q q =>
  hb H1 e _ fun H2 e2 => ha H2 (e.trans e2) _ fun H3 e3 => ⟨d, _, rfl, DGet.k (((e.trans e2).trans e3) _ _ hd), q H3 (e2.trans e3)⟩
theorem rv_isN : RV (fun x y H Q => y = V.non ∧ Q (.bl (decide (x = .non))) H) x .non H (.bl (decide (x = .non))) := fun H1 _ _ q => ⟨rfl, q H1 (Ex.refl H1)⟩
theorem rv_notN : RV (fun x y H Q => y = V.non ∧ Q (.bl (!decide (x = .non))) H) x .non H (.bl (!decide (x = .non))) := fun H1 _ _ q => ⟨rfl, q H1 (Ex.refl H1)⟩
theorem ev_chain {r' : R2} {b c : Bool} {w : V} {tc : TE} (ha : Ev ta σ H x) (hb : Ev tb σ H y) (hr : RV r x y H (.bl b)) (hc : Ev tc σ H w) (hr' : RV r' y w H (.bl c)) : Ev (tChain r r' ta tb tc) σ H (.bl (b && c)) := fun H1 e Q q =>
  ha H1 e _ fun H2 e2 => hb H2 (e.trans e2) _ fun H3 e3 => hr H3 ((e.trans e2).trans e3) _ fun H4 e4 => ⟨b, rfl, by
    cases b with
    | true =>
      exact iteT (hc H4 (((e.trans e2).trans e3).trans e4) _ fun H5 e5 => hr' H5 ((((e.trans e2).trans e3).trans e4).trans e5) Q fun H6 e6 => q H6 ((((e2.trans e3).trans e4).trans e5).trans e6))
    | false => exact iteF (q H4 ((e2.trans e3).trans e4))⟩
/-- isinstance of one class -/
theorem ev_isi {c : V} {tv uv : Value} {b : Bool} (h : EvA tas σ H [x, c]) (k : ClsV c uv) (ty : ∀ H1, Ex H H1 → TyX K H1 x tv) (e : PySem.W.kitOne K tv uv = some b) : Ev (tCB (rIsi K) tas) σ H (.bl b) := ev_cb h fun H1 e1 Q q => ⟨x, c, tv, uv, b, rfl, k, ty H1 e1, e, q H1 (Ex.refl H1)⟩
theorem ev_isT {tp : TE} {cs : List V} {tv : Value} {us : List Value} {b : Bool} (ha : Ev ta σ H x) (hp : EvU tp σ H cs) (k : Paired ClsV cs us) (ty : ∀ H1, Ex H H1 → TyX K H1 x tv) (e : PySem.W.kitAny K tv us = some b) : Ev (tCB (rIsiT K) (tCons ta (tCons tp tNil))) σ H (.bl b) := fun H1 e1 Q q =>
  ha H1 e1 _ fun H2 e2 => hp H2 (e1.trans e2) _ fun p H3 _ e3 h3 => ⟨x, p, cs, tv, us, b, rfl, h3, k, ty H3 ((e1.trans e2).trans e3), e, q H3 (e2.trans e3)⟩
theorem ev_isC (h : EvA tas σ H [.ref a, .ref C]) (ho : H a = some (.ins C dx fs)) : Ev (tCB (fun xs H Q => ∃ a dx fs, xs = [V.ref a, .ref C] ∧ H a = some (.ins C dx fs) ∧ Q (.bl true) H) tas) σ H (.bl true) := ev_cb h fun H1 e1 Q q => ⟨a, dx, fs, rfl, e1 _ _ ho, q H1 (Ex.refl H1)⟩
theorem ev_len2 {p : Addr} {xs : List V} (ha : Ev ta σ H (.ref p)) (h : SqL K H p xs ∨ SqT K H p xs) : Ev (tCB (rLenS K) (tCons ta tNil)) σ H (.int (xs.length : Int)) := fun H1 e Q q =>
  ha H1 e _ fun H2 e2 => ⟨p, xs, rfl, h.elim (fun z => Or.inl (ex_l (e.trans e2) z)) (fun z => Or.inr (ex_t (e.trans e2) z)), q H2 e2⟩
theorem ev_int1 {i : Int} (ha : Ev ta σ H (.int i)) : Ev (tCB (fun xs H Q => (∃ i, xs = [V.int i] ∧ Q (.int i) H) ∨ ∃ k, xs = [V.bl k] ∧ Q (.int (if k then 1 else 0)) H) (tCons ta tNil)) σ H (.int i) := fun H1 e Q q => ha H1 e _ fun H2 e2 => .inl ⟨i, rfl, q H2 e2⟩
theorem ev_intB {k : Bool} (ha : Ev ta σ H (.bl k)) : Ev (tCB (fun xs H Q => (∃ i, xs = [V.int i] ∧ Q (.int i) H) ∨ ∃ k, xs = [V.bl k] ∧ Q (.int (if k then 1 else 0)) H) (tCons ta tNil)) σ H (.int (if k then 1 else 0)) := fun H1 e Q q => ha H1 e _ fun H2 e2 => .inr ⟨k, rfl, q H2 e2⟩
theorem s_asgP {i : Nat} (h : EvP te σ H P) (k : ∀ v H1, Ex H H1 → P v H1 → D.nx (σ.set i (some v)) H1) : tAsg te (gName i) D σ H := h H (Ex.refl H) _ fun v H1 e p => k v H1 e p
theorem q_asgP {i : Nat} (h : EvP te σ H P) (k : ∀ v H1, Ex H H1 → P v H1 → tz D (σ.set i (some v)) H1) : tSeq (tAsg te (gName i)) tz D σ H := s_asgP (D := { D with nx := tz D }) h k
theorem s_retP (h : EvP te σ H P) (k : ∀ v H1, Ex H H1 → P v H1 → D.rt v H1) : tRet te D σ H := h H (Ex.refl H) _ k
theorem s_yes (h : EvT t σ H true) (k : ∀ H1, Ex H H1 → tu D σ H1) : tIfS t tu tw D σ H := s_if h (fun _ => k) fun z => nomatch z
theorem s_no (h : EvT t σ H false) (k : ∀ H1, Ex H H1 → tw D σ H1) : tIfS t tu tw D σ H := s_if h (fun z => nomatch z) fun _ => k
theorem q_yes (h : EvT t σ H true) (k : ∀ H1, Ex H H1 → tu { D with nx := tz D } σ H1) : tSeq (tIfS t tu tw) tz D σ H := s_yes (D := { D with nx := tz D }) h k
theorem q_no (h : EvT t σ H false) (k : ∀ H1, Ex H H1 → tw { D with nx := tz D } σ H1) : tSeq (tIfS t tu tw) tz D σ H := s_no (D := { D with nx := tz D }) h k
/-- an if that raises, not taken -/
theorem q_not (h : EvT t σ H false) (k : ∀ H1, Ex H H1 → tz D σ H1) : tSeq (tIfS t tu tNext) tz D σ H := s_no (D := { D with nx := tz D }) h k
theorem s_not (h : EvT t σ H false) (k : ∀ H1, Ex H H1 → D.nx σ H1) : tIfS t tu tNext D σ H := s_no h k
theorem ty_int (i : Int) : ∀ H1, Ex H H1 → TyX K H1 (.int i) (.type "int") := fun _ _ => .base (.int i)
theorem ty_bl (b : Bool) : ∀ H1, Ex H H1 → TyX K H1 (.bl b) (.type "bool") := fun _ _ => .base (.bl b)
theorem ty_str (z : Str) : ∀ H1, Ex H H1 → TyX K H1 (.str z) (.type "str") := fun _ _ => .base (.str z)
theorem ty_tup {xs : List V} (h : H a = some (.tup xs)) : ∀ H1, Ex H H1 → TyX K H1 (.ref a) (.type "tuple") := fun _ e => .base (.tup (e _ _ h))
theorem ty_lst {xs : List V} (h : H a = some (.lst xs)) : ∀ H1, Ex H H1 → TyX K H1 (.ref a) (.type "list") := fun _ e => .base (.lst (e _ _ h))
end
end K57
-- part L1
/-! Deeds, more of what evaluates to what. -/
namespace K57
open PySem PySem.Spec PyProof.Rows L2 He Evl

/-! ### deeds -/
inductive Deed where
  | make | read | write | rename | touch | unpack (b : Int) | setback (b : Int)
  deriving DecidableEq
def Deed.vs : Deed → List V
  | .make => [.str "make"]
  | .read => [.str "read"]
  | .write => [.str "write"]
  | .rename => [.str "rename"]
  | .touch => [.str "touch"]
  | .unpack b => [.str "unpack", .int b]
  | .setback b => [.str "setback", .int b]
def Deed.ok : Deed → Prop
  | .unpack b => 1 ≤ b ∧ b ≤ 1000000000
  | .setback b => 1 ≤ b ∧ b ≤ 1000000000
  | _ => True
def Deed.makes : Deed → Bool
  | .make => true
  | .unpack _ => true
  | _ => false
def DeedAt (H : Hp) (a : Addr) (d : Deed) : Prop := H a = some (.tup d.vs) ∧ d.ok
theorem DeedAt.mono {H H1 : Hp} {a : Addr} {d : Deed} (e : Ex H H1) (h : DeedAt H a d) : DeedAt H1 a d := ⟨e _ _ h.1, h.2⟩

/-! ### how to evaluate -/
theorem kit_ii {K : PySem.W.Frag} : PySem.W.kitOne K (.type "int") (.type "int") = some true := kit_ty (by decide +kernel)
theorem kit_ib {K : PySem.W.Frag} : PySem.W.kitOne K (.type "int") (.type "bool") = some false := kit_ty (by decide +kernel)
theorem kit_bb {K : PySem.W.Frag} : PySem.W.kitOne K (.type "bool") (.type "bool") = some true := kit_ty (by decide +kernel)
theorem kit_tt {K : PySem.W.Frag} : PySem.W.kitOne K (.type "tuple") (.type "tuple") = some true := kit_ty (by decide +kernel)
theorem kit_ss {K : PySem.W.Frag} : PySem.W.kitOne K (.type "str") (.type "str") = some true := kit_ty (by decide +kernel)
theorem kit_ll {K : PySem.W.Frag} : PySem.W.kitOne K (.type "list") (.type "list") = some true := kit_ty (by decide +kernel)
/-- flat values as data -/
def dat : V → PyData
  | .bl b => .bool b
  | .int i => .int i
  | .str z => .str z
  | _ => .none
theorem dp_flat {K : PySem.W.Frag} {H : Hp} : ∀ {xs : List V}, xs.all flatV = true → DpAll K H xs (xs.map dat)
  | [], _ => .nil
  | x :: xs, h => by
    have h2 : (flatV x && xs.all flatV) = true := h
    rw [Bool.and_eq_true] at h2
    refine .cons ?_ (dp_flat h2.2)
    cases x with
    | non => exact .non
    | bl b => exact .bl b
    | int i => exact .int i
    | str z => exact .str z
    | _ => exact nomatch h2.1
section
variable {K : PySem.W.Frag} {σ : L2.St} {H H' : Hp} {ta tb te : TE} {xs ys : List V} {a b : Addr} {c : Bool}
theorem dp_tup (h : SqT K H a xs) (f : xs.all flatV = true) : Dp K H (.ref a) (.tuple (xs.map dat)) := .tup h (dp_flat f)
/-- a tuple compared with one just made -/
theorem ev_eqU (ha : Ev ta σ H (.ref a)) (h : SqT K H a xs) (fx : xs.all flatV = true) (hb : EvU tb σ H ys) (fy : ys.all flatV = true) (sx : SeqAt.shaped (.tuple (xs.map dat)) = true) (sy : SeqAt.shaped (.tuple (ys.map dat)) = true)
    (hc : PyData.eqv (.tuple (xs.map dat)) (.tuple (ys.map dat)) = c) : Ev (tOp (rEqD K) ta tb) σ H (.bl c) :=
  ev_opU ha hb fun p H1 hp e1 H2 e2 Q q => ⟨_, _, dp_tup (ex_t (e1.trans e2) h) fx, dp_tup (SqT.of (e2 _ _ hp)) fy, sx, sy, by rw [hc]; exact q H2 (Ex.refl H2)⟩
theorem ev_eqT (ha : Ev ta σ H (.ref a)) (h : SqT K H a xs) (fx : xs.all flatV = true) (hb : Ev tb σ H (.ref b)) (h' : SqT K H b ys) (fy : ys.all flatV = true) (sx : SeqAt.shaped (.tuple (xs.map dat)) = true) (sy : SeqAt.shaped (.tuple (ys.map dat)) = true)
    (hc : PyData.eqv (.tuple (xs.map dat)) (.tuple (ys.map dat)) = c) : Ev (tOp (rEqD K) ta tb) σ H (.bl c) :=
  ev_op ha hb fun H2 e2 Q q => ⟨_, _, dp_tup (ex_t e2 h) fx, dp_tup (ex_t e2 h') fy, sx, sy, by rw [hc]; exact q H2 (Ex.refl H2)⟩

/-! ### comprehensions -/
/-- over a tuple, by a test and a value -/
theorem el_lcT {xs : List V} {tl : TE} {t : TT} {j : Nat} {vs : List Nat} (f : Nat → Bool) (v : Nat → V) (h : Ev tl σ H (.ref a)) (hx : SqT K H a xs) (hz : xs.length ≤ 40000) (hw : ∀ x, wipe ((wipe σ vs).set j (some x)) vs = wipe σ vs)
    (ht : ∀ (i : Nat) (x : V) H1, Ex H H1 → xs[i]? = some x → EvT t ((wipe σ vs).set j (some x)) H1 (f i)) (he : ∀ (i : Nat) (x : V) H1, Ex H H1 → xs[i]? = some x → f i = true → Ev te ((wipe σ vs).set j (some x)) H1 (v i)) :
    EvL (tLc (iTup K tl) (gName j) t te vs) σ H (given xs.length f v) := fun H0 e Q q => h H0 e _ fun H1 e1 => ⟨a, rfl, ⟨xs, ex_t (e.trans e1) hx⟩, fun Dl hD =>
  lc_tup (xs := xs) (Cw H1 f v Dl) ⟨hD, Ex.new hD, upd_same⟩ (fun i H' _ p => ex_t ((e.trans e1).trans p.2.1) hx) (fun i x H' hi p => ⟨hw x, cw_turn p (by have := (List.getElem?_eq_some_iff.mp hi).1; omega) (ht i x H1 (e.trans e1) hi) (fun hf => he i x H1 (e.trans e1) hi hf)⟩)
    (fun H' p => q Dl H' (fresh_back e1 p.1) (e1.trans p.2.1) p.2.2)⟩
/-- the heap without one address -/
def Off (Dl : Addr) (H : Hp) : Hp := fun b => if b = Dl then none else H b
theorem off_ne {Dl b : Addr} {H : Hp} (h : b ≠ Dl) : Off Dl H b = H b := if_neg h
theorem off_ex {Dl : Addr} {H : Hp} : Ex (Off Dl H) H := fun b o h => by
  by_cases e : b = Dl
  · rw [show Off Dl H b = none from if_pos e] at h
    cases h
  · rw [off_ne e] at h
    exact h
theorem off_mono {Dl : Addr} {H H1 : Hp} (e : Ex H H1) : Ex (Off Dl H) (Off Dl H1) := fun b o h => by
  by_cases q : b = Dl
  · rw [show Off Dl H b = none from if_pos q] at h
    cases h
  · rw [off_ne q] at h ⊢
    exact e b o h
theorem off_upd {Dl : Addr} {H : Hp} {u : HO} : Off Dl (upd H Dl u) = Off Dl H := by
  funext b
  by_cases q : b = Dl
  · rw [show Off Dl (upd H Dl u) b = none from if_pos q, show Off Dl H b = none from if_pos q]
  · rw [off_ne q, off_ne q, upd_ne q]
/-- what was known ahead of a new address is known without it -/
theorem ex_off {Dl : Addr} {H H1 : Hp} (h : H Dl = none) (e : Ex H H1) : Ex H (Off Dl H1) := fun b o hb => by
  rw [off_ne (ne_of_none hb h)]
  exact e b o hb
/-- what a comprehension without tests has made so far: items of which R holds, wherever the list itself stands -/
structure Made (R : Nat → V → Hp → Prop) (H0 : Hp) (Dl : Addr) (i : Nat) (H' : Hp) : Prop where
  new : H0 Dl = none
  ex : Ex H0 H'
  lst : ∃ zs, H' Dl = some (.lst zs) ∧ zs.length = i ∧ ∀ k z, zs[k]? = some z → R k z (Off Dl H')
abbrev Keeps (R : Nat → V → Hp → Prop) : Prop := ∀ i v H H1, Ex H H1 → R i v H → R i v H1
theorem made_turn {R : Nat → V → Hp → Prop} (hR : Keeps R) {H0 H' : Hp} {Dl : Addr} {i : Nat} {σ2 : L2.St} (p : Made R H0 Dl i H') (hi : i < 50000)
    (he : ∀ zs, H' Dl = some (.lst zs) → EvP te σ2 H' (fun v H2 => R i v (Off Dl H2))) : tYes σ2 H' fun b H3 => if b = true then te σ2 H3 fun y H4 => ∃ acc, H4 Dl = some (.lst acc) ∧ acc.length < sizeLine ∧ Made R H0 Dl (i + 1) (upd H4 Dl (.lst (acc ++ [y]))) else Made R H0 Dl (i + 1) H3 := by
  obtain ⟨p1, p2, zs, h1, h2, h3⟩ := p
  show te σ2 H' fun y H4 => ∃ acc, H4 Dl = some (.lst acc) ∧ acc.length < sizeLine ∧ Made R H0 Dl (i + 1) (upd H4 Dl (.lst (acc ++ [y])))
  refine he zs h1 H' (Ex.refl H') _ fun y H4 e4 hy => ⟨zs, e4 _ _ h1, sz_lt (by omega), p1, Ex.mut (p2.trans e4) p1, zs ++ [y], upd_same, by rw [List.length_append, h2] <;> rfl, fun k z hk => ?_⟩
  rw [off_upd]
  by_cases hlt : k < zs.length
  · rw [List.getElem?_append_left hlt] at hk
    exact hR _ _ _ _ (off_mono e4) (h3 k z hk)
  · rw [List.getElem?_append_right (by omega)] at hk
    have e : k = zs.length := by
      cases q : k - zs.length with
      | zero => omega
      | succ n =>
        rw [q] at hk
        cases hk
    subst e
    rw [Nat.sub_self] at hk
    have ez : y = z := Option.some.inj hk
    subst ez
    rw [h2]
    exact hy
abbrev LstOf (R : Nat → V → Hp → Prop) (H0 : Hp) (n : Nat) : V → Hp → Prop := fun v H' => ∃ p zs, v = .ref p ∧ H0 p = none ∧ H' p = some (.lst zs) ∧ zs.length = n ∧ ∀ k z, zs[k]? = some z → R k z (Off p H')
theorem ep_lcL {xs : List V} {tl : TE} {j : Nat} {vs : List Nat} {R : Nat → V → Hp → Prop} (hR : Keeps R) (h : Ev tl σ H (.ref a)) (hx : SqL K H a xs) (hz : xs.length ≤ 40000)
    (hw : ∀ x, wipe ((wipe σ vs).set j (some x)) vs = wipe σ vs) (he : ∀ (i : Nat) (x : V) H1 Dl zs, Ex H H1 → H Dl = none → H1 Dl = some (.lst zs) → xs[i]? = some x → EvP te ((wipe σ vs).set j (some x)) H1 (fun v H2 => R i v (Off Dl H2))) : EvP (tLc (iList K tl) (gName j) tYes te vs) σ H (LstOf R H xs.length) := fun H0 e Q q =>
  h H0 e _ fun H1 e1 => ⟨a, rfl, ⟨xs, ex_l (e.trans e1) hx⟩, fun Dl hD => lc_list (xs := xs) (Made R H1 Dl) ⟨hD, Ex.new hD, [], upd_same, rfl, fun k z hk => by cases hk⟩ (fun i H' _ p => ex_l ((e.trans e1).trans p.ex) hx)
    (fun i x H' hi p => ⟨hw x, made_turn hR p (by have := (List.getElem?_eq_some_iff.mp hi).1; omega) fun zs hl => he i x H' Dl zs ((e.trans e1).trans p.ex) (fresh_back (e.trans e1) p.new) hl hi⟩) (fun H' p => by
      obtain ⟨p1, p2, zs, h1, h2, h3⟩ := p
      exact q _ H' (e1.trans p2) ⟨Dl, zs, rfl, fresh_back (e.trans e1) p1, h1, h2, h3⟩)⟩
theorem ep_lcT {xs : List V} {tl : TE} {j : Nat} {vs : List Nat} {R : Nat → V → Hp → Prop} (hR : Keeps R) (h : Ev tl σ H (.ref a)) (hx : SqT K H a xs) (hz : xs.length ≤ 40000)
    (hw : ∀ x, wipe ((wipe σ vs).set j (some x)) vs = wipe σ vs) (he : ∀ (i : Nat) (x : V) H1 Dl zs, Ex H H1 → H Dl = none → H1 Dl = some (.lst zs) → xs[i]? = some x → EvP te ((wipe σ vs).set j (some x)) H1 (fun v H2 => R i v (Off Dl H2))) : EvP (tLc (iTup K tl) (gName j) tYes te vs) σ H (LstOf R H xs.length) := fun H0 e Q q =>
  h H0 e _ fun H1 e1 => ⟨a, rfl, ⟨xs, ex_t (e.trans e1) hx⟩, fun Dl hD => lc_tup (xs := xs) (Made R H1 Dl) ⟨hD, Ex.new hD, [], upd_same, rfl, fun k z hk => by cases hk⟩ (fun i H' _ p => ex_t ((e.trans e1).trans p.ex) hx)
    (fun i x H' hi p => ⟨hw x, made_turn hR p (by have := (List.getElem?_eq_some_iff.mp hi).1; omega) fun zs hl => he i x H' Dl zs ((e.trans e1).trans p.ex) (fresh_back (e.trans e1) p.new) hl hi⟩) (fun H' p => by
      obtain ⟨p1, p2, zs, h1, h2, h3⟩ := p
      exact q _ H' (e1.trans p2) ⟨Dl, zs, rfl, fresh_back (e.trans e1) p1, h1, h2, h3⟩)⟩
theorem ep_lcR1 {tas : TA} {j : Nat} {vs : List Nat} {n : Int} {R : Nat → V → Hp → Prop} (hR : Keeps R) (h : EvA tas σ H [.int n]) (hn : 0 ≤ n ∧ n ≤ 40000)
    (hw : ∀ x, wipe ((wipe σ vs).set j (some x)) vs = wipe σ vs) (he : ∀ (i : Nat) H1 Dl zs, Ex H H1 → H Dl = none → H1 Dl = some (.lst zs) → (i : Int) < n → EvP te ((wipe σ vs).set j (some (.int (i : Int)))) H1 (fun v H2 => R i v (Off Dl H2))) : EvP (tLc (iRng1 tas) (gName j) tYes te vs) σ H (LstOf R H n.toNat) := fun H0 e Q q =>
  h H0 e _ fun H1 e1 => ⟨n, rfl, by omega, by omega, fun Dl hD => lc_range (lo := 0) (n := n.toNat) (Made R H1 Dl) ⟨hD, Ex.new hD, [], upd_same, rfl, fun k z hk => by cases hk⟩
    (fun i H' hi p => by
      have e0 : (0 : Int) + (i : Int) = (i : Int) := Int.zero_add _
      show wipe ((wipe σ vs).set j (some (.int ((0 : Int) + (i : Int))))) vs = wipe σ vs ∧ tYes ((wipe σ vs).set j (some (.int ((0 : Int) + (i : Int))))) H' fun b H3 => if b = true then te ((wipe σ vs).set j (some (.int ((0 : Int) + (i : Int))))) H3 fun y H4 => ∃ acc, H4 Dl = some (.lst acc) ∧ acc.length < sizeLine ∧ Made R H1 Dl (i + 1) (upd H4 Dl (.lst (acc ++ [y]))) else Made R H1 Dl (i + 1) H3
      rw [e0]
      exact ⟨hw _, made_turn hR p (by omega) fun zs hl => he i H' Dl zs ((e.trans e1).trans p.ex) (fresh_back (e.trans e1) p.new) hl (by omega)⟩) (fun H' p => by
      obtain ⟨p1, p2, zs, h1, h2, h3⟩ := p
      exact q _ H' (e1.trans p2) ⟨Dl, zs, rfl, fresh_back (e.trans e1) p1, h1, h2, h3⟩)⟩
end

/-! ### new objects -/
def EvN (te : TE) (σ : L2.St) (H : Hp) (o : HO) : Prop := ∀ H1, Ex H H1 → ∀ Q : VK, (∀ p H2, H1 p = none → Ex H1 H2 → H2 p = some o → Q (.ref p) H2) → te σ H1 Q
def SpN (sp : Sp) (vs : List V) (H : Hp) (o : HO) : Prop := ∀ H1, Ex H H1 → ∀ Q : VK, (∀ p H2, H1 p = none → Ex H1 H2 → H2 p = some o → Q (.ref p) H2) → ∀ E : XK, sp vs H1 Q E
def SpNew (R : List V → Hp → HO → Prop) : Sp := fun vs H Q _ => ∃ o, R vs H o ∧ ∀ p H', H p = none → Ex H H' → H' p = some o → Q (.ref p) H'
theorem sn_of {R : List V → Hp → HO → Prop} {vs : List V} {H : Hp} {o : HO} (h : ∀ H1, Ex H H1 → R vs H1 o) : SpN (SpNew R) vs H o := fun H1 e Q q E => ⟨o, h H1 e, q⟩
/-- a new list of which R holds item by item -/
def SpLst (R : List V → Hp → Nat → (Nat → V → Hp → Prop) → Prop) : Sp := fun vs H Q _ => ∃ n S, R vs H n S ∧ ∀ v H', Ex H H' → LstOf S H n v H' → Q v H'
theorem sl_of {R : List V → Hp → Nat → (Nat → V → Hp → Prop) → Prop} {vs : List V} {H : Hp} {n : Nat} {S : Nat → V → Hp → Prop} (h : ∀ H1, Ex H H1 → R vs H1 n S) : SpP (SpLst R) vs H (LstOf S H n) := fun H1 e Q q E =>
  ⟨n, S, h H1 e, fun v H' e' ⟨p, zs, ev, hn, r⟩ => q v H' e' ⟨p, zs, ev, fresh_back e hn, r⟩⟩
section
variable {K : PySem.W.Frag} {σ : L2.St} {H H' : Hp} {ta tb te : TE} {t : TT} {tas : TA} {vs : List V} {o : HO} {D : Ends} {tz : TS} {sp : Sp} {C : Addr} {m : Str} {a dx : Addr} {fs : List (Str × V)}
theorem EvN.mono (h : EvN te σ H o) (e : Ex H H') : EvN te σ H' o := fun H1 e1 => h H1 (e.trans e1)
theorem en_is {o' : HO} (h : EvN te σ H o) (e : o = o') : EvN te σ H o' := by
  rw [← e]
  exact h
theorem en_call {E : XK} {dvs : List V} (h : EvA tas σ H vs) (hs : SpN sp (vs ++ dvs) H o) : EvN (tCall sp dvs E tas) σ H o := fun H1 e Q q => h H1 e _ fun H2 e2 => hs H2 (e.trans e2) Q (fun p H3 hp e3 h3 => q p H3 (fresh_back e2 hp) (e2.trans e3) h3) E
theorem en_meth {E : XK} {dvs : List V} (ha : Ev ta σ H (.ref a)) (ho : H a = some (.ins C dx fs)) (hn : fs.lookup m = none) (h : EvA tas σ H vs) (hs : SpN sp (.ref a :: (vs ++ dvs)) H o) : EvN (tMeth C m sp dvs E ta tas) σ H o := fun H1 e Q q =>
  ha H1 e _ fun H2 e2 => ⟨a, dx, fs, rfl, (e.trans e2) _ _ ho, hn, h H2 (e.trans e2) _ fun H3 e3 => hs H3 ((e.trans e2).trans e3) Q (fun p H4 hp e4 h4 => q p H4 (fresh_back (e2.trans e3) hp) ((e2.trans e3).trans e4) h4) E⟩
theorem en_if {b : Bool} (h : EvT t σ H b) (h1 : b = true → EvN ta σ H o) (h2 : b = false → EvN tb σ H o) : EvN (tIf t ta tb) σ H o := fun H1 e Q q => h H1 e _ fun H2 e2 => by
  cases b with
  | true =>
    show ta σ H2 Q
    exact h1 rfl H2 (e.trans e2) Q fun p H3 hp e3 h3 => q p H3 (fresh_back e2 hp) (e2.trans e3) h3
  | false =>
    show tb σ H2 Q
    exact h2 rfl H2 (e.trans e2) Q fun p H3 hp e3 h3 => q p H3 (fresh_back e2 hp) (e2.trans e3) h3
theorem en_dnew : EvN tDNewK σ H (.dK []) := fun H1 e Q q => fun p hp => q p _ hp (Ex.new hp) upd_same
theorem en_dnewT : EvN tDNewT σ H (.dT []) := fun H1 e Q q => fun p hp => q p _ hp (Ex.new hp) upd_same
inductive EvPs (σ : L2.St) (H : Hp) : List (TE × TE) → List (Key × V) → Prop where
  | nil : EvPs σ H [] []
  | cons {tk tv : TE} {k : Key} {v : V} {r : List (TE × TE)} {l : List (Key × V)} : Ev tk σ H (kV k) → Ev tv σ H v → EvPs σ H r l → EvPs σ H ((tk, tv) :: r) ((k, v) :: l)
theorem EvPs.run : ∀ {trs : List (TE × TE)} {kvs : List (Key × V)}, EvPs σ H trs kvs → ∀ H1, Ex H H1 → ∀ Q : List (V × V) → Hp → Prop, (∀ H2, Ex H1 H2 → Q (kvs.map fun q => (kV q.1, q.2)) H2) → tPairs trs σ H1 Q
  | _, _, .nil, H1, _, Q, q => q H1 (Ex.refl H1)
  | _, _, .cons hk hv r, H1, e, Q, q => hk H1 e _ fun H2 e2 => hv H2 (e.trans e2) _ fun H3 e3 => EvPs.run r H3 ((e.trans e2).trans e3) _ fun H4 e4 => q H4 ((e2.trans e3).trans e4)
theorem en_disp {trs : List (TE × TE)} {kvs ls : List (Key × V)} (h : EvPs σ H trs kvs) (h15 : kvs.length ≤ 15) (hm : mergeK [] kvs = ls) : EvN (tDisp trs) σ H (.dK ls) := fun H1 e Q q => fun p hp => EvPs.run h _ (e.trans (Ex.new hp)) _ fun H2 e2 =>
  ⟨e2 _ _ upd_same, kvs, rfl, h15, by
    rw [hm]
    exact q p _ hp (Ex.mut ((Ex.new hp).trans e2) hp) upd_same⟩
theorem q_asgN {i : Nat} (h : EvN te σ H o) (k : ∀ p H1, H p = none → Ex H H1 → H1 p = some o → tz D (σ.set i (some (.ref p))) H1) : tSeq (tAsg te (gName i)) tz D σ H := h H (Ex.refl H) _ k
theorem s_retN (h : EvN te σ H o) (k : ∀ p H1, H p = none → Ex H H1 → H1 p = some o → D.rt (.ref p) H1) : tRet te D σ H := h H (Ex.refl H) _ k
/-- x[k] of a dict just made, k in it, .get -/
theorem ev_get2 {k : Key} {d v : V} {kvs : List (Key × V)} {tx : TE} (ha : EvN ta σ H (.dK kvs)) (hb : Ev tb σ H (kV k)) (hx : Ev tx σ H d) (hv : (valV kvs k).getD d = v) : Ev (tDGet2 ta tb tx) σ H v := fun H1 e Q q =>
  ha H1 e _ fun p H2 hp e2 h2 => ⟨p, rfl, .inl ⟨kvs, .inl h2⟩, hb H2 (e.trans e2) _ fun H3 e3 => hx H3 ((e.trans e2).trans e3) _ fun H4 e4 => ⟨_, DGet.k (e4 _ _ (e3 _ _ h2)), by
    rw [hv]
    exact q H4 ((e2.trans e3).trans e4)⟩⟩
end

/-! ### operations on what was made; instances made -/
section
variable {K : PySem.W.Frag} {σ : L2.St} {H H' : Hp} {ta tb te : TE} {tas : TA} {vs : List V} {x y z : V} {r : R2} {P : V → Hp → Prop} {D : Ends} {tz : TS}
theorem ev_opP (ha : Ev ta σ H x) (hb : EvP tb σ H P) (hr : ∀ v H1, P v H1 → Ex H H1 → RV r x v H1 z) : Ev (tOp r ta tb) σ H z := fun H1 e Q q =>
  ha H1 e _ fun H2 e2 => hb H2 (e.trans e2) _ fun v H3 e3 p => hr v H3 p ((e.trans e2).trans e3) H3 (Ex.refl H3) Q fun H4 e4 => q H4 ((e2.trans e3).trans e4)
/-- all stands but what stands at p -/
def ExB (p : Addr) (H H' : Hp) : Prop := ∀ b o, b ≠ p → H b = some o → H' b = some o
theorem ExB.refl (p : Addr) (H : Hp) : ExB p H H := fun _ _ _ h => h
theorem ExB.ex {p : Addr} {H H1 H2 : Hp} (a : ExB p H H1) (b : Ex H1 H2) : ExB p H H2 := fun c o hc h => b c o (a c o hc h)
theorem Ex.exB {p : Addr} {H H1 : Hp} (a : Ex H H1) : ExB p H H1 := fun c o _ h => a c o h
theorem ExB.trans {p : Addr} {H H1 H2 : Hp} (a : ExB p H H1) (b : ExB p H1 H2) : ExB p H H2 := fun c o hc h => b c o hc (a c o hc h)
theorem ExB.upd {p : Addr} {H H1 : Hp} {u : HO} (a : ExB p H H1) : ExB p H (upd H1 p u) := fun c o hc h => by
  rw [upd_ne hc]
  exact a c o hc h
theorem ExB.fresh {p q : Addr} {H H1 : Hp} (a : ExB p H H1) (hp : H1 p ≠ none) (h : H1 q = none) : H q = none := by
  cases e : H q with
  | none => rfl
  | some o =>
    have hq : q ≠ p := fun z => hp (z ▸ h)
    rw [a q o hq e] at h
    cases h
/-- what an __init__ promises: P of the instance, its dict, the heap behind -/
def SpInit (C : Addr) (R : List V → Hp → (Addr → Addr → Hp → Prop) → Prop) : Sp := fun vs H Q _ => ∃ p dx args P, vs = .ref p :: args ∧ H p = some (.ins C dx []) ∧ R args H P ∧ ∀ H', ExB p H H' → P p dx H' → Q .non H'
theorem ep_make {C : Addr} {R : List V → Hp → (Addr → Addr → Hp → Prop) → Prop} {PI : Addr → Addr → Hp → Prop} {E : XK} (h : EvA tas σ H vs) (hR : ∀ H1, Ex H H1 → R vs H1 PI) : EvP (tMake C (SpInit C R) [] E tas) σ H (fun v H' => ∃ x dx, v = .ref x ∧ H x = none ∧ PI x dx H') := fun H1 e Q q =>
  h H1 e _ fun H2 e2 => fun x dx nx nd ne => by
    have e3 : Ex H2 (L2.upd (L2.upd H2 dx (.own x)) x (.ins C dx [])) := fun b o hb => by
      rw [upd_ne (ne_of_none hb nx), upd_ne (ne_of_none hb nd)]
      exact hb
    refine ⟨x, dx, vs, PI, by rw [List.append_nil], upd_same, hR _ ((e.trans e2).trans e3), fun H' eb hp => ⟨rfl, q _ H' (e2.trans fun b o hb => eb b o (ne_of_none hb nx) (e3 b o hb)) ⟨x, dx, rfl, fresh_back (e.trans e2) nx, hp⟩⟩⟩
end
end K57
-- part D1
/-! The small defs about values and deeds. -/
namespace K57
open PySem PySem.Spec PyProof.Rows L2 He Evl
local macro_rules | `(tactic| walk_at "hp") => `(tactic| first | assumption | exact SqT.of (by assumption) | exact SqL.of (by assumption) | exact Txt.t_PLAIN (by assumption) _ | exact Txt.t_MARKS (by assumption) _ | exact Txt.t_WORDS (by assumption) _ | exact Txt.t_PARTS (by assumption) _)
local macro_rules | `(tactic| walk_at "kit") => `(tactic| first | exact kit_ii | exact kit_ib | exact kit_bb | exact kit_tt | exact kit_ss | exact kit_ll)
local macro_rules | `(tactic| walk_at "ty") => `(tactic| first | exact ty_int _ | exact ty_bl _ | exact ty_str _ | exact ty_tup (by assumption) | exact ty_lst (by assumption))
local macro_rules | `(tactic| walk_at "rv") => `(tactic| first | exact rv_I0 | exact rv_I (by decide) | exact rv_I (by assumption) | exact rv_eq rfl | exact rv_ne rfl | exact rv_isN | exact rv_notN | exact rv_ixT (by walk_at "hp") rfl | exact rv_ixL (by walk_at "hp") rfl | exact rv_ixT (by walk_at "hp") (by assumption) | exact rv_ixL (by walk_at "hp") (by assumption) | exact rv_isT (by walk_at "hp") rfl rfl)
local macro_rules | `(tactic| walk_at "ea") => `(tactic| first | exact ea_nil | (refine' ea_cons ?a ?b; (case a => walk_at "ev"); (case b => walk_at "ea")))
local macro_rules | `(tactic| walk_at "eu") => `(tactic| (refine' eu_tup ?a ?b; (case a => walk_at "ea"); (case b => (show List.length _ ≤ 100000; simp only [List.length_cons, List.length_nil]; decide))))
local macro_rules | `(tactic| walk_at "ev") => `(tactic| first
  | exact ev_var rfl
  | exact ev_c
  | (refine' ev_andV ?a (fun _ => ?b); (case a => walk_at "ev"); (case b => walk_at "ev"))
  | (refine' ev_orV ?a (fun _ => ?b); (case a => walk_at "ev"); (case b => walk_at "ev"))
  | (refine' ev_notV ?a; (case a => walk_at "ev"))
  | (refine' ev_chain ?a ?b ?c ?d ?e; (case a => walk_at "ev"); (case b => walk_at "ev"); (case c => walk_at "rv"); (case d => walk_at "ev"); (case e => walk_at "rv"))
  | (refine' ev_isi ?a ?c ?t ?e; (case a => walk_at "ea"); (case c => first | exact ClsV.ty _ | exact ClsV.own _); (case t => walk_at "ty"); (case e => walk_at "kit"))
  | (refine' ev_call ?a ?s; (case a => walk_at "ea"); (case s => walk_at "sv"))
  | (refine' ev_inU ?a ?b ?c ?d; (case a => walk_at "ev"); (case b => walk_at "eu"); (case c => rfl); (case d => rfl))
  | (refine' ev_op ?a ?b ?r; (case a => walk_at "ev"); (case b => walk_at "ev"); (case r => walk_at "rv"))
  | (refine' ev_un ?a ru_neg; (case a => walk_at "ev"))
  | (refine' ev_len2 ?a ?b; (case a => walk_at "ev"); (case b => first | exact Or.inl (by walk_at "hp") | exact Or.inr (by walk_at "hp")))
  | (refine' ev_int1 ?a; (case a => walk_at "ev"))
  | (refine' ev_intB ?a; (case a => walk_at "ev")))
local macro_rules | `(tactic| walk_at "evr") => `(tactic| (refine' ev_is ?h ?e; (case h => walk_at "ev"); (case e => first | kernel_rfl | rfl)))
local macro_rules | `(tactic| walk_at "et") => `(tactic| first
  | (refine' et_and ?a (fun _ => ?b); (case a => walk_at "et"); (case b => walk_at "et"))
  | (refine' et_or ?a (fun _ => ?b); (case a => walk_at "et"); (case b => walk_at "et"))
  | (refine' et_not ?a; (case a => walk_at "et"))
  | (refine' et_test ?a; (case a => walk_at "ev"))
  | (refine' et_B ?a; (case a => walk_at "ev")))
local macro_rules | `(tactic| walk_at "etr") => `(tactic| (refine' et_is ?h ?e; (case h => walk_at "et"); (case e => first | kernel_rfl | rfl)))
local macro_rules | `(tactic| walk_at "eps") => `(tactic| first | exact EvPs.nil | (refine' EvPs.cons (k := Sum.inr _) ?a ?b ?c; (case a => walk_at "ev"); (case b => walk_at "ev"); (case c => walk_at "eps")))
local macro_rules | `(tactic| walk_at "en") => `(tactic| first | exact en_dnew | (refine' en_disp ?a ?b ?c; (case a => walk_at "eps"); (case b => (show List.length _ ≤ 15; simp only [List.length_cons, List.length_nil]; decide)); (case c => rfl)))
section
variable {P : Program} {w : World} {K : PySem.W.Frag} {mg : Str → Option Value} {base : Heap} {H : Hp}
def sp_is_whole : Sp := SpVal fun vs _ z => ∃ i : Int, vs = [.int i] ∧ z = .bl true
theorem sv_is_whole {i : Int} : SpV sp_is_whole [.int i] H (.bl true) := sv_of fun _ _ => ⟨i, rfl, rfl⟩
-- slots of is_whole: 0 value
theorem sc_is_whole : FnScope ["value"] ["value"] (defScope (top 13)) := ⟨rfl, rfl, rfl, by decide +kernel, rfl, by decide +kernel, by decide +kernel⟩
theorem k_is_whole (T : Txt K mg)  : Cal P w K mg base 1 "is_whole" sp_is_whole := by
  refine cal_of T.d_is_whole T.g_is_whole sc_is_whole (fun _ _ _ _ _ _ us hl => match us, hl with | [_], _ => rfl) (fun vs H Q E h => ?_) (fun cdv A outer s H vs Q E hr h => ?_)
  · obtain ⟨z, ⟨i, rfl, rfl⟩, k⟩ := h
    rfl
  · obtain ⟨z, ⟨i, rfl, rfl⟩, k⟩ := h
    have hu := hu_of hr
    refine ⟨_, (pss_one (ps_ret (pe_and (pe_callB (cisi K) (by rfl) T.b_isinstance boot_isinstance (pa_cons (pv 0) (pa_cons (pty T.b_int boot_int) pa_nil))) (pe_one (pe_not (pe_callB (cisi K) (by rfl) T.b_isinstance boot_isinstance (pa_cons (pv 0) (pa_cons (pty T.b_bool boot_bool) pa_nil)))))))), ?_⟩
    refine s_ret (v := .bl true) ?_ k
    walk_at "evr"
local macro_rules | `(tactic| walk_at "sv") => `(tactic| exact sv_is_whole)
def sp_is_between : Sp := SpVal fun vs _ z => ∃ i lo hi : Int, vs = [.int i, .int lo, .int hi] ∧ z = .bl (decide (lo ≤ i) && decide (i ≤ hi))
theorem sv_is_between {i lo hi : Int} : SpV sp_is_between [.int i, .int lo, .int hi] H (.bl (decide (lo ≤ i) && decide (i ≤ hi))) := sv_of fun _ _ => ⟨i, lo, hi, rfl, rfl⟩
-- slots of is_between: 0 value 1 low 2 high
theorem sc_is_between : FnScope ["value", "low", "high"] ["value", "low", "high"] (defScope (top 14)) := ⟨rfl, rfl, rfl, by decide +kernel, rfl, by decide +kernel, by decide +kernel⟩
theorem k_is_between (T : Txt K mg) (c_is_whole : Cal P w K mg base 1 "is_whole" sp_is_whole) : Cal P w K mg base 2 "is_between" sp_is_between := by
  refine cal_of T.d_is_between T.g_is_between sc_is_between (fun _ _ _ _ _ _ us hl => match us, hl with | [_, _, _], _ => rfl) (fun vs H Q E h => ?_) (fun cdv A outer s H vs Q E hr h => ?_)
  · obtain ⟨z, ⟨i, lo, hi, rfl, rfl⟩, k⟩ := h
    rfl
  · obtain ⟨z, ⟨i, lo, hi, rfl, rfl⟩, k⟩ := h
    have hu := hu_of hr
    refine ⟨_, (pss_one (ps_ret (pe_and (pcal c_is_whole hr (pa_cons (pv 0) pa_nil)) (pe_one (pe_chain op_le op_le (pv 1) (pv 0) (pv 2)))))), ?_⟩
    refine s_ret (v := .bl (decide (lo ≤ i) && decide (i ≤ hi))) ?_ k
    walk_at "evr"
local macro_rules | `(tactic| walk_at "sv") => `(tactic| exact sv_is_between)
def sp_is_listed : Sp := SpVal fun vs H z => ∃ a xs, vs = [.ref a] ∧ H a = some (.lst xs) ∧ z = .bl true
theorem sv_is_listed {a : Addr} {xs : List V} (h : H a = some (.lst xs)) : SpV sp_is_listed [.ref a] H (.bl true) := sv_of fun _ e => ⟨a, xs, rfl, e _ _ h, rfl⟩
theorem kit_lt {K : PySem.W.Frag} : PySem.W.kitAny K (.type "list") [.type "list", .type "tuple"] = some true := kitAny_cons kit_ll (fun z => nomatch z) fun _ => rfl
-- slots of is_listed: 0 value
theorem sc_is_listed : FnScope ["value"] ["value"] (defScope (top 16)) := ⟨rfl, rfl, rfl, by decide +kernel, rfl, by decide +kernel, by decide +kernel⟩
theorem k_is_listed (T : Txt K mg)  : Cal P w K mg base 1 "is_listed" sp_is_listed := by
  refine cal_of T.d_is_listed T.g_is_listed sc_is_listed (fun _ _ _ _ _ _ us hl => match us, hl with | [_], _ => rfl) (fun vs H Q E h => ?_) (fun cdv A outer s H vs Q E hr h => ?_)
  · obtain ⟨z, ⟨a, xs, rfl, ha, rfl⟩, k⟩ := h
    rfl
  · obtain ⟨z, ⟨a, xs, rfl, ha, rfl⟩, k⟩ := h
    have hu := hu_of hr
    refine ⟨_, (pss_one (ps_ret (pe_callB (cisiT K) (by rfl) T.b_isinstance boot_isinstance (pa_cons (pv 0) (pa_cons (pe_tup (pa_cons (pty T.b_list boot_list) (pa_cons (pty T.b_tuple boot_tuple) pa_nil))) pa_nil))))), ?_⟩
    refine s_ret (v := .bl true) ?_ k
    exact ev_isT (ev_var rfl) (by walk_at "eu") (.cons (.ty _) (.cons (.ty _) .nil)) (ty_lst ha) kit_lt
local macro_rules | `(tactic| walk_at "sv") => `(tactic| exact sv_is_listed (by assumption))
def sp_is_part_of (K : PySem.W.Frag) : Sp := SpVal fun vs H z => ∃ (x : Str) (a : Addr) (xs : List V), vs = [.str x, .ref a] ∧ SqT K H a xs ∧ xs.all flatV = true ∧ z = .bl (inV (.str x) xs)
theorem sv_is_part_of {x : Str} {a : Addr} {xs : List V} (h : SqT K H a xs) (f : xs.all flatV = true) : SpV (sp_is_part_of K) [.str x, .ref a] H (.bl (inV (.str x) xs)) := sv_of fun _ e => ⟨x, a, xs, rfl, ex_t e h, f, rfl⟩
-- slots of is_part_of: 0 value 1 words
theorem sc_is_part_of : FnScope ["value", "words"] ["value", "words"] (defScope (top 17)) := ⟨rfl, rfl, rfl, by decide +kernel, rfl, by decide +kernel, by decide +kernel⟩
theorem k_is_part_of (T : Txt K mg)  : Cal P w K mg base 1 "is_part_of" (sp_is_part_of K) := by
  refine cal_of T.d_is_part_of T.g_is_part_of sc_is_part_of (fun _ _ _ _ _ _ us hl => match us, hl with | [_, _], _ => rfl) (fun vs H Q E h => ?_) (fun cdv A outer s H vs Q E hr h => ?_)
  · obtain ⟨z, ⟨x, a, xs, rfl, ha, hf, rfl⟩, k⟩ := h
    rfl
  · obtain ⟨z, ⟨x, a, xs, rfl, ha, hf, rfl⟩, k⟩ := h
    have hu := hu_of hr
    refine ⟨_, (pss_one (ps_ret (pe_and (pe_callB (cisi K) (by rfl) T.b_isinstance boot_isinstance (pa_cons (pv 0) (pa_cons (pty T.b_str boot_str) pa_nil))) (pe_one (pe_cmpR (oinS K) (pv 0) (pv 1) (by rfl)))))), ?_⟩
    refine s_ret (v := .bl (inV (.str x) xs)) ?_ k
    refine ev_is (ev_andV (a := true) (b := inV (.str x) xs) (by walk_at "ev") fun _ => ev_op (ev_var rfl) (ev_var rfl) (rv_isT ha rfl hf)) rfl
local macro_rules | `(tactic| walk_at "sv") => `(tactic| exact sv_is_part_of (by walk_at "hp") rfl)
def sp_is_time : Sp := SpVal fun vs _ z => ∃ i : Int, vs = [.int i] ∧ z = .bl (decide (1 ≤ i) && decide (i ≤ 1000000000))
theorem sv_is_time {i : Int} : SpV sp_is_time [.int i] H (.bl (decide (1 ≤ i) && decide (i ≤ 1000000000))) := sv_of fun _ _ => ⟨i, rfl, rfl⟩
-- slots of is_time: 0 value
theorem sc_is_time : FnScope ["value"] ["value"] (defScope (top 22)) := ⟨rfl, rfl, rfl, by decide +kernel, rfl, by decide +kernel, by decide +kernel⟩
theorem k_is_time (T : Txt K mg) (c_is_between : Cal P w K mg base 2 "is_between" sp_is_between) : Cal P w K mg base 3 "is_time" sp_is_time := by
  refine cal_of T.d_is_time T.g_is_time sc_is_time (fun _ _ _ _ _ _ us hl => match us, hl with | [_], _ => rfl) (fun vs H Q E h => ?_) (fun cdv A outer s H vs Q E hr h => ?_)
  · obtain ⟨z, ⟨i, rfl, rfl⟩, k⟩ := h
    rfl
  · obtain ⟨z, ⟨i, rfl, rfl⟩, k⟩ := h
    have hu := hu_of hr
    refine ⟨_, (pss_one (ps_ret (pcal c_is_between hr (pa_cons (pv 0) (pa_cons pe_int (pa_cons (pgi T.i_LONGEST) pa_nil)))))), ?_⟩
    refine s_ret (v := .bl (decide (1 ≤ i) && decide (i ≤ 1000000000))) ?_ k
    walk_at "evr"
local macro_rules | `(tactic| walk_at "sv") => `(tactic| exact sv_is_time)
def sp_is_deed : Sp := SpVal fun vs H z => ∃ (a : Addr) (d : Deed), vs = [.ref a] ∧ DeedAt H a d ∧ z = .bl true
theorem sv_is_deed {a : Addr} {d : Deed} (h : DeedAt H a d) : SpV sp_is_deed [.ref a] H (.bl true) := sv_of fun _ e => ⟨a, d, rfl, h.mono e, rfl⟩
theorem flat_vs (d : Deed) : d.vs.all flatV = true := by cases d <;> rfl
theorem shaped_vs (d : Deed) : SeqAt.shaped (.tuple (d.vs.map dat)) = true := by
  cases d <;> kernel_rfl
theorem vs_head (d : Deed) : ∃ z r, d.vs = V.str z :: r := by cases d <;> exact ⟨_, _, rfl⟩
theorem time_ok {b : Int} (h : 1 ≤ b ∧ b ≤ 1000000000) : (decide (1 ≤ b) && decide (b ≤ 1000000000)) = true := by
  rw [decide_eq_true h.1, decide_eq_true h.2]
  rfl
-- slots of is_deed: 0 value
theorem sc_is_deed : FnScope ["value"] ["value"] (defScope (top 23)) := ⟨rfl, rfl, rfl, by decide +kernel, rfl, by decide +kernel, by decide +kernel⟩
theorem k_is_deed (T : Txt K mg) (c_is_time : Cal P w K mg base 3 "is_time" sp_is_time) : Cal P w K mg base 4 "is_deed" sp_is_deed := by
  refine cal_of T.d_is_deed T.g_is_deed sc_is_deed (fun _ _ _ _ _ _ us hl => match us, hl with | [_], _ => rfl) (fun vs H Q E h => ?_) (fun cdv A outer s H vs Q E hr h => ?_)
  · obtain ⟨z, ⟨a, d, rfl, ⟨ha, hok⟩, rfl⟩, k⟩ := h
    rfl
  · obtain ⟨z, ⟨a, d, rfl, ⟨ha, hok⟩, rfl⟩, k⟩ := h
    have hu := hu_of hr
    refine ⟨_, (pss_cons (ps_if (PW.pt (pw_or (pt_not (pt_val (pe_callB (cisi K) (by rfl) T.b_isinstance boot_isinstance (pa_cons (pv 0) (pa_cons (pty T.b_tuple boot_tuple) pa_nil))))) (pw_or (pt_cmpR (oeqD K hr.units) (pv 0) (pe_tup pa_nil) (by rfl)) (pw_or1 (pt_not (pt_val (pe_callB (cisi K) (by rfl) T.b_isinstance boot_isinstance (pa_cons (pe_ix (ixT K) (pv 0) pe_int (fun _ _ => rfl)) (pa_cons (pty T.b_str boot_str) pa_nil))))))))) (pss_one (ps_ret pe_bl)) pss_nil)
      (pss_cons (ps_if (pt_cmpR (oinS K) (pe_ix (ixT K) (pv 0) pe_int (fun _ _ => rfl)) (pgo T.g_PLAIN) (by rfl)) (pss_one (ps_ret (pe_cmpR op_eq (pe_callB (clen K) (by rfl) T.b_len boot_len (pa_cons (pv 0) pa_nil)) pe_int (by rfl)))) pss_nil)
      (pss_one (ps_ret (pe_and (pe_cmpR (oinS K) (pe_ix (ixT K) (pv 0) pe_int (fun _ _ => rfl)) (pe_tup (pa_cons pe_str (pa_cons pe_str pa_nil))) (by rfl)) (pe_and (pe_cmpR op_eq (pe_callB (clen K) (by rfl) T.b_len boot_len (pa_cons (pv 0) pa_nil)) pe_int (by rfl)) (pe_one (pcal c_is_time hr (pa_cons (pe_ix (ixT K) (pv 0) pe_int (fun _ _ => rfl)) pa_nil))))))))), ?_⟩
    have sq := shaped_vs d
    have fq := flat_vs d
    have t1 : EvT (tNot (tB (tCB (rIsi K) (tCons (tVar 0) (tCons (tC (.ty "tuple")) tNil))))) (start ["value"] [.ref a]) H false := by walk_at "etr"
    have t2 : EvT (tTest (tOp (rEqD K) (tVar 0) (tTup tNil))) (start ["value"] [.ref a]) H false := et_test (ev_eqU (c := false) (ev_var rfl) (SqT.of ha) fq (by walk_at "eu") rfl sq (by decide +kernel) (by cases d <;> rfl))
    have t3 : EvT (tNot (tB (tCB (rIsi K) (tCons (tOp (rIxT K) (tVar 0) (tC (.int 0))) (tCons (tC (.ty "str")) tNil))))) (start ["value"] [.ref a]) H false := by
      cases d <;> walk_at "etr"
    refine q_not (et_is (et_or t1 fun _ => et_or t2 fun _ => t3) rfl) fun H1 e1 => ?_
    have ha1 := e1 _ _ ha
    cases d with
    | unpack b =>
      refine q_not (by walk_at "etr") fun H2 e2 => ?_
      have ha2 := e2 _ _ ha1
      refine s_ret (v := .bl true) ?_ fun H3 e3 => k H3 ((e1.trans e2).trans e3)
      refine' ev_is ?h ?e
      case h => walk_at "ev"
      case e => rw [time_ok hok] <;> kernel_rfl
    | setback b =>
      refine q_not (by walk_at "etr") fun H2 e2 => ?_
      have ha2 := e2 _ _ ha1
      refine s_ret (v := .bl true) ?_ fun H3 e3 => k H3 ((e1.trans e2).trans e3)
      refine' ev_is ?h ?e
      case h => walk_at "ev"
      case e => rw [time_ok hok] <;> kernel_rfl
    | _ =>
      refine q_yes (by walk_at "etr") fun H2 e2 => ?_
      have ha2 := e2 _ _ ha1
      refine s_ret (v := .bl true) ?_ fun H3 e3 => k H3 ((e1.trans e2).trans e3)
      walk_at "evr"
local macro_rules | `(tactic| walk_at "sv") => `(tactic| exact sv_is_deed (by assumption))
end
end K57
-- part D2
/-! Deeds and marks. -/
namespace K57
open PySem PySem.Spec PyProof.Rows L2 He Evl
local macro_rules | `(tactic| walk_at "hp") => `(tactic| first | assumption | exact SqT.of (by assumption) | exact SqL.of (by assumption) | exact Txt.t_PLAIN (by assumption) _ | exact Txt.t_MARKS (by assumption) _ | exact Txt.t_WORDS (by assumption) _ | exact Txt.t_PARTS (by assumption) _)
local macro_rules | `(tactic| walk_at "kit") => `(tactic| first | exact kit_ii | exact kit_ib | exact kit_bb | exact kit_tt | exact kit_ss | exact kit_ll)
local macro_rules | `(tactic| walk_at "ty") => `(tactic| first | exact ty_int _ | exact ty_bl _ | exact ty_str _ | exact ty_tup (by assumption) | exact ty_lst (by assumption))
local macro_rules | `(tactic| walk_at "rv") => `(tactic| first | exact rv_I0 | exact rv_I (by decide) | exact rv_I (by assumption) | exact rv_eq rfl | exact rv_ne rfl | exact rv_isN | exact rv_notN | exact rv_ixT (by walk_at "hp") rfl | exact rv_ixL (by walk_at "hp") rfl | exact rv_ixT (by walk_at "hp") (by assumption) | exact rv_ixL (by walk_at "hp") (by assumption) | exact rv_isT (by walk_at "hp") rfl rfl)
local macro_rules | `(tactic| walk_at "ea") => `(tactic| first | exact ea_nil | (refine' ea_cons ?a ?b; (case a => walk_at "ev"); (case b => walk_at "ea")))
local macro_rules | `(tactic| walk_at "eu") => `(tactic| (refine' eu_tup ?a ?b; (case a => walk_at "ea"); (case b => (show List.length _ ≤ 100000; simp only [List.length_cons, List.length_nil]; decide))))
local macro_rules | `(tactic| walk_at "ev") => `(tactic| first
  | exact ev_var rfl
  | exact ev_c
  | (refine' ev_andV ?a (fun _ => ?b); (case a => walk_at "ev"); (case b => walk_at "ev"))
  | (refine' ev_orV ?a (fun _ => ?b); (case a => walk_at "ev"); (case b => walk_at "ev"))
  | (refine' ev_notV ?a; (case a => walk_at "ev"))
  | (refine' ev_chain ?a ?b ?c ?d ?e; (case a => walk_at "ev"); (case b => walk_at "ev"); (case c => walk_at "rv"); (case d => walk_at "ev"); (case e => walk_at "rv"))
  | (refine' ev_isi ?a ?c ?t ?e; (case a => walk_at "ea"); (case c => first | exact ClsV.ty _ | exact ClsV.own _); (case t => walk_at "ty"); (case e => walk_at "kit"))
  | (refine' ev_call ?a ?s; (case a => walk_at "ea"); (case s => walk_at "sv"))
  | (refine' ev_inU ?a ?b ?c ?d; (case a => walk_at "ev"); (case b => walk_at "eu"); (case c => rfl); (case d => rfl))
  | (refine' ev_op ?a ?b ?r; (case a => walk_at "ev"); (case b => walk_at "ev"); (case r => walk_at "rv"))
  | (refine' ev_un ?a ru_neg; (case a => walk_at "ev"))
  | (refine' ev_len2 ?a ?b; (case a => walk_at "ev"); (case b => first | exact Or.inl (by walk_at "hp") | exact Or.inr (by walk_at "hp")))
  | (refine' ev_int1 ?a; (case a => walk_at "ev"))
  | (refine' ev_intB ?a; (case a => walk_at "ev")))
local macro_rules | `(tactic| walk_at "evr") => `(tactic| (refine' ev_is ?h ?e; (case h => walk_at "ev"); (case e => first | kernel_rfl | rfl)))
local macro_rules | `(tactic| walk_at "et") => `(tactic| first
  | (refine' et_and ?a (fun _ => ?b); (case a => walk_at "et"); (case b => walk_at "et"))
  | (refine' et_or ?a (fun _ => ?b); (case a => walk_at "et"); (case b => walk_at "et"))
  | (refine' et_not ?a; (case a => walk_at "et"))
  | (refine' et_test ?a; (case a => walk_at "ev"))
  | (refine' et_B ?a; (case a => walk_at "ev")))
local macro_rules | `(tactic| walk_at "etr") => `(tactic| (refine' et_is ?h ?e; (case h => walk_at "et"); (case e => first | kernel_rfl | rfl)))
local macro_rules | `(tactic| walk_at "eps") => `(tactic| first | exact EvPs.nil | (refine' EvPs.cons (k := Sum.inr _) ?a ?b ?c; (case a => walk_at "ev"); (case b => walk_at "ev"); (case c => walk_at "eps")))
local macro_rules | `(tactic| walk_at "en") => `(tactic| first | exact en_dnew | (refine' en_disp ?a ?b ?c; (case a => walk_at "eps"); (case b => (show List.length _ ≤ 15; simp only [List.length_cons, List.length_nil]; decide)); (case c => rfl)))
local macro_rules | `(tactic| walk_at "sv") => `(tactic| exact sv_is_whole)
local macro_rules | `(tactic| walk_at "sv") => `(tactic| exact sv_is_between)
local macro_rules | `(tactic| walk_at "sv") => `(tactic| exact sv_is_listed (by assumption))
local macro_rules | `(tactic| walk_at "sv") => `(tactic| exact sv_is_part_of (by walk_at "hp") rfl)
local macro_rules | `(tactic| walk_at "sv") => `(tactic| exact sv_is_time)
local macro_rules | `(tactic| walk_at "sv") => `(tactic| exact sv_is_deed (by assumption))
section
variable {P : Program} {w : World} {K : PySem.W.Frag} {mg : Str → Option Value} {base : Heap} {H : Hp}
def sp_makes : Sp := SpVal fun vs H z => ∃ (a : Addr) (d : Deed), vs = [.ref a] ∧ DeedAt H a d ∧ z = .bl d.makes
theorem sv_makes {a : Addr} {d : Deed} (h : DeedAt H a d) : SpV sp_makes [.ref a] H (.bl d.makes) := sv_of fun _ e => ⟨a, d, rfl, h.mono e, rfl⟩
-- slots of makes: 0 value
theorem sc_makes : FnScope ["value"] ["value"] (defScope (top 24)) := ⟨rfl, rfl, rfl, by decide +kernel, rfl, by decide +kernel, by decide +kernel⟩
theorem k_makes (T : Txt K mg) (c_is_deed : Cal P w K mg base 4 "is_deed" sp_is_deed) : Cal P w K mg base 5 "makes" sp_makes := by
  refine cal_of T.d_makes T.g_makes sc_makes (fun _ _ _ _ _ _ us hl => match us, hl with | [_], _ => rfl) (fun vs H Q E h => ?_) (fun cdv A outer s H vs Q E hr h => ?_)
  · obtain ⟨z, ⟨a, d, rfl, hd, rfl⟩, k⟩ := h
    rfl
  · obtain ⟨z, ⟨a, d, rfl, hd, rfl⟩, k⟩ := h
    have hu := hu_of hr
    refine ⟨_, (pss_one (ps_ret (pe_and (pcal c_is_deed hr (pa_cons (pv 0) pa_nil)) (pe_one (pe_cmpR (oinS K) (pe_ix (ixT K) (pv 0) pe_int (fun _ _ => rfl)) (pe_tup (pa_cons pe_str (pa_cons pe_str pa_nil))) (by rfl)))))), ?_⟩
    have ha := hd.1
    refine s_ret (v := .bl d.makes) ?_ k
    refine ev_is (ev_andV (a := true) (b := d.makes) (by walk_at "ev") fun _ => ?_) rfl
    cases d <;> walk_at "evr"
local macro_rules | `(tactic| walk_at "sv") => `(tactic| exact sv_makes (by assumption))
def mks : List Str := ["read", "written", "changed"]
def looksN : Nat → List (List Str)
  | 0 => [[]]
  | i + 1 => looksN i ++ (looksN i).map (· ++ [mks.getD i ""])
def looksL : List (List Str) := (looksN 3).drop 1
abbrev TupsR (L : List (List Str)) : Nat → V → Hp → Prop := fun k v H => ∃ p, v = .ref p ∧ H p = some (.tup ((L.getD k []).map V.str))
theorem tups_keeps (L : List (List Str)) : Keeps (TupsR L) := fun i v H H1 e ⟨p, hv, h⟩ => ⟨p, hv, e _ _ h⟩
theorem looksN_len (i : Nat) : (looksN i).length = 2 ^ i := by
  induction i with
  | zero => rfl
  | succ i ih => rw [looksN, List.length_append, List.length_map, ih, Nat.pow_succ] <;> omega
theorem looksN_le {i : Nat} (h : i ≤ 3) : (looksN i).length ≤ 8 := by
  rw [looksN_len]
  have : 2 ^ i ≤ 2 ^ 3 := Nat.pow_le_pow_right (by decide) h
  omega
theorem getD_at {α : Type} {l : List α} {k : Nat} {d : α} (h : k < l.length) : l.getD k d = l[k] := by
  rw [List.getD_eq_getElem?_getD, List.getElem?_eq_getElem h]
  rfl
theorem getD_l {α : Type} {a b : List α} {k : Nat} {d : α} (h : k < a.length) : (a ++ b).getD k d = a.getD k d := by
  rw [List.getD_eq_getElem?_getD, List.getD_eq_getElem?_getD, List.getElem?_append_left h]
theorem getD_r {α : Type} {a b : List α} {k : Nat} {d : α} (h : a.length ≤ k) : (a ++ b).getD k d = b.getD (k - a.length) d := by
  rw [List.getD_eq_getElem?_getD, List.getD_eq_getElem?_getD, List.getElem?_append_right h]
theorem getD_map {α β : Type} {l : List α} {f : α → β} {k : Nat} {d : α} {d' : β} (h : k < l.length) : (l.map f).getD k d' = f (l.getD k d) := by
  rw [getD_at (by rw [List.length_map]; exact h), List.getElem_map, getD_at h]
theorem getD_drop {α : Type} {l : List α} {n k : Nat} {d : α} : (l.drop n).getD k d = l.getD (n + k) d := by
  rw [List.getD_eq_getElem?_getD, List.getD_eq_getElem?_getD, List.getElem?_drop]
def sp_all_looks : Sp := SpLst fun vs _ n S => vs = [] ∧ n = 7 ∧ S = TupsR looksL
theorem spp_all_looks : SpP sp_all_looks [] H (LstOf (TupsR looksL) H 7) := sl_of fun _ _ => ⟨rfl, rfl, rfl⟩
/-- where the loop over the marks stands -/
def LooksI (H0 : Hp) (i : Nat) (σ : L2.St) (H' : Hp) : Prop := ∃ (l : Addr) (v1 : Option V) (zs : List V), σ = [some (.ref l), v1, none] ∧ Ex H0 H' ∧ H' l = some (.lst zs) ∧ zs.length = (looksN i).length ∧ ∀ k z, zs[k]? = some z → TupsR (looksN i) k z H'
-- slots of all_looks: 0 found 1 mark 2 looks
theorem sc_all_looks : FnScope ["found", "mark", "looks"] [] (defScope (top 26)) := ⟨rfl, rfl, rfl, by decide +kernel, rfl, by decide +kernel, by decide +kernel⟩
theorem k_all_looks (T : Txt K mg)  : Cal P w K mg base 1 "all_looks" sp_all_looks := by
  refine cal_of T.d_all_looks T.g_all_looks sc_all_looks (fun _ _ _ _ _ _ us hl => match us, hl with | [], _ => rfl) (fun vs H Q E h => ?_) (fun cdv A outer s H vs Q E hr h => ?_)
  · obtain ⟨n, S, ⟨rfl, rfl, rfl⟩, k⟩ := h
    rfl
  · obtain ⟨n, S, ⟨rfl, rfl, rfl⟩, k⟩ := h
    have hu := hu_of hr
    refine ⟨_, (pss_cons (ps_set (i := 0) sc_all_looks.nd rfl (by first | exact Or.inl rfl | exact Or.inr rfl) (pe_lst (pa_cons (pe_tup pa_nil) pa_nil)))
      (pss_cons (ps_for PassesOwn.never rfl (piT K (pgo T.g_MARKS)) (pg_name (i := 1) sc_all_looks.nd rfl (by first | exact Or.inl rfl | exact Or.inr rfl))
      (pss_one (ps_set (i := 0) sc_all_looks.nd rfl (by first | exact Or.inl rfl | exact Or.inr rfl) (pe_op op_cat (pv 0) (pe_lc rfl sc_all_looks.nd (piL K (pv 0)) (blkOk_by (own := [("looks", 2)]) (N := ["found", "mark", "looks"]) (sc := defScope (top 26)) (by decide +kernel)) (fun _ _ _ _ _ => pg_name (i := 2) sc_all_looks.nd rfl (Or.inl rfl)) (fun _ _ _ _ _ => pts_nil) (fun _ _ _ _ _ => (pe_tup (pstar K (pv 2) (pa_cons (pv 1) pa_nil)))))))))
      (pss_one (ps_ret (pe_slice (slL K) (pv 0) (po_some pe_int) po_none))))), ?_⟩
    -- the empty tuple, its list
    refine ⟨by decide, fun p hp => ⟨(by show 1 ≤ sizeLine; decide), fun l hl => ?_⟩⟩
    have e1 : Ex H (upd H p (.tup [])) := Ex.new hp
    have e2 := e1.trans (Ex.new (o := .lst [V.ref p]) hl)
    refine ⟨_, rfl, ⟨_, T.t_MARKS _⟩, for_tup (K := K) (xs := [V.str "read", V.str "written", V.str "changed"]) (LooksI H) ?_ (fun i σ H' _ _ => T.t_MARKS H') ?_ ?_⟩
    · refine ⟨l, none, [V.ref p], rfl, e2, upd_same, rfl, fun k z hk => ?_⟩
      cases k with
      | zero =>
        cases hk
        exact ⟨p, rfl, by rw [upd_ne (ne_of_none upd_same hl), upd_same]; rfl⟩
      | succ k => cases hk
    · rintro i x σ H' hi ⟨l, v1, zs, rfl, e, hl, hn, hz⟩
      have hi3 : i < 3 := (List.getElem?_eq_some_iff.mp hi).1
      have hx : x = V.str (mks.getD i "") := by
        match i, hi3, hi with
        | 0, _, h => cases h; rfl
        | 1, _, h => cases h; rfl
        | 2, _, h => cases h; rfl
      subst hx
      have c := looksN_le (i := i) (by omega)
      have lc : EvP (tLc (iList K (tVar 0)) (gName 2) tYes (tTup (StX.tStar K (tVar 2) (tCons (tVar 1) tNil))) [2]) [some (.ref l), some (.str (mks.getD i "")), none] H' (LstOf (TupsR ((looksN i).map (· ++ [mks.getD i ""]))) H' zs.length) := by
        refine ep_lcL (tups_keeps _) (ev_var rfl) (SqL.of hl) (by omega) (fun _ => rfl) fun k x H1 Dl ws e1 hD h1 hx => ?_
        obtain ⟨p, rfl, hp⟩ := hz k x hx
        refine fun H2 e2 Q q => ⟨_, rfl, p, _, rfl, Or.inl (SqT.of (e2 _ _ (e1 _ _ hp))), _, rfl, ?_, fun t ht => q _ _ (Ex.new ht) ⟨t, rfl, ?_⟩⟩
        · have hk : k < (looksN i).length := by
            rw [← hn]
            exact (List.getElem?_eq_some_iff.mp hx).1
          rw [List.length_append, List.length_map]
          have : ((looksN i).getD k []).length ≤ 3 := by
            have a : ∀ j, j < 3 → ∀ m ∈ looksN j, m.length ≤ 3 := by decide +kernel
            rw [getD_at hk]
            exact a i hi3 _ (List.getElem_mem hk)
          show _ + 1 ≤ sizeLine
          exact Nat.le_trans (Nat.add_le_add_right this 1) (by decide)
        · have hk : k < (looksN i).length := by
            rw [← hn]
            exact (List.getElem?_eq_some_iff.mp hx).1
          have hDt : t ≠ Dl := fun q => by rw [q, e2 _ _ h1] at ht; cases ht
          rw [off_ne hDt, upd_same, getD_map (d := []) hk, List.map_append]
          rfl
      refine ⟨_, rfl, lc H' (Ex.refl H') _ fun v H1 e1 ⟨p, ws, ev, hp, h1, hw, hR⟩ => ?_⟩
      subst ev
      refine ⟨l, p, zs, ws, rfl, rfl, e1 _ _ hl, h1, ?_, fun r hr => ?_⟩
      · rw [hw, hn]
        exact Nat.le_trans (show _ ≤ 16 by omega) (by decide)
      · refine ⟨r, _, zs ++ ws, rfl, (e.trans e1).trans (Ex.new hr), upd_same, ?_, fun k z hk => ?_⟩
        · rw [List.length_append, hw, looksN, List.length_append, List.length_map, hn]
        · by_cases hlt : k < zs.length
          · rw [List.getElem?_append_left hlt] at hk
            obtain ⟨t, rfl, ht⟩ := hz k z hk
            refine ⟨t, rfl, ?_⟩
            rw [upd_ne (ne_of_none (e1 _ _ ht) hr), e1 _ _ ht, looksN, getD_l (by rw [← hn]; exact hlt)]
          · rw [List.getElem?_append_right (by omega)] at hk
            obtain ⟨t, rfl, ht⟩ := hR _ z hk
            have ht' := off_ex _ _ ht
            refine ⟨t, rfl, ?_⟩
            rw [upd_ne (ne_of_none ht' hr), ht', looksN, getD_r (by rw [← hn]; omega), hn]
    · rintro σ H' ⟨l, v1, zs, rfl, e, hl, hn, hz⟩
      have hz8 : zs.length = 8 := hn
      refine ⟨_, rfl, 1, rfl, l, zs, rfl, SqL.of hl, fun r hr => k _ _ (e.trans (Ex.new hr)) ⟨r, _, rfl, fresh_back e hr, upd_same, ?_, fun j z hj => ?_⟩⟩
      · match zs, hz8 with
        | [a0, a1, a2, a3, a4, a5, a6, a7], _ => rfl
      · have hcut : cutV zs (some 1) none = zs.drop 1 := by
          match zs, hz8 with
          | [a0, a1, a2, a3, a4, a5, a6, a7], _ => rfl
        rw [hcut, List.getElem?_drop] at hj
        obtain ⟨t, rfl, ht⟩ := hz (1 + j) z hj
        refine ⟨t, rfl, ?_⟩
        have htr : t ≠ r := fun q => by rw [q, hr] at ht; cases ht
        rw [off_ne htr, upd_ne htr, ht]
        show some (HO.tup _) = some (HO.tup _)
        rw [looksL, getD_drop]
        rfl
end
end K57
-- part D3
/-! Looks, backs, rules. -/
namespace K57
open PySem PySem.Spec PyProof.Rows L2 He Evl
local macro_rules | `(tactic| walk_at "hp") => `(tactic| first | assumption | exact SqT.of (by assumption) | exact SqL.of (by assumption) | exact Txt.t_PLAIN (by assumption) _ | exact Txt.t_MARKS (by assumption) _ | exact Txt.t_WORDS (by assumption) _ | exact Txt.t_PARTS (by assumption) _)
local macro_rules | `(tactic| walk_at "kit") => `(tactic| first | exact kit_ii | exact kit_ib | exact kit_bb | exact kit_tt | exact kit_ss | exact kit_ll)
local macro_rules | `(tactic| walk_at "ty") => `(tactic| first | exact ty_int _ | exact ty_bl _ | exact ty_str _ | exact ty_tup (by assumption) | exact ty_lst (by assumption))
local macro_rules | `(tactic| walk_at "rv") => `(tactic| first | exact rv_I0 | exact rv_I (by decide) | exact rv_I (by assumption) | exact rv_eq rfl | exact rv_ne rfl | exact rv_isN | exact rv_notN | exact rv_ixT (by walk_at "hp") rfl | exact rv_ixL (by walk_at "hp") rfl | exact rv_ixT (by walk_at "hp") (by assumption) | exact rv_ixL (by walk_at "hp") (by assumption) | exact rv_isT (by walk_at "hp") rfl rfl)
local macro_rules | `(tactic| walk_at "ea") => `(tactic| first | exact ea_nil | (refine' ea_cons ?a ?b; (case a => walk_at "ev"); (case b => walk_at "ea")))
local macro_rules | `(tactic| walk_at "eu") => `(tactic| (refine' eu_tup ?a ?b; (case a => walk_at "ea"); (case b => (show List.length _ ≤ 100000; simp only [List.length_cons, List.length_nil]; decide))))
local macro_rules | `(tactic| walk_at "ev") => `(tactic| first
  | exact ev_var rfl
  | exact ev_c
  | (refine' ev_andV ?a (fun _ => ?b); (case a => walk_at "ev"); (case b => walk_at "ev"))
  | (refine' ev_orV ?a (fun _ => ?b); (case a => walk_at "ev"); (case b => walk_at "ev"))
  | (refine' ev_notV ?a; (case a => walk_at "ev"))
  | (refine' ev_chain ?a ?b ?c ?d ?e; (case a => walk_at "ev"); (case b => walk_at "ev"); (case c => walk_at "rv"); (case d => walk_at "ev"); (case e => walk_at "rv"))
  | (refine' ev_isi ?a ?c ?t ?e; (case a => walk_at "ea"); (case c => first | exact ClsV.ty _ | exact ClsV.own _); (case t => walk_at "ty"); (case e => walk_at "kit"))
  | (refine' ev_call ?a ?s; (case a => walk_at "ea"); (case s => walk_at "sv"))
  | (refine' ev_inU ?a ?b ?c ?d; (case a => walk_at "ev"); (case b => walk_at "eu"); (case c => rfl); (case d => rfl))
  | (refine' ev_op ?a ?b ?r; (case a => walk_at "ev"); (case b => walk_at "ev"); (case r => walk_at "rv"))
  | (refine' ev_un ?a ru_neg; (case a => walk_at "ev"))
  | (refine' ev_len2 ?a ?b; (case a => walk_at "ev"); (case b => first | exact Or.inl (by walk_at "hp") | exact Or.inr (by walk_at "hp")))
  | (refine' ev_int1 ?a; (case a => walk_at "ev"))
  | (refine' ev_intB ?a; (case a => walk_at "ev")))
local macro_rules | `(tactic| walk_at "evr") => `(tactic| (refine' ev_is ?h ?e; (case h => walk_at "ev"); (case e => first | kernel_rfl | rfl)))
local macro_rules | `(tactic| walk_at "et") => `(tactic| first
  | (refine' et_and ?a (fun _ => ?b); (case a => walk_at "et"); (case b => walk_at "et"))
  | (refine' et_or ?a (fun _ => ?b); (case a => walk_at "et"); (case b => walk_at "et"))
  | (refine' et_not ?a; (case a => walk_at "et"))
  | (refine' et_test ?a; (case a => walk_at "ev"))
  | (refine' et_B ?a; (case a => walk_at "ev")))
local macro_rules | `(tactic| walk_at "etr") => `(tactic| (refine' et_is ?h ?e; (case h => walk_at "et"); (case e => first | kernel_rfl | rfl)))
local macro_rules | `(tactic| walk_at "eps") => `(tactic| first | exact EvPs.nil | (refine' EvPs.cons (k := Sum.inr _) ?a ?b ?c; (case a => walk_at "ev"); (case b => walk_at "ev"); (case c => walk_at "eps")))
local macro_rules | `(tactic| walk_at "en") => `(tactic| first | exact en_dnew | (refine' en_disp ?a ?b ?c; (case a => walk_at "eps"); (case b => (show List.length _ ≤ 15; simp only [List.length_cons, List.length_nil]; decide)); (case c => rfl)))
local macro_rules | `(tactic| walk_at "sv") => `(tactic| exact sv_is_whole)
local macro_rules | `(tactic| walk_at "sv") => `(tactic| exact sv_is_between)
local macro_rules | `(tactic| walk_at "sv") => `(tactic| exact sv_is_listed (by assumption))
local macro_rules | `(tactic| walk_at "sv") => `(tactic| exact sv_is_part_of (by walk_at "hp") rfl)
local macro_rules | `(tactic| walk_at "sv") => `(tactic| exact sv_is_time)
local macro_rules | `(tactic| walk_at "sv") => `(tactic| exact sv_is_deed (by assumption))
local macro_rules | `(tactic| walk_at "sv") => `(tactic| exact sv_makes (by assumption))
section
variable {P : Program} {w : World} {K : PySem.W.Frag} {mg : Str → Option Value} {base : Heap} {H : Hp}
theorem s_fld {K : PySem.W.Frag} {σ : L2.St} {H : Hp} {ta tv : TE} {D : Ends} {C p dx : Addr} {fs : List (Str × V)} {f : Str} {v : V} (cl : Cls K C) (na : NoAttr K C f) (hv : Ev tv σ H v) (ha : Ev ta σ H (.ref p)) (ho : H p = some (.ins C dx fs)) (hl : fs.length < 1000) (k : ∀ H1, Ex H H1 → D.nx σ (upd H1 p (.ins C dx (putF f v fs)))) : sFld K ta tv f D σ H :=
  hv H (Ex.refl H) _ fun H1 e1 => ha H1 e1 _ fun H2 e2 => ⟨p, C, dx, fs, rfl, (e1.trans e2) _ _ ho, cl, na, hl, k H2 (e1.trans e2)⟩
theorem q_fld {K : PySem.W.Frag} {σ : L2.St} {H : Hp} {ta tv : TE} {D : Ends} {tz : TS} {C p dx : Addr} {fs : List (Str × V)} {f : Str} {v : V} (cl : Cls K C) (na : NoAttr K C f) (hv : Ev tv σ H v) (ha : Ev ta σ H (.ref p)) (ho : H p = some (.ins C dx fs)) (hl : fs.length < 1000) (k : ∀ H1, Ex H H1 → tz D σ (upd H1 p (.ins C dx (putF f v fs)))) : tSeq (sFld K ta tv f) tz D σ H :=
  s_fld (D := { D with nx := tz D }) cl na hv ha ho hl k
theorem s_fldP {K : PySem.W.Frag} {σ : L2.St} {H : Hp} {ta tv : TE} {D : Ends} {C p dx : Addr} {fs : List (Str × V)} {f : Str} {P : V → Hp → Prop} (cl : Cls K C) (na : NoAttr K C f) (hv : EvP tv σ H P) (ha : Ev ta σ H (.ref p)) (ho : H p = some (.ins C dx fs)) (hl : fs.length < 1000) (k : ∀ v H0 H1, Ex H H0 → P v H0 → Ex H0 H1 → D.nx σ (upd H1 p (.ins C dx (putF f v fs)))) : sFld K ta tv f D σ H :=
  hv H (Ex.refl H) _ fun v H1 e1 q => ha H1 e1 _ fun H2 e2 => ⟨p, C, dx, fs, rfl, (e1.trans e2) _ _ ho, cl, na, hl, k v H1 H2 e1 q e2⟩
theorem q_fldP {K : PySem.W.Frag} {σ : L2.St} {H : Hp} {ta tv : TE} {D : Ends} {tz : TS} {C p dx : Addr} {fs : List (Str × V)} {f : Str} {P : V → Hp → Prop} (cl : Cls K C) (na : NoAttr K C f) (hv : EvP tv σ H P) (ha : Ev ta σ H (.ref p)) (ho : H p = some (.ins C dx fs)) (hl : fs.length < 1000) (k : ∀ v H0 H1, Ex H H0 → P v H0 → Ex H0 H1 → tz D σ (upd H1 p (.ins C dx (putF f v fs)))) : tSeq (sFld K ta tv f) tz D σ H :=
  s_fldP (D := { D with nx := tz D }) cl na hv ha ho hl k
abbrev LooksAt (H : Hp) (a : Addr) (S : List Str) : Prop := H a = some (.tup (S.map V.str))
def lookD (S : List Str) : PyData := .tuple (S.map PyData.str)
theorem flat_strs (S : List Str) : (S.map V.str).all flatV = true := by
  induction S with
  | nil => rfl
  | cons s S ih => exact ih
theorem dat_strs (S : List Str) : (S.map V.str).map dat = S.map PyData.str := by
  rw [List.map_map]
  rfl
theorem dp_look {S : List Str} {a : Addr} (h : LooksAt H a S) : Dp K H (.ref a) (lookD S) := by
  have := dp_tup (K := K) (SqT.of h) (flat_strs S)
  rw [dat_strs] at this
  exact this
theorem dp_tups : ∀ (L : List (List Str)) (zs : List V), zs.length = L.length → (∀ k z, zs[k]? = some z → TupsR L k z H) → DpAll K H zs (L.map lookD)
  | [], [], _, _ => .nil
  | S :: L, z :: zs, hl, h => by
    refine .cons ?_ (dp_tups L zs (Nat.succ.inj hl) fun k z hk => h (k + 1) z hk)
    obtain ⟨p, rfl, hp⟩ := h 0 z rfl
    exact dp_look hp
def sp_is_looks : Sp := SpVal fun vs H z => ∃ (a : Addr) (S : List Str), vs = [.ref a] ∧ LooksAt H a S ∧ S ∈ looksL ∧ z = .bl true
theorem sv_is_looks {a : Addr} {S : List Str} (h : LooksAt H a S) (hS : S ∈ looksL) : SpV sp_is_looks [.ref a] H (.bl true) := sv_of fun _ e => ⟨a, S, rfl, e _ _ h, hS, rfl⟩
theorem looks_shaped : ∀ S ∈ looksL, SeqAt.shaped (lookD S) = true := by decide +kernel
theorem looks_any : ∀ S ∈ looksL, (looksL.map lookD).any (fun z => PyData.eqv z (lookD S)) = true := by decide +kernel
theorem looks_ne : ∀ S ∈ looksL, PyData.eqv (lookD S) (.tuple []) = false := by decide +kernel
theorem looks_le : ∀ S ∈ looksL, S.length ≤ 3 := by decide +kernel
-- slots of is_looks: 0 value
theorem sc_is_looks : FnScope ["value"] ["value"] (defScope (top 25)) := ⟨rfl, rfl, rfl, by decide +kernel, rfl, by decide +kernel, by decide +kernel⟩
theorem k_is_looks (T : Txt K mg) (c_all_looks : Cal P w K mg base 1 "all_looks" sp_all_looks) : Cal P w K mg base 2 "is_looks" sp_is_looks := by
  refine cal_of T.d_is_looks T.g_is_looks sc_is_looks (fun _ _ _ _ _ _ us hl => match us, hl with | [_], _ => rfl) (fun vs H Q E h => ?_) (fun cdv A outer s H vs Q E hr h => ?_)
  · obtain ⟨z, ⟨a, S, rfl, ha, hS, rfl⟩, k⟩ := h
    rfl
  · obtain ⟨z, ⟨a, S, rfl, ha, hS, rfl⟩, k⟩ := h
    have hu := hu_of hr
    refine ⟨_, (pss_cons (ps_if (PW.pt (pw_or (pt_not (pt_val (pe_callB (cisi K) (by rfl) T.b_isinstance boot_isinstance (pa_cons (pv 0) (pa_cons (pty T.b_tuple boot_tuple) pa_nil))))) (pw_or1 (pt_cmpR (oeqD K hr.units) (pv 0) (pe_tup pa_nil) (by rfl))))) (pss_one (ps_ret pe_bl)) pss_nil)
      (pss_one (ps_ret (pe_cmpR (oinD K (r65 hr)) (pv 0) (pcal0 c_all_looks hr) (by rfl))))), ?_⟩
    have fq := flat_strs S
    have t1 : EvT (tNot (tB (tCB (rIsi K) (tCons (tVar 0) (tCons (tC (.ty "tuple")) tNil))))) (start ["value"] [.ref a]) H false := by walk_at "etr"
    have t2 : EvT (tTest (tOp (rEqD K) (tVar 0) (tTup tNil))) (start ["value"] [.ref a]) H false := et_test (ev_eqU (c := false) (ev_var rfl) (SqT.of ha) fq (by walk_at "eu") rfl (by rw [dat_strs]; exact looks_shaped S hS) (by decide +kernel) (by rw [dat_strs]; exact looks_ne S hS))
    refine q_not (et_is (et_or t1 fun _ => t2) rfl) fun H1 e1 => ?_
    refine s_ret (v := .bl true) ?_ fun H2 e2 => k H2 (e1.trans e2)
    refine ev_opP (ev_var rfl) (evp_call ea_nil spp_all_looks) fun v H2 hv e2 H3 e3 Q q => ?_
    obtain ⟨p, zs, rfl, hp, h1, h2, h3⟩ := hv
    have hd : DpAll K H2 zs (looksL.map lookD) := dp_tups looksL zs h2 fun k z hk => by
      obtain ⟨t, rfl, ht⟩ := h3 k z hk
      exact ⟨t, rfl, off_ex _ _ ht⟩
    have hd3 : DpAll K H3 zs (looksL.map lookD) := dp_tups looksL zs h2 fun k z hk => by
      obtain ⟨t, rfl, ht⟩ := h3 k z hk
      exact ⟨t, rfl, e3 _ _ (off_ex _ _ ht)⟩
    refine ⟨_, _, dp_look (e3 _ _ (e2 _ _ (e1 _ _ ha))), .lst (SqL.of (e3 _ _ h1)) hd3, looks_shaped S hS, by decide +kernel, ?_⟩
    rw [looks_any S hS]
    exact q H3 (Ex.refl H3)
local macro_rules | `(tactic| walk_at "sv") => `(tactic| exact sv_is_looks (by assumption) (by assumption))
def bk : Deed → List (Str × Int)
  | .make => [("read", 0), ("written", 0), ("changed", 0)]
  | .touch => [("read", 0), ("written", 0), ("changed", 0)]
  | .unpack b => [("read", 0), ("written", b), ("changed", 0)]
  | .setback b => [("read", b), ("written", b), ("changed", 0)]
  | .write => [("written", 0), ("changed", 0)]
  | .rename => [("changed", 0)]
  | .read => []
def kvI (l : List (Str × Int)) : List (Key × V) := l.map fun p => (Sum.inr p.1, V.int p.2)
def sp_backs : Sp := SpNew fun vs H o => ∃ (a : Addr) (d : Deed), vs = [.ref a] ∧ DeedAt H a d ∧ o = .dK (kvI (bk d))
theorem sn_backs {a : Addr} {d : Deed} (h : DeedAt H a d) : SpN sp_backs [.ref a] H (.dK (kvI (bk d))) := sn_of fun _ e => ⟨a, d, rfl, h.mono e, rfl⟩
-- slots of backs: 0 deed 1 word
theorem sc_backs : FnScope ["deed", "word"] ["deed"] (defScope (top 27)) := ⟨rfl, rfl, rfl, by decide +kernel, rfl, by decide +kernel, by decide +kernel⟩
theorem k_backs (T : Txt K mg) (c_is_deed : Cal P w K mg base 4 "is_deed" sp_is_deed) : Cal P w K mg base 5 "backs" sp_backs := by
  refine cal_of T.d_backs T.g_backs sc_backs (fun _ _ _ _ _ _ us hl => match us, hl with | [_], _ => rfl) (fun vs H Q E h => ?_) (fun cdv A outer s H vs Q E hr h => ?_)
  · obtain ⟨o, ⟨a, d, rfl, hd, rfl⟩, k⟩ := h
    rfl
  · obtain ⟨o, ⟨a, d, rfl, hd, rfl⟩, k⟩ := h
    have hu := hu_of hr
    refine ⟨_, (pss_cons (ps_if (pt_not (pt_val (pcal c_is_deed hr (pa_cons (pv 0) pa_nil)))) (pss_one ps_never) pss_nil)
      (pss_cons (ps_set (i := 1) sc_backs.nd rfl (by first | exact Or.inl rfl | exact Or.inr rfl) (pe_ix (ixT K) (pv 0) pe_int (fun _ _ => rfl)))
      (pss_cons (ps_if (pt_cmpR (oinS K) (pv 1) (pe_tup (pa_cons pe_str (pa_cons pe_str pa_nil))) (by rfl)) (pss_one (ps_ret (pe_disp (pps_cons pe_str pe_int (pps_cons pe_str pe_int (pps_cons pe_str pe_int pps_nil))) (by rfl) (by rfl) (fun z => by cases z) (by decide)))) pss_nil)
      (pss_cons (ps_if (pt_cmpR op_eq (pv 1) pe_str (by rfl)) (pss_one (ps_ret (pe_disp (pps_cons pe_str pe_int (pps_cons pe_str (pe_ix (ixT K) (pv 0) pe_int (fun _ _ => rfl)) (pps_cons pe_str pe_int pps_nil))) (by rfl) (by rfl) (fun z => by cases z) (by decide)))) pss_nil)
      (pss_cons (ps_if (pt_cmpR op_eq (pv 1) pe_str (by rfl)) (pss_one (ps_ret (pe_disp (pps_cons pe_str (pe_ix (ixT K) (pv 0) pe_int (fun _ _ => rfl)) (pps_cons pe_str (pe_ix (ixT K) (pv 0) pe_int (fun _ _ => rfl)) (pps_cons pe_str pe_int pps_nil))) (by rfl) (by rfl) (fun z => by cases z) (by decide)))) pss_nil)
      (pss_cons (ps_if (pt_cmpR op_eq (pv 1) pe_str (by rfl)) (pss_one (ps_ret (pe_disp (pps_cons pe_str pe_int (pps_cons pe_str pe_int pps_nil)) (by rfl) (by rfl) (fun z => by cases z) (by decide)))) pss_nil)
      (pss_one (ps_ret (pe_ifExp (pt_cmpR op_eq (pv 1) pe_str (by rfl)) (pe_disp (pps_cons pe_str pe_int pps_nil) (by rfl) (by rfl) (fun z => by cases z) (by decide)) pe_dnewK))))))))), ?_⟩
    refine q_not (by walk_at "etr") fun H1 e1 => ?_
    have hd1 := hd.mono e1
    have ha := hd1.1
    obtain ⟨w0, r0, hw⟩ := vs_head d
    refine q_asg (v := .str w0) (by refine ev_op (ev_var rfl) ev_c (rv_ixT (SqT.of ha) ?_); cases d <;> cases hw <;> rfl) fun H2 e2 => ?_
    have ha2 := e2 _ _ ha
    have e12 := e1.trans e2
    have hk : ∀ p H', H2 p = none → Ex H2 H' → H' p = some (.dK (kvI (bk d))) → _ := fun p H' hp e h => k p H' (fresh_back e12 hp) (e12.trans e) h
    clear k
    cases d with
    | make =>
      cases hw
      exact q_yes (by walk_at "etr") fun H3 e3 => s_retN (by walk_at "en") fun p H4 hp e4 h => hk p H4 (fresh_back e3 hp) (e3.trans e4) h
    | touch =>
      cases hw
      exact q_yes (by walk_at "etr") fun H3 e3 => s_retN (by walk_at "en") fun p H4 hp e4 h => hk p H4 (fresh_back e3 hp) (e3.trans e4) h
    | unpack b =>
      cases hw
      exact q_not (by walk_at "etr") fun H3 e3 => q_yes (by walk_at "etr") fun H4 e4 => by
        have ha4 := e4 _ _ (e3 _ _ ha2)
        exact s_retN (by walk_at "en") fun p H5 hp e5 h => hk p H5 (fresh_back (e3.trans e4) hp) ((e3.trans e4).trans e5) h
    | setback b =>
      cases hw
      exact q_not (by walk_at "etr") fun H3 e3 => q_not (by walk_at "etr") fun H4 e4 => q_yes (by walk_at "etr") fun H5 e5 => by
        have ha5 := e5 _ _ (e4 _ _ (e3 _ _ ha2))
        exact s_retN (by walk_at "en") fun p H6 hp e6 h => hk p H6 (fresh_back ((e3.trans e4).trans e5) hp) (((e3.trans e4).trans e5).trans e6) h
    | write =>
      cases hw
      exact q_not (by walk_at "etr") fun H3 e3 => q_not (by walk_at "etr") fun H4 e4 => q_not (by walk_at "etr") fun H5 e5 => q_yes (by walk_at "etr") fun H6 e6 =>
        s_retN (by walk_at "en") fun p H7 hp e7 h => hk p H7 (fresh_back (((e3.trans e4).trans e5).trans e6) hp) ((((e3.trans e4).trans e5).trans e6).trans e7) h
    | rename =>
      cases hw
      exact q_not (by walk_at "etr") fun H3 e3 => q_not (by walk_at "etr") fun H4 e4 => q_not (by walk_at "etr") fun H5 e5 => q_not (by walk_at "etr") fun H6 e6 =>
        s_retN (en_if (b := true) (by walk_at "etr") (fun _ => by walk_at "en") (fun z => nomatch z)) fun p H7 hp e7 h => hk p H7 (fresh_back (((e3.trans e4).trans e5).trans e6) hp) ((((e3.trans e4).trans e5).trans e6).trans e7) h
    | read =>
      cases hw
      exact q_not (by walk_at "etr") fun H3 e3 => q_not (by walk_at "etr") fun H4 e4 => q_not (by walk_at "etr") fun H5 e5 => q_not (by walk_at "etr") fun H6 e6 =>
        s_retN (en_if (b := false) (by walk_at "etr") (fun z => nomatch z) (fun _ => by walk_at "en")) fun p H7 hp e7 h => hk p H7 (fresh_back (((e3.trans e4).trans e5).trans e6) hp) ((((e3.trans e4).trans e5).trans e6).trans e7) h
def rword (al : Bool) : Str := if al then "always" else "never"
def RuleAt (K : PySem.W.Frag) (H : Hp) (r : Addr) (al : Bool) : Prop := ∃ dx, H r = some (.ins (ga K "Rule") dx [("own_word", .str (rword al)), ("own_after", .non)])
theorem RuleAt.mono {H1 : Hp} {r : Addr} {al : Bool} (e : Ex H H1) (h : RuleAt K H r al) : RuleAt K H1 r al := by
  obtain ⟨dx, h⟩ := h
  exact ⟨dx, e _ _ h⟩
def sp_check_rule (K : PySem.W.Frag) : Sp := SpVal fun vs H z => ∃ (r : Addr) (al : Bool), vs = [.ref r] ∧ RuleAt K H r al ∧ z = .non
theorem sv_check_rule {r : Addr} {al : Bool} (h : RuleAt K H r al) : SpV (sp_check_rule K) [.ref r] H .non := sv_of fun _ e => ⟨r, al, rfl, h.mono e, rfl⟩
-- slots of check_rule: 0 value
theorem sc_check_rule : FnScope ["value"] ["value"] (defScope (top 37)) := ⟨rfl, rfl, rfl, by decide +kernel, rfl, by decide +kernel, by decide +kernel⟩
theorem k_check_rule (T : Txt K mg)  : Cal P w K mg base 1 "check_rule" (sp_check_rule K) := by
  refine cal_of T.d_check_rule T.g_check_rule sc_check_rule (fun _ _ _ _ _ _ us hl => match us, hl with | [_], _ => rfl) (fun vs H Q E h => ?_) (fun cdv A outer s H vs Q E hr h => ?_)
  · obtain ⟨z, ⟨r, al, rfl, ⟨dx, h⟩, rfl⟩, k⟩ := h
    rfl
  · obtain ⟨z, ⟨r, al, rfl, ⟨dx, h⟩, rfl⟩, k⟩ := h
    have hu := hu_of hr
    refine ⟨_, (pss_one (ps_if (pt_not (pt_val (pe_callB (C8.call_isC T.is_Rule) (by rfl) T.b_isinstance boot_isinstance (pa_cons (pv 0) (pa_cons (pgo T.g_Rule) pa_nil))))) (pss_one ps_never) pss_nil)), ?_⟩
    exact s_not (et_is (et_not (et_B (ev_isC (ea_cons (ev_var rfl) (ea_cons ev_c ea_nil)) h))) rfl) k
def sp_rule_init (K : PySem.W.Frag) : Sp := SpInit (ga K "Rule") fun args _ P => ∃ wd, args = [.str wd, .non] ∧ P = fun p dx H' => H' p = some (.ins (ga K "Rule") dx [("own_word", .str wd), ("own_after", .non)])
-- slots of Rule.__init__: 0 self 1 word 2 after
theorem sc_Rule_init : FnScope ["self", "word", "after"] ["self", "word", "after"] (defScope (inClass (top 36) 0)) := ⟨rfl, rfl, rfl, by decide +kernel, rfl, by decide +kernel, by decide +kernel⟩
theorem k_Rule_init (T : Txt K mg)  : Mak P w K mg base 1 "Rule" (ga K "Rule") (sp_rule_init K) := by
  refine At.mak (sp := (sp_rule_init K)) ?_ T.m_Rule T.g_Rule
  refine at_ok T.d_Rule_init sc_Rule_init (fun _ _ _ _ _ _ us hl => match us, hl with | [_, _, _], _ => rfl) (fun vs H Q E h => ?_) (fun cdv A outer s H vs Q E hr h => ?_)
  · obtain ⟨p, dx, args, P0, rfl, hp, ⟨wd, rfl, rfl⟩, k⟩ := h
    rfl
  · obtain ⟨p, dx, args, P0, rfl, hp, ⟨wd, rfl, rfl⟩, k⟩ := h
    have hu := hu_of hr
    refine ⟨_, (pss_cons (ps_fld (pv 0) (pv 1) rfl)
      (pss_one (ps_fld (pv 0) (pv 2) rfl))), ?_⟩
    refine q_fld T.c_Rule T.n_Rule_own_word (ev_var rfl) (ev_var rfl) hp (by decide) fun H1 e1 => ?_
    refine s_fld T.c_Rule T.n_Rule_own_after (ev_var rfl) (ev_var rfl) upd_same (by show 1 < 1000; decide) fun H2 e2 => ?_
    exact k _ (ExB.upd (ExB.ex (ExB.upd (Ex.exB e1)) e2)) upd_same
def sp_always (K : PySem.W.Frag) : Sp := SpPost fun vs _ P => vs = [] ∧ P = fun v H' => ∃ r, v = .ref r ∧ RuleAt K H' r true
theorem spp_always : SpP (sp_always K) [] H (fun v H' => ∃ r, v = .ref r ∧ RuleAt K H' r true) := sp_of fun _ _ => ⟨rfl, rfl⟩
-- slots of Rule.always: 
theorem sc_Rule_always : FnScope [] [] (defScope (inClass (top 36) 1)) := ⟨rfl, rfl, rfl, by decide +kernel, rfl, by decide +kernel, by decide +kernel⟩
theorem k_Rule_always (T : Txt K mg) (c_Rule : Mak P w K mg base 1 "Rule" (ga K "Rule") (sp_rule_init K)) : Smt P w K mg base 3 (ga K "Rule") "always" (sp_always K) := by
  refine At.smt (sp := (sp_always K)) ?_ T.s_Rule_always
  refine at_ok T.d_Rule_always sc_Rule_always (fun _ _ _ _ _ _ us hl => match us, hl with | [], _ => rfl) (fun vs H Q E h => ?_) (fun cdv A outer s H vs Q E hr h => ?_)
  · obtain ⟨P0, ⟨rfl, rfl⟩, k⟩ := h
    rfl
  · obtain ⟨P0, ⟨rfl, rfl⟩, k⟩ := h
    have hu := hu_of hr
    refine ⟨_, (pss_one (ps_ret (pmak c_Rule hr (pa_cons pe_str (pa_cons pe_non pa_nil))))), ?_⟩
    refine s_retP (ep_make (ea_cons ev_c (ea_cons ev_c ea_nil)) fun H1 e1 => ⟨_, rfl, rfl⟩) fun v H1 e1 h => k v H1 e1 ?_
    obtain ⟨r, dx, rfl, _, h⟩ := h
    exact ⟨r, rfl, dx, h⟩
def sp_never (K : PySem.W.Frag) : Sp := SpPost fun vs _ P => vs = [] ∧ P = fun v H' => ∃ r, v = .ref r ∧ RuleAt K H' r false
theorem spp_never : SpP (sp_never K) [] H (fun v H' => ∃ r, v = .ref r ∧ RuleAt K H' r false) := sp_of fun _ _ => ⟨rfl, rfl⟩
-- slots of Rule.never: 
theorem sc_Rule_never : FnScope [] [] (defScope (inClass (top 36) 2)) := ⟨rfl, rfl, rfl, by decide +kernel, rfl, by decide +kernel, by decide +kernel⟩
theorem k_Rule_never (T : Txt K mg) (c_Rule : Mak P w K mg base 1 "Rule" (ga K "Rule") (sp_rule_init K)) : Smt P w K mg base 3 (ga K "Rule") "never" (sp_never K) := by
  refine At.smt (sp := (sp_never K)) ?_ T.s_Rule_never
  refine at_ok T.d_Rule_never sc_Rule_never (fun _ _ _ _ _ _ us hl => match us, hl with | [], _ => rfl) (fun vs H Q E h => ?_) (fun cdv A outer s H vs Q E hr h => ?_)
  · obtain ⟨P0, ⟨rfl, rfl⟩, k⟩ := h
    rfl
  · obtain ⟨P0, ⟨rfl, rfl⟩, k⟩ := h
    have hu := hu_of hr
    refine ⟨_, (pss_one (ps_ret (pmak c_Rule hr (pa_cons pe_str (pa_cons pe_non pa_nil))))), ?_⟩
    refine s_retP (ep_make (ea_cons ev_c (ea_cons ev_c ea_nil)) fun H1 e1 => ⟨_, rfl, rfl⟩) fun v H1 e1 h => k v H1 e1 ?_
    obtain ⟨r, dx, rfl, _, h⟩ := h
    exact ⟨r, rfl, dx, h⟩
def sp_rule_word (K : PySem.W.Frag) : Sp := SpVal fun vs H z => ∃ (r : Addr) (al : Bool), vs = [.ref r] ∧ RuleAt K H r al ∧ z = .str (rword al)
theorem sv_rule_word {r : Addr} {al : Bool} (h : RuleAt K H r al) : SpV (sp_rule_word K) [.ref r] H (.str (rword al)) := sv_of fun _ e => ⟨r, al, rfl, h.mono e, rfl⟩
-- slots of Rule.word: 0 self
theorem sc_Rule_word : FnScope ["self"] ["self"] (defScope (inClass (top 36) 4)) := ⟨rfl, rfl, rfl, by decide +kernel, rfl, by decide +kernel, by decide +kernel⟩
theorem k_Rule_word (T : Txt K mg)  : Prp P w K mg base 1 (ga K "Rule") "word" (sp_rule_word K) := by
  refine At.prp (sp := (sp_rule_word K)) ?_ T.c_Rule T.p_Rule_word
  refine at_ok T.d_Rule_word sc_Rule_word (fun _ _ _ _ _ _ us hl => match us, hl with | [_], _ => rfl) (fun vs H Q E h => ?_) (fun cdv A outer s H vs Q E hr h => ?_)
  · obtain ⟨z, ⟨r, al, rfl, ⟨dx, h⟩, rfl⟩, k⟩ := h
    rfl
  · obtain ⟨z, ⟨r, al, rfl, ⟨dx, h⟩, rfl⟩, k⟩ := h
    have hu := hu_of hr
    refine ⟨_, (pss_one (ps_ret (pfld K (pv 0)))), ?_⟩
    exact s_ret (ev_fld (ev_var rfl) h T.c_Rule T.n_Rule_own_word rfl) k
def sp_is_more : Sp := SpVal fun vs _ z => ∃ i j : Int, vs = [.int i, .int j] ∧ z = .bl (decide (i > j))
theorem sv_is_more {i j : Int} : SpV sp_is_more [.int i, .int j] H (.bl (decide (i > j))) := sv_of fun _ _ => ⟨i, j, rfl, rfl⟩
-- slots of is_more: 0 one 1 other
theorem sc_is_more : FnScope ["one", "other"] ["one", "other"] (defScope (top 64)) := ⟨rfl, rfl, rfl, by decide +kernel, rfl, by decide +kernel, by decide +kernel⟩
theorem k_is_more (T : Txt K mg)  : Cal P w K mg base 1 "is_more" sp_is_more := by
  refine cal_of T.d_is_more T.g_is_more sc_is_more (fun _ _ _ _ _ _ us hl => match us, hl with | [_, _], _ => rfl) (fun vs H Q E h => ?_) (fun cdv A outer s H vs Q E hr h => ?_)
  · obtain ⟨z, ⟨i, j, rfl, rfl⟩, k⟩ := h
    rfl
  · obtain ⟨z, ⟨i, j, rfl, rfl⟩, k⟩ := h
    have hu := hu_of hr
    refine ⟨_, (pss_cons (ps_if (pt_cmpR op_isN (pv 1) pe_non (by rfl)) (pss_one (ps_ret pe_bl)) pss_nil)
      (pss_one (ps_ret (pe_or (pe_cmpR op_isN (pv 0) pe_non (by rfl)) (pe_one (pe_cmpR op_gt (pv 0) (pv 1) (by rfl))))))), ?_⟩
    refine q_not (by walk_at "etr") fun H1 e1 => ?_
    exact s_ret (by walk_at "evr") fun H2 e2 => k H2 (e1.trans e2)
end
end K57
-- part C1
/-! Chains, where they lie, loops over enumerate, the order of heaps but for tables kept. -/
namespace K57
open PySem PySem.Spec PyProof.Rows L2 He Evl
local macro_rules | `(tactic| walk_at "hp") => `(tactic| first | assumption | exact SqT.of (by assumption) | exact SqL.of (by assumption) | exact Txt.t_PLAIN (by assumption) _ | exact Txt.t_MARKS (by assumption) _ | exact Txt.t_WORDS (by assumption) _ | exact Txt.t_PARTS (by assumption) _)
local macro_rules | `(tactic| walk_at "kit") => `(tactic| first | exact kit_ii | exact kit_ib | exact kit_bb | exact kit_tt | exact kit_ss | exact kit_ll)
local macro_rules | `(tactic| walk_at "ty") => `(tactic| first | exact ty_int _ | exact ty_bl _ | exact ty_str _ | exact ty_tup (by assumption) | exact ty_lst (by assumption))
local macro_rules | `(tactic| walk_at "rv") => `(tactic| first | exact rv_I0 | exact rv_I (by decide) | exact rv_I (by assumption) | exact rv_eq rfl | exact rv_ne rfl | exact rv_isN | exact rv_notN | exact rv_ixT (by walk_at "hp") rfl | exact rv_ixL (by walk_at "hp") rfl | exact rv_ixT (by walk_at "hp") (by assumption) | exact rv_ixL (by walk_at "hp") (by assumption) | exact rv_isT (by walk_at "hp") rfl rfl)
local macro_rules | `(tactic| walk_at "ea") => `(tactic| first | exact ea_nil | (refine' ea_cons ?a ?b; (case a => walk_at "ev"); (case b => walk_at "ea")))
local macro_rules | `(tactic| walk_at "eu") => `(tactic| (refine' eu_tup ?a ?b; (case a => walk_at "ea"); (case b => (show List.length _ ≤ 100000; simp only [List.length_cons, List.length_nil]; decide))))
local macro_rules | `(tactic| walk_at "ev") => `(tactic| first
  | exact ev_var rfl
  | exact ev_c
  | (refine' ev_andV ?a (fun _ => ?b); (case a => walk_at "ev"); (case b => walk_at "ev"))
  | (refine' ev_orV ?a (fun _ => ?b); (case a => walk_at "ev"); (case b => walk_at "ev"))
  | (refine' ev_notV ?a; (case a => walk_at "ev"))
  | (refine' ev_chain ?a ?b ?c ?d ?e; (case a => walk_at "ev"); (case b => walk_at "ev"); (case c => walk_at "rv"); (case d => walk_at "ev"); (case e => walk_at "rv"))
  | (refine' ev_isi ?a ?c ?t ?e; (case a => walk_at "ea"); (case c => first | exact ClsV.ty _ | exact ClsV.own _); (case t => walk_at "ty"); (case e => walk_at "kit"))
  | (refine' ev_call ?a ?s; (case a => walk_at "ea"); (case s => walk_at "sv"))
  | (refine' ev_inU ?a ?b ?c ?d; (case a => walk_at "ev"); (case b => walk_at "eu"); (case c => rfl); (case d => rfl))
  | (refine' ev_niU ?a ?b ?c ?d; (case a => walk_at "ev"); (case b => walk_at "eu"); (case c => rfl); (case d => rfl))
  | (refine' ev_op ?a ?b ?r; (case a => walk_at "ev"); (case b => walk_at "ev"); (case r => walk_at "rv"))
  | (refine' ev_un ?a ru_neg; (case a => walk_at "ev"))
  | (refine' ev_len2 ?a ?b; (case a => walk_at "ev"); (case b => first | exact Or.inl (by walk_at "hp") | exact Or.inr (by walk_at "hp")))
  | (refine' ev_int1 ?a; (case a => walk_at "ev"))
  | (refine' ev_intB ?a; (case a => walk_at "ev")))
local macro_rules | `(tactic| walk_at "evr") => `(tactic| (refine' ev_is ?h ?e; (case h => walk_at "ev"); (case e => first | kernel_rfl | rfl)))
local macro_rules | `(tactic| walk_at "et") => `(tactic| first
  | (refine' et_and ?a (fun _ => ?b); (case a => walk_at "et"); (case b => walk_at "et"))
  | (refine' et_or ?a (fun _ => ?b); (case a => walk_at "et"); (case b => walk_at "et"))
  | (refine' et_not ?a; (case a => walk_at "et"))
  | (refine' et_test ?a; (case a => walk_at "ev"))
  | (refine' et_B ?a; (case a => walk_at "ev")))
local macro_rules | `(tactic| walk_at "etr") => `(tactic| (refine' et_is ?h ?e; (case h => walk_at "et"); (case e => first | kernel_rfl | rfl)))
local macro_rules | `(tactic| walk_at "eps") => `(tactic| first | exact EvPs.nil | (refine' EvPs.cons (k := Sum.inr _) ?a ?b ?c; (case a => walk_at "ev"); (case b => walk_at "ev"); (case c => walk_at "eps")))
local macro_rules | `(tactic| walk_at "en") => `(tactic| first | exact en_dnew | (refine' en_disp ?a ?b ?c; (case a => walk_at "eps"); (case b => (show List.length _ ≤ 15; simp only [List.length_cons, List.length_nil]; decide)); (case c => rfl)))
/-! ### all but the dicts by tuples stands -/
def NotT (o : HO) : Prop := ∀ kvs, o ≠ .dT kvs
structure ExD (H H' : Hp) : Prop where
  keep : ∀ b o, NotT o → H b = some o → H' b = some o
  back : ∀ b, H' b = none → H b = none
theorem ExD.refl (H : Hp) : ExD H H := ⟨fun _ _ _ h => h, fun _ h => h⟩
theorem ExD.of {H H1 : Hp} (e : Ex H H1) : ExD H H1 := ⟨fun b o _ h => e b o h, fun b h => fresh_back e h⟩
theorem ExD.trans {H H1 H2 : Hp} (a : ExD H H1) (b : ExD H1 H2) : ExD H H2 := ⟨fun c o n h => b.keep c o n (a.keep c o n h), fun c h => a.back c (b.back c h)⟩
theorem ExD.put {H H1 : Hp} {p : Addr} {kvs kvs' : List (List Key × V)} (a : ExD H H1) (h : H1 p = some (.dT kvs)) : ExD H (upd H1 p (.dT kvs')) := ⟨fun c o n hc => by
  by_cases q : c = p
  · rw [q] at hc
    have := a.keep _ _ n hc
    rw [h] at this
    exact absurd (Option.some.inj this).symm (n kvs)
  · rw [upd_ne q]
    exact a.keep c o n hc, fun c hc => by
  by_cases q : c = p
  · rw [q, upd_same] at hc
    cases hc
  · rw [upd_ne q] at hc
    exact a.back c hc⟩
theorem ExD.tup {H H1 : Hp} {a : Addr} {xs : List V} (e : ExD H H1) (h : H a = some (.tup xs)) : H1 a = some (.tup xs) := e.keep _ _ (fun _ z => nomatch z) h
theorem ExD.lst {H H1 : Hp} {a : Addr} {xs : List V} (e : ExD H H1) (h : H a = some (.lst xs)) : H1 a = some (.lst xs) := e.keep _ _ (fun _ z => nomatch z) h
theorem ExD.ins {H H1 : Hp} {a C dx : Addr} {fs : List (Str × V)} (e : ExD H H1) (h : H a = some (.ins C dx fs)) : H1 a = some (.ins C dx fs) := e.keep _ _ (fun _ z => nomatch z) h
theorem ExD.dk {H H1 : Hp} {a : Addr} {kvs : List (Key × V)} (e : ExD H H1) (h : H a = some (.dK kvs)) : H1 a = some (.dK kvs) := e.keep _ _ (fun _ z => nomatch z) h

/-! ### chains -/
structure Ch where
  ds : List Deed
  ts : List (Int × Int)
def Ch.n (c : Ch) : Nat := c.ds.length
def Ch.d (c : Ch) (i : Nat) : Deed := c.ds.getD i .read
def Ch.lo (c : Ch) (i : Nat) : Int := (c.ts.getD i (0, 0)).1
def Ch.hi (c : Ch) (i : Nat) : Int := (c.ts.getD i (0, 0)).2
structure Ch.Ok (c : Ch) : Prop where
  len : c.n = c.ts.length + 1
  le : c.ts.length ≤ 7
  first : (c.d 0).makes = true
  rest : ∀ i, 1 ≤ i → i < c.n → (c.d i).makes = false
  tok : ∀ i, i < c.ts.length → 1 ≤ c.lo i ∧ c.lo i ≤ c.hi i ∧ c.hi i ≤ 1000000000
/-- a list of deeds -/
def NodesAt (H : Hp) (l : Addr) (ds : List Deed) (as : List V) : Prop := H l = some (.lst as) ∧ as.length = ds.length ∧ ∀ i, i < ds.length → ∃ a, as[i]? = some (.ref a) ∧ DeedAt H a (ds.getD i .read)
/-- an arrow of the chain -/
def arrV (c : Ch) (i : Nat) : List V := [.int (i : Int), .int ((i : Int) + 1), .int (c.lo i), .int (c.hi i)]
def ArrsAt (H : Hp) (l : Addr) (c : Ch) (z : List V) (bs : List V) : Prop := H l = some (.lst bs) ∧ bs.length = c.ts.length ∧ ∀ i, i < c.ts.length → ∃ b, bs[i]? = some (.ref b) ∧ H b = some (.tup (arrV c i ++ z))
structure WayD (K : PySem.W.Frag) (H : Hp) (w : Addr) (c : Ch) (dx n l : Addr) (as bs : List V) : Prop where
  ins : H w = some (.ins (ga K "Way") dx [("own_nodes", .ref n), ("own_arrows", .ref l)])
  nodes : NodesAt H n c.ds as
  arrs : ArrsAt H l c [.str ""] bs
  ok : c.Ok
def WayAt (K : PySem.W.Frag) (H : Hp) (w : Addr) (c : Ch) : Prop := ∃ dx n l as bs, WayD K H w c dx n l as bs
section
variable {K : PySem.W.Frag} {H H1 : Hp} {a l w : Addr} {c : Ch} {as bs z : List V} {ds : List Deed} {d : Deed}
theorem DeedAt.mond (e : ExD H H1) (h : DeedAt H a d) : DeedAt H1 a d := ⟨e.tup h.1, h.2⟩
theorem NodesAt.mond (e : ExD H H1) (h : NodesAt H l ds as) : NodesAt H1 l ds as := ⟨e.lst h.1, h.2.1, fun i hi => by
  obtain ⟨a, ha, hd⟩ := h.2.2 i hi
  exact ⟨a, ha, hd.mond e⟩⟩
theorem ArrsAt.mond (e : ExD H H1) (h : ArrsAt H l c z bs) : ArrsAt H1 l c z bs := ⟨e.lst h.1, h.2.1, fun i hi => by
  obtain ⟨a, ha, hd⟩ := h.2.2 i hi
  exact ⟨a, ha, e.tup hd⟩⟩
theorem WayD.mond {dx n l : Addr} (e : ExD H H1) (h : WayD K H w c dx n l as bs) : WayD K H1 w c dx n l as bs := ⟨e.ins h.ins, h.nodes.mond e, h.arrs.mond e, h.ok⟩
theorem WayAt.mond (e : ExD H H1) (h : WayAt K H w c) : WayAt K H1 w c := by
  obtain ⟨dx, n, l, as, bs, h⟩ := h
  exact ⟨dx, n, l, as, bs, h.mond e⟩
theorem RuleAt.mond {r : Addr} {al : Bool} (e : ExD H H1) (h : RuleAt K H r al) : RuleAt K H1 r al := by
  obtain ⟨dx, h⟩ := h
  exact ⟨dx, e.ins h⟩
theorem NodesAt.mono (e : Ex H H1) (h : NodesAt H l ds as) : NodesAt H1 l ds as := h.mond (.of e)
theorem ArrsAt.mono (e : Ex H H1) (h : ArrsAt H l c z bs) : ArrsAt H1 l c z bs := h.mond (.of e)
theorem WayD.mono {dx n l : Addr} (e : Ex H H1) (h : WayD K H w c dx n l as bs) : WayD K H1 w c dx n l as bs := h.mond (.of e)
theorem WayAt.mono (e : Ex H H1) (h : WayAt K H w c) : WayAt K H1 w c := h.mond (.of e)
theorem atI_nat {xs : List V} {i : Nat} {v : V} (h : xs[i]? = some v) : atI xs (i : Int) = some v := by
  have hi : i < xs.length := (List.getElem?_eq_some_iff.mp h).1
  unfold atI
  rw [ixN_nat hi]
  exact h
end

/-! ### values when they are in bounds -/
section
variable {H : Hp}
theorem sv_is_between_t {i lo hi : Int} (h : lo ≤ i ∧ i ≤ hi) : SpV sp_is_between [.int i, .int lo, .int hi] H (.bl true) := by
  have := sv_is_between (H := H) (i := i) (lo := lo) (hi := hi)
  rw [decide_eq_true h.1, decide_eq_true h.2] at this
  exact this
theorem sv_is_time_t {i : Int} (h : 1 ≤ i ∧ i ≤ 1000000000) : SpV sp_is_time [.int i] H (.bl true) := by
  have := sv_is_time (H := H) (i := i)
  rw [time_ok h] at this
  exact this
end

/-! ### loops -/
section
variable {K : PySem.W.Frag} {σ : L2.St} {H : Hp} {a : Addr} {xs : List V} {tas : TA} {i j : Nat} {D : Ends} {tu tz : TS}
theorem s_forEn (h : EvA tas σ H [.ref a]) (hx : SqL K H a xs) (Pv : Nat → L2.St → Hp → Prop) (h0 : ∀ H1, Ex H H1 → Pv 0 σ H1) (hl : ∀ k σ' H', k ≤ xs.length → Pv k σ' H' → SqL K H' a xs)
    (hs : ∀ k x σ' H' H2, xs[k]? = some x → Pv k σ' H' → Ex H' H2 → tu { D with nx := Pv (k + 1), ct := Pv (k + 1), bk := D.nx } ((σ'.set i (some (.int (k : Nat)))).set j (some x)) H2) (hd : ∀ σ' H', Pv xs.length σ' H' → D.nx σ' H') :
    tFor (iEnum K tas) (gTup K 2 (gCons (gName i) (gCons (gName j) gNil))) tu D σ H := h H (Ex.refl H) _ fun H1 e => ⟨a, xs, rfl, ex_l e hx, for_it walk_enum Pv (h0 H1 e) hl (fun k x σ' H' H2 hk p y => by
    obtain ⟨t, x1, y1, rfl, ht, rfl, hx1, hy1⟩ := y
    cases hx1
    exact ⟨t, _, rfl, SqT.of upd_same, rfl, _, _, rfl, _, _, rfl, rfl, hs k y1 σ' H' _ hy1 p (Ex.new ht)⟩) hd⟩
theorem q_forEn (h : EvA tas σ H [.ref a]) (hx : SqL K H a xs) (Pv : Nat → L2.St → Hp → Prop) (h0 : ∀ H1, Ex H H1 → Pv 0 σ H1) (hl : ∀ k σ' H', k ≤ xs.length → Pv k σ' H' → SqL K H' a xs)
    (hs : ∀ k x σ' H' H2, xs[k]? = some x → Pv k σ' H' → Ex H' H2 → tu { D with nx := Pv (k + 1), ct := Pv (k + 1), bk := tz D } ((σ'.set i (some (.int (k : Nat)))).set j (some x)) H2) (hd : ∀ σ' H', Pv xs.length σ' H' → tz D σ' H') :
    tSeq (tFor (iEnum K tas) (gTup K 2 (gCons (gName i) (gCons (gName j) gNil))) tu) tz D σ H := s_forEn (D := { D with nx := tz D }) h hx Pv h0 hl hs hd
/-- over a new list made by an expression -/
theorem s_forEnN {te : TE} (h : EvL te σ H xs) (Pv : Nat → L2.St → Hp → Prop) (h0 : ∀ p H1, H p = none → Ex H H1 → H1 p = some (.lst xs) → Pv 0 σ H1) (hm : ∀ k σ' H' H2, Ex H' H2 → Pv k σ' H' → Pv k σ' H2)
    (hs : ∀ p k x σ' H', H p = none → H' p = some (.lst xs) → xs[k]? = some x → Pv k σ' H' → ∀ H2, Ex H' H2 → tu { D with nx := fun σ2 H2 => H2 p = some (.lst xs) ∧ Pv (k + 1) σ2 H2, ct := fun σ2 H2 => H2 p = some (.lst xs) ∧ Pv (k + 1) σ2 H2, bk := D.nx } ((σ'.set i (some (.int (k : Nat)))).set j (some x)) H2) (hd : ∀ σ' H', Pv xs.length σ' H' → D.nx σ' H') :
    tFor (iEnum K (tCons te tNil)) (gTup K 2 (gCons (gName i) (gCons (gName j) gNil))) tu D σ H := h H (Ex.refl H) _ fun p H1 hp e h1 => ⟨p, xs, rfl, SqL.of h1, for_it walk_enum (fun k σ' H' => H' p = some (.lst xs) ∧ Pv k σ' H') ⟨h1, h0 p H1 hp e h1⟩ (fun k σ' H' _ q => SqL.of q.1) (fun k x σ' H' H2 hk q y => by
    obtain ⟨t, x1, y1, rfl, ht, rfl, hx1, hy1⟩ := y
    cases hx1
    exact ⟨t, _, rfl, SqT.of upd_same, rfl, _, _, rfl, _, _, rfl, rfl, hs p k y1 σ' H' hp q.1 hy1 q.2 _ (Ex.new ht)⟩) fun σ' H' q => hd σ' H' q.2⟩
theorem q_cutEn {te : TE} (h : EvL te σ H xs) (Pv : Nat → L2.St → Hp → Prop) (h0 : ∀ p H1, H p = none → Ex H H1 → H1 p = some (.lst xs) → Pv 0 σ H1) (hm : ∀ k σ' H' H2, Ex H' H2 → Pv k σ' H' → Pv k σ' H2)
    (hs : ∀ p k x σ' H', H p = none → H' p = some (.lst xs) → xs[k]? = some x → Pv k σ' H' → ∀ H2, Ex H' H2 → tu { D with nx := fun σ2 H2 => H2 p = some (.lst xs) ∧ Pv (k + 1) σ2 H2, ct := fun σ2 H2 => H2 p = some (.lst xs) ∧ Pv (k + 1) σ2 H2, bk := tz D } ((σ'.set i (some (.int (k : Nat)))).set j (some x)) H2) (hd : ∀ σ' H', Pv xs.length σ' H' → tz D σ' H') :
    tSeq (tFor (iEnum K (tCons te tNil)) (gTup K 2 (gCons (gName i) (gCons (gName j) gNil))) tu) tz D σ H := s_forEnN (D := { D with nx := tz D }) h Pv h0 hm hs hd
end
end K57
-- part D4
/-! Ways, read. -/
namespace K57
open PySem PySem.Spec PyProof.Rows L2 He Evl
local macro_rules | `(tactic| walk_at "hp") => `(tactic| first | assumption | exact SqT.of (by assumption) | exact SqL.of (by assumption) | exact Txt.t_PLAIN (by assumption) _ | exact Txt.t_MARKS (by assumption) _ | exact Txt.t_WORDS (by assumption) _ | exact Txt.t_PARTS (by assumption) _)
local macro_rules | `(tactic| walk_at "kit") => `(tactic| first | exact kit_ii | exact kit_ib | exact kit_bb | exact kit_tt | exact kit_ss | exact kit_ll)
local macro_rules | `(tactic| walk_at "ty") => `(tactic| first | exact ty_int _ | exact ty_bl _ | exact ty_str _ | exact ty_tup (by assumption) | exact ty_lst (by assumption))
local macro_rules | `(tactic| walk_at "rv") => `(tactic| first | exact rv_I0 | exact rv_I (by decide) | exact rv_I (by assumption) | exact rv_eq rfl | exact rv_ne rfl | exact rv_isN | exact rv_notN | exact rv_ixT (by walk_at "hp") rfl | exact rv_ixL (by walk_at "hp") rfl | exact rv_ixT (by walk_at "hp") (by assumption) | exact rv_ixL (by walk_at "hp") (by assumption) | exact rv_isT (by walk_at "hp") rfl rfl)
local macro_rules | `(tactic| walk_at "ea") => `(tactic| first | exact ea_nil | (refine' ea_cons ?a ?b; (case a => walk_at "ev"); (case b => walk_at "ea")))
local macro_rules | `(tactic| walk_at "eu") => `(tactic| (refine' eu_tup ?a ?b; (case a => walk_at "ea"); (case b => (show List.length _ ≤ 100000; simp only [List.length_cons, List.length_nil]; decide))))
local macro_rules | `(tactic| walk_at "ev") => `(tactic| first
  | exact ev_var rfl
  | exact ev_c
  | (refine' ev_andV ?a (fun _ => ?b); (case a => walk_at "ev"); (case b => walk_at "ev"))
  | (refine' ev_orV ?a (fun _ => ?b); (case a => walk_at "ev"); (case b => walk_at "ev"))
  | (refine' ev_notV ?a; (case a => walk_at "ev"))
  | (refine' ev_chain ?a ?b ?c ?d ?e; (case a => walk_at "ev"); (case b => walk_at "ev"); (case c => walk_at "rv"); (case d => walk_at "ev"); (case e => walk_at "rv"))
  | (refine' ev_isi ?a ?c ?t ?e; (case a => walk_at "ea"); (case c => first | exact ClsV.ty _ | exact ClsV.own _); (case t => walk_at "ty"); (case e => walk_at "kit"))
  | (refine' ev_call ?a ?s; (case a => walk_at "ea"); (case s => walk_at "sv"))
  | (refine' ev_inU ?a ?b ?c ?d; (case a => walk_at "ev"); (case b => walk_at "eu"); (case c => rfl); (case d => rfl))
  | (refine' ev_niU ?a ?b ?c ?d; (case a => walk_at "ev"); (case b => walk_at "eu"); (case c => rfl); (case d => rfl))
  | (refine' ev_op ?a ?b ?r; (case a => walk_at "ev"); (case b => walk_at "ev"); (case r => walk_at "rv"))
  | (refine' ev_un ?a ru_neg; (case a => walk_at "ev"))
  | (refine' ev_len2 ?a ?b; (case a => walk_at "ev"); (case b => first | exact Or.inl (by walk_at "hp") | exact Or.inr (by walk_at "hp")))
  | (refine' ev_int1 ?a; (case a => walk_at "ev"))
  | (refine' ev_intB ?a; (case a => walk_at "ev")))
local macro_rules | `(tactic| walk_at "evr") => `(tactic| (refine' ev_is ?h ?e; (case h => walk_at "ev"); (case e => first | kernel_rfl | rfl)))
local macro_rules | `(tactic| walk_at "et") => `(tactic| first
  | (refine' et_and ?a (fun _ => ?b); (case a => walk_at "et"); (case b => walk_at "et"))
  | (refine' et_or ?a (fun _ => ?b); (case a => walk_at "et"); (case b => walk_at "et"))
  | (refine' et_not ?a; (case a => walk_at "et"))
  | (refine' et_test ?a; (case a => walk_at "ev"))
  | (refine' et_B ?a; (case a => walk_at "ev")))
local macro_rules | `(tactic| walk_at "etr") => `(tactic| (refine' et_is ?h ?e; (case h => walk_at "et"); (case e => first | kernel_rfl | rfl)))
local macro_rules | `(tactic| walk_at "eps") => `(tactic| first | exact EvPs.nil | (refine' EvPs.cons (k := Sum.inr _) ?a ?b ?c; (case a => walk_at "ev"); (case b => walk_at "ev"); (case c => walk_at "eps")))
local macro_rules | `(tactic| walk_at "en") => `(tactic| first | exact en_dnew | (refine' en_disp ?a ?b ?c; (case a => walk_at "eps"); (case b => (show List.length _ ≤ 15; simp only [List.length_cons, List.length_nil]; decide)); (case c => rfl)))
local macro_rules | `(tactic| walk_at "sv") => `(tactic| exact sv_is_whole)
local macro_rules | `(tactic| walk_at "sv") => `(tactic| exact sv_is_between)
local macro_rules | `(tactic| walk_at "sv") => `(tactic| exact sv_is_listed (by assumption))
local macro_rules | `(tactic| walk_at "sv") => `(tactic| exact sv_is_part_of (by walk_at "hp") rfl)
local macro_rules | `(tactic| walk_at "sv") => `(tactic| exact sv_is_time)
local macro_rules | `(tactic| walk_at "sv") => `(tactic| exact sv_is_deed (by assumption))
local macro_rules | `(tactic| walk_at "sv") => `(tactic| exact sv_makes (by assumption))
local macro_rules | `(tactic| walk_at "sv") => `(tactic| exact sv_is_looks (by assumption) (by assumption))
local macro_rules | `(tactic| walk_at "sv") => `(tactic| exact sv_check_rule (by assumption))
local macro_rules | `(tactic| walk_at "sv") => `(tactic| exact sv_is_more)
local macro_rules | `(tactic| walk_at "sv") => `(tactic| exact sv_is_between_t (by omega))
local macro_rules | `(tactic| walk_at "sv") => `(tactic| exact sv_is_between_t (by assumption))
local macro_rules | `(tactic| walk_at "sv") => `(tactic| exact sv_is_time_t (by omega))
local macro_rules | `(tactic| walk_at "sv") => `(tactic| exact sv_is_time_t (by assumption))
section
variable {P : Program} {w : World} {K : PySem.W.Frag} {mg : Str → Option Value} {base : Heap} {H : Hp}
local macro_rules | `(tactic| walk_at "ev") => `(tactic| assumption)
theorem given_one (n i : Nat) (v : Nat → V) : given n (fun k => decide ((k : Int) + 1 = (i : Int))) v = if 1 ≤ i ∧ i ≤ n then [v (i - 1)] else [] := by
  induction n with
  | zero => rw [if_neg (by omega)]; rfl
  | succ n ih =>
    by_cases h : n + 1 = i
    · rw [given_yes (by show decide ((n : Int) + 1 = (i : Int)) = true; exact decide_eq_true (by omega)), ih, if_neg (by omega), if_pos (by omega), List.nil_append, show i - 1 = n by omega]
    · rw [given_no (by show decide ((n : Int) + 1 = (i : Int)) = false; exact decide_eq_false (by omega)), ih]
      by_cases g : 1 ≤ i ∧ i ≤ n
      · rw [if_pos g, if_pos (by omega)]
      · rw [if_neg g, if_neg (by omega)]
def intoL (bs : List V) (i : Nat) : List V := if i = 0 then [] else [bs.getD (i - 1) .non]
theorem WayD.fn {w dx n l : Addr} {c : Ch} {as bs : List V} (T : Txt K mg) (h : WayD K H w c dx n l as bs) {σ : L2.St} {te : TE} (ha : Ev te σ H (.ref w)) : Ev (tFld K te "own_nodes") σ H (.ref n) := ev_fld ha h.ins T.c_Way T.n_Way_own_nodes rfl
theorem WayD.fa {w dx n l : Addr} {c : Ch} {as bs : List V} (T : Txt K mg) (h : WayD K H w c dx n l as bs) {σ : L2.St} {te : TE} (ha : Ev te σ H (.ref w)) : Ev (tFld K te "own_arrows") σ H (.ref l) := ev_fld ha h.ins T.c_Way T.n_Way_own_arrows rfl
def sp_way_get (K : PySem.W.Frag) : Sp := SpVal fun vs H z => ∃ (w : Addr) (c : Ch) (dx n l : Addr) (as bs : List V) (i : Nat), vs = [.ref w, .int (i : Int)] ∧ WayD K H w c dx n l as bs ∧ as[i]? = some z
theorem sv_way_get {w dx n l : Addr} {c : Ch} {as bs : List V} {i : Nat} {z : V} (h : WayD K H w c dx n l as bs) (hi : as[i]? = some z) : SpV (sp_way_get K) [.ref w, .int (i : Int)] H z := sv_of fun _ e => ⟨w, c, dx, n, l, as, bs, i, rfl, h.mono e, hi⟩
-- slots of Way.__getitem__: 0 self 1 node
theorem sc_Way_getitem : FnScope ["self", "node"] ["self", "node"] (defScope (inClass (top 52) 3)) := ⟨rfl, rfl, rfl, by decide +kernel, rfl, by decide +kernel, by decide +kernel⟩
theorem k_Way_getitem (T : Txt K mg) (c_is_between : Cal P w K mg base 2 "is_between" sp_is_between) : Ixo P w K mg base 3 (ga K "Way") (sp_way_get K) := by
  refine At.ixo (sp := (sp_way_get K)) ?_ T.me_Way_getitem T.fi_getitem
  refine at_ok T.d_Way_getitem sc_Way_getitem (fun _ _ _ _ _ _ us hl => match us, hl with | [_, _], _ => rfl) (fun vs H Q E h => ?_) (fun cdv A outer s H vs Q E hr h => ?_)
  · obtain ⟨z, ⟨w, c, dx, n, l, as, bs, i, rfl, h, hi⟩, k⟩ := h
    rfl
  · obtain ⟨z, ⟨w, c, dx, n, l, as, bs, i, rfl, h, hi⟩, k⟩ := h
    have hu := hu_of hr
    refine ⟨_, (pss_cons (ps_if (pt_not (pt_val (pcal c_is_between hr (pa_cons (pv 1) (pa_cons pe_int (pa_cons (pe_op op_sub (pe_callB (clen K) (by rfl) T.b_len boot_len (pa_cons (pfld K (pv 0)) pa_nil)) pe_int) pa_nil)))))) (pss_one ps_never) pss_nil)
      (pss_one (ps_ret (pe_ix (ixL K) (pfld K (pv 0)) (pv 1) (fun _ _ => rfl))))), ?_⟩
    have hlt : i < as.length := (List.getElem?_eq_some_iff.mp hi).1
    have hn := h.fn T (σ := start ["self", "node"] [.ref w, .int (i : Int)]) (te := tVar 0) (ev_var rfl)
    have hl := SqL.of (K := K) h.nodes.1
    have bd : (0 : Int) ≤ (i : Int) ∧ (i : Int) ≤ (as.length : Int) - 1 := by omega
    refine q_not (by walk_at "etr") fun H1 e1 => ?_
    exact s_ret (ev_op (hn.mono e1) (ev_var rfl) (rv_ixL (ex_l e1 hl) (atI_nat hi))) fun H2 e2 => k H2 (e1.trans e2)
def sp_way_len (K : PySem.W.Frag) : Sp := SpVal fun vs H z => ∃ (w : Addr) (c : Ch), vs = [.ref w] ∧ WayAt K H w c ∧ z = .int (c.n : Int)
theorem sv_way_len {w : Addr} {c : Ch} (h : WayAt K H w c) : SpV (sp_way_len K) [.ref w] H (.int (c.n : Int)) := sv_of fun _ e => ⟨w, c, rfl, h.mono e, rfl⟩
-- slots of Way.__len__: 0 self
theorem sc_Way_len : FnScope ["self"] ["self"] (defScope (inClass (top 52) 5)) := ⟨rfl, rfl, rfl, by decide +kernel, rfl, by decide +kernel, by decide +kernel⟩
theorem k_Way_len (T : Txt K mg)  : Lno P w K mg base 1 (ga K "Way") (sp_way_len K) := by
  refine At.lno (sp := (sp_way_len K)) ?_ T.me_Way_len
  refine at_ok T.d_Way_len sc_Way_len (fun _ _ _ _ _ _ us hl => match us, hl with | [_], _ => rfl) (fun vs H Q E h => ?_) (fun cdv A outer s H vs Q E hr h => ?_)
  · obtain ⟨z, ⟨w, c, rfl, ⟨dx, n, l, as, bs, h⟩, rfl⟩, k⟩ := h
    rfl
  · obtain ⟨z, ⟨w, c, rfl, ⟨dx, n, l, as, bs, h⟩, rfl⟩, k⟩ := h
    have hu := hu_of hr
    refine ⟨_, (pss_one (ps_ret (pe_callB (clen K) (by rfl) T.b_len boot_len (pa_cons (pfld K (pv 0)) pa_nil)))), ?_⟩
    have hn := h.fn T (σ := start ["self"] [.ref w]) (te := tVar 0) (ev_var rfl)
    exact s_ret (ev_is (ev_len2 hn (.inl (SqL.of h.nodes.1))) (by rw [h.nodes.2.1]; rfl)) k
theorem WayAt.bound {w : Addr} {c : Ch} (h : WayAt K H w c) : 1 ≤ c.n ∧ c.n ≤ 8 := by
  obtain ⟨_, _, _, _, _, h⟩ := h
  have := h.ok.len
  have := h.ok.le
  omega
theorem ev_way_len {σ : L2.St} {te : TE} {w : Addr} {c : Ch} (h : WayAt K H w c) (ha : Ev te σ H (.ref w)) : Ev (tCB (KX.rLenO (ga K "Way") (sp_way_len K)) (tCons te tNil)) σ H (.int (c.n : Int)) := by
  obtain ⟨h1, h2⟩ := h.bound
  have h' := h
  obtain ⟨_, _, _, _, _, g⟩ := h'
  exact ev_lenO ha g.ins (sv_way_len h) (by omega) (by omega)
theorem ev_way_get {σ : L2.St} {ta tb : TE} {w dx n l : Addr} {c : Ch} {as bs : List V} {i : Nat} {z : V} (h : WayD K H w c dx n l as bs) (hi : as[i]? = some z) (ha : Ev ta σ H (.ref w)) (hb : Ev tb σ H (.int (i : Int))) : Ev (tOp (KX.rIxO (ga K "Way") (sp_way_get K)) ta tb) σ H z := ev_ixO ha hb h.ins (sv_way_get h hi)
/-- the deed of a node -/
theorem WayD.deed {w dx n l : Addr} {c : Ch} {as bs : List V} (h : WayD K H w c dx n l as bs) {i : Nat} (hi : i < c.n) : ∃ a, as[i]? = some (.ref a) ∧ DeedAt H a (c.d i) := h.nodes.2.2 i hi
def sp_way_into (K : PySem.W.Frag) : Sp := SpNew fun vs H o => ∃ (w : Addr) (c : Ch) (dx n l : Addr) (as bs : List V) (i : Nat), vs = [.ref w, .int (i : Int)] ∧ WayD K H w c dx n l as bs ∧ i < c.n ∧ o = .lst (intoL bs i)
theorem sn_way_into {w dx n l : Addr} {c : Ch} {as bs : List V} {i : Nat} (h : WayD K H w c dx n l as bs) (hi : i < c.n) : SpN (sp_way_into K) [.ref w, .int (i : Int)] H (.lst (intoL bs i)) := sn_of fun _ e => ⟨w, c, dx, n, l, as, bs, i, rfl, h.mono e, hi, rfl⟩
theorem WayD.into_eq {w dx n l : Addr} {c : Ch} {as bs : List V} (h : WayD K H w c dx n l as bs) {i : Nat} (hi : i < c.n) : given bs.length (fun k => decide ((k : Int) + 1 = (i : Int))) (fun k => bs.getD k .non) = intoL bs i := by
  have h1 := h.ok.len
  have h2 := h.arrs.2.1
  rw [given_one, intoL]
  by_cases z : i = 0
  · rw [if_pos z, if_neg (by omega)]
  · rw [if_neg z, if_pos (by omega)]
-- slots of Way.into: 0 self 1 node 2 arrow
theorem sc_Way_into : FnScope ["self", "node", "arrow"] ["self", "node"] (defScope (inClass (top 52) 7)) := ⟨rfl, rfl, rfl, by decide +kernel, rfl, by decide +kernel, by decide +kernel⟩
theorem k_Way_into (T : Txt K mg)  : Met P w K mg base 1 (ga K "Way") "into" (sp_way_into K) := by
  refine At.met (sp := (sp_way_into K)) ?_ T.c_Way T.me_Way_into
  refine at_ok T.d_Way_into sc_Way_into (fun _ _ _ _ _ _ us hl => match us, hl with | [_, _], _ => rfl) (fun vs H Q E h => ?_) (fun cdv A outer s H vs Q E hr h => ?_)
  · obtain ⟨o, ⟨w, c, dx, n, l, as, bs, i, rfl, h, hi, rfl⟩, k⟩ := h
    rfl
  · obtain ⟨o, ⟨w, c, dx, n, l, as, bs, i, rfl, h, hi, rfl⟩, k⟩ := h
    have hu := hu_of hr
    refine ⟨_, (pss_one (ps_ret (pe_lc rfl sc_Way_into.nd (piL K (pfld K (pv 0))) (blkOk_by (own := [("arrow", 2)]) (N := ["self", "node", "arrow"]) (sc := defScope (inClass (top 52) 7)) (by decide +kernel)) (fun _ _ _ _ _ => pg_name (i := 2) sc_Way_into.nd rfl (Or.inl rfl)) (fun _ _ _ _ _ => pts_one (PW.pt (pw_and (pt_cmpR op_eq (pe_ix (ixT K) (pv 2) pe_int (fun _ _ => rfl)) (pv 1) (by rfl)) (pw_and1 (pt_cmpR op_ne (pe_ix (ixT K) (pv 2) pe_int (fun _ _ => rfl)) pe_str (by rfl)))))) (fun _ _ _ _ _ => (pv 2))))), ?_⟩
    have ha := h.fa T (σ := start ["self", "node", "arrow"] [.ref w, .int (i : Int)]) (te := tVar 0) (ev_var rfl)
    have hlen := h.arrs.2.1
    have hle := h.ok.le
    rw [← h.into_eq hi] at k
    refine s_retL (el_lcL (fun k => decide ((k : Int) + 1 = (i : Int))) (fun k => bs.getD k .non) ha (SqL.of h.arrs.1) (by omega) (fun _ => rfl) (fun j x H1 e1 hj => ?_) (fun j x H1 e1 hj _ => ?_)) k
    · have hj' : j < c.ts.length := by
        rw [← hlen]
        exact (List.getElem?_eq_some_iff.mp hj).1
      obtain ⟨b, hb, hbt⟩ := h.arrs.2.2 j hj'
      rw [hj] at hb
      cases hb
      have hbt := e1 _ _ hbt
      refine et_is (et_and (a := decide ((j : Int) + 1 = (i : Int))) (b := true) ?_ fun _ => ?_) (Bool.and_true _)
      · refine et_is (et_test (ev_op (ev_op (ev_var rfl) ev_c (rv_ixT (SqT.of hbt) rfl)) (ev_var rfl) (rv_eq rfl))) ?_
        exact decide_eq_decide.mpr ⟨fun z => by injection z, fun z => by rw [z]⟩
      · exact et_is (et_test (ev_op (ev_op (ev_var rfl) ev_c (rv_ixT (SqT.of hbt) rfl)) ev_c (rv_ne rfl))) (by decide +kernel)
    · refine ev_is (ev_var rfl) ?_
      rw [List.getD_eq_getElem?_getD, hj]
      rfl
def sp_way_arrows (K : PySem.W.Frag) : Sp := SpNew fun vs H o => ∃ (w : Addr) (c : Ch) (dx n l : Addr) (as bs : List V), vs = [.ref w] ∧ WayD K H w c dx n l as bs ∧ o = .lst bs
theorem sn_way_arrows {w dx n l : Addr} {c : Ch} {as bs : List V} (h : WayD K H w c dx n l as bs) : SpN (sp_way_arrows K) [.ref w] H (.lst bs) := sn_of fun _ e => ⟨w, c, dx, n, l, as, bs, rfl, h.mono e, rfl⟩
-- slots of Way.arrows: 0 self
theorem sc_Way_arrows : FnScope ["self"] ["self"] (defScope (inClass (top 52) 2)) := ⟨rfl, rfl, rfl, by decide +kernel, rfl, by decide +kernel, by decide +kernel⟩
theorem k_Way_arrows (T : Txt K mg)  : Met P w K mg base 1 (ga K "Way") "arrows" (sp_way_arrows K) := by
  refine At.met (sp := (sp_way_arrows K)) ?_ T.c_Way T.me_Way_arrows
  refine at_ok T.d_Way_arrows sc_Way_arrows (fun _ _ _ _ _ _ us hl => match us, hl with | [_], _ => rfl) (fun vs H Q E h => ?_) (fun cdv A outer s H vs Q E hr h => ?_)
  · obtain ⟨o, ⟨w, c, dx, n, l, as, bs, rfl, h, rfl⟩, k⟩ := h
    rfl
  · obtain ⟨o, ⟨w, c, dx, n, l, as, bs, rfl, h, rfl⟩, k⟩ := h
    have hu := hu_of hr
    refine ⟨_, (pss_one (ps_ret (pe_callTy call_list_of (by rfl) T.b_list boot_list (pa_cons (pfld K (pv 0)) pa_nil)))), ?_⟩
    exact s_retL (el_list (h.fa T (ev_var rfl)) (SqL.of h.arrs.1)) k
def sp_check_way (K : PySem.W.Frag) : Sp := SpVal fun vs H z => ∃ (w : Addr) (c : Ch), vs = [.ref w] ∧ WayAt K H w c ∧ z = .non
theorem sv_check_way {w : Addr} {c : Ch} (h : WayAt K H w c) : SpV (sp_check_way K) [.ref w] H .non := sv_of fun _ e => ⟨w, c, rfl, h.mono e, rfl⟩
-- slots of check_way: 0 value
theorem sc_check_way : FnScope ["value"] ["value"] (defScope (top 53)) := ⟨rfl, rfl, rfl, by decide +kernel, rfl, by decide +kernel, by decide +kernel⟩
theorem k_check_way (T : Txt K mg)  : Cal P w K mg base 1 "check_way" (sp_check_way K) := by
  refine cal_of T.d_check_way T.g_check_way sc_check_way (fun _ _ _ _ _ _ us hl => match us, hl with | [_], _ => rfl) (fun vs H Q E h => ?_) (fun cdv A outer s H vs Q E hr h => ?_)
  · obtain ⟨z, ⟨w, c, rfl, ⟨dx, n, l, as, bs, h⟩, rfl⟩, k⟩ := h
    rfl
  · obtain ⟨z, ⟨w, c, rfl, ⟨dx, n, l, as, bs, h⟩, rfl⟩, k⟩ := h
    have hu := hu_of hr
    refine ⟨_, (pss_one (ps_if (pt_not (pt_val (pe_callB (C8.call_isC T.is_Way) (by rfl) T.b_isinstance boot_isinstance (pa_cons (pv 0) (pa_cons (pgo T.g_Way) pa_nil))))) (pss_one ps_never) pss_nil)), ?_⟩
    exact s_not (et_is (et_not (et_B (ev_isC (ea_cons (ev_var rfl) (ea_cons ev_c ea_nil)) h.ins))) rfl) k
def sp_check_node (K : PySem.W.Frag) : Sp := SpVal fun vs H z => ∃ (w : Addr) (c : Ch) (i : Nat), vs = [.ref w, .int (i : Int)] ∧ WayAt K H w c ∧ i < c.n ∧ z = .non
theorem sv_check_node {w : Addr} {c : Ch} {i : Nat} (h : WayAt K H w c) (hi : i < c.n) : SpV (sp_check_node K) [.ref w, .int (i : Int)] H .non := sv_of fun _ e => ⟨w, c, i, rfl, h.mono e, hi, rfl⟩
-- slots of check_node: 0 way 1 node
theorem sc_check_node : FnScope ["way", "node"] ["way", "node"] (defScope (top 54)) := ⟨rfl, rfl, rfl, by decide +kernel, rfl, by decide +kernel, by decide +kernel⟩
theorem k_check_node (T : Txt K mg) (c_is_between : Cal P w K mg base 2 "is_between" sp_is_between) (c_len : Lno P w K mg base 1 (ga K "Way") (sp_way_len K)) : Cal P w K mg base 3 "check_node" (sp_check_node K) := by
  refine cal_of T.d_check_node T.g_check_node sc_check_node (fun _ _ _ _ _ _ us hl => match us, hl with | [_, _], _ => rfl) (fun vs H Q E h => ?_) (fun cdv A outer s H vs Q E hr h => ?_)
  · obtain ⟨z, ⟨w, c, i, rfl, h, hi, rfl⟩, k⟩ := h
    rfl
  · obtain ⟨z, ⟨w, c, i, rfl, h, hi, rfl⟩, k⟩ := h
    have hu := hu_of hr
    refine ⟨_, (pss_one (ps_if (pt_not (pt_val (pcal c_is_between hr (pa_cons (pv 1) (pa_cons pe_int (pa_cons (pe_op op_sub (plen c_len hr T.b_len (pa_cons (pv 0) pa_nil)) pe_int) pa_nil)))))) (pss_one ps_never) pss_nil)), ?_⟩
    have hn := ev_way_len h (σ := start ["way", "node"] [.ref w, .int (i : Int)]) (te := tVar 0) (ev_var rfl)
    have bd : (0 : Int) ≤ (i : Int) ∧ (i : Int) ≤ (c.n : Int) - 1 := by omega
    exact s_not (by walk_at "etr") k
def sp_is_arrow : Sp := SpVal fun vs H z => ∃ (b l : Addr) (c : Ch) (as : List V) (i : Nat), vs = [.ref b, .ref l] ∧ NodesAt H l c.ds as ∧ c.Ok ∧ i < c.ts.length ∧ H b = some (.tup (arrV c i)) ∧ z = .bl true
theorem sv_is_arrow {b l : Addr} {c : Ch} {as : List V} {i : Nat} (h : NodesAt H l c.ds as) (ok : c.Ok) (hi : i < c.ts.length) (hb : H b = some (.tup (arrV c i))) : SpV sp_is_arrow [.ref b, .ref l] H (.bl true) := sv_of fun _ e => ⟨b, l, c, as, i, rfl, h.mono e, ok, hi, e _ _ hb, rfl⟩
-- slots of is_arrow: 0 value 1 nodes 2 word
theorem sc_is_arrow : FnScope ["value", "nodes", "word"] ["value", "nodes"] (defScope (top 50)) := ⟨rfl, rfl, rfl, by decide +kernel, rfl, by decide +kernel, by decide +kernel⟩
theorem k_is_arrow (T : Txt K mg) (c_is_between : Cal P w K mg base 2 "is_between" sp_is_between) (c_is_time : Cal P w K mg base 3 "is_time" sp_is_time) (c_is_part_of : Cal P w K mg base 1 "is_part_of" (sp_is_part_of K)) (c_makes : Cal P w K mg base 5 "makes" sp_makes) : Cal P w K mg base 6 "is_arrow" sp_is_arrow := by
  refine cal_of T.d_is_arrow T.g_is_arrow sc_is_arrow (fun _ _ _ _ _ _ us hl => match us, hl with | [_, _], _ => rfl) (fun vs H Q E h => ?_) (fun cdv A outer s H vs Q E hr h => ?_)
  · obtain ⟨z, ⟨b, l, c, as, i, rfl, h, ok, hi, hb, rfl⟩, k⟩ := h
    rfl
  · obtain ⟨z, ⟨b, l, c, as, i, rfl, h, ok, hi, hb, rfl⟩, k⟩ := h
    have hu := hu_of hr
    refine ⟨_, (pss_cons (ps_if (PW.pt (pw_or (pt_not (pt_val (pe_callB (cisi K) (by rfl) T.b_isinstance boot_isinstance (pa_cons (pv 0) (pa_cons (pty T.b_tuple boot_tuple) pa_nil))))) (pw_or1 (pt_cmpR (onotinS K) (pe_callB (clen K) (by rfl) T.b_len boot_len (pa_cons (pv 0) pa_nil)) (pe_tup (pa_cons pe_int (pa_cons pe_int pa_nil))) (by rfl))))) (pss_one (ps_ret pe_bl)) pss_nil)
      (pss_cons (ps_if (PW.pt (pw_or (pt_not (pt_val (pcal c_is_between hr (pa_cons (pe_ix (ixT K) (pv 0) pe_int (fun _ _ => rfl)) (pa_cons pe_int (pa_cons (pe_op op_sub (pe_callB (clen K) (by rfl) T.b_len boot_len (pa_cons (pv 1) pa_nil)) pe_int) pa_nil)))))) (pw_or1 (pt_not (pt_val (pcal c_is_between hr (pa_cons (pe_ix (ixT K) (pv 0) pe_int (fun _ _ => rfl)) (pa_cons pe_int (pa_cons (pe_op op_sub (pe_callB (clen K) (by rfl) T.b_len boot_len (pa_cons (pv 1) pa_nil)) pe_int) pa_nil))))))))) (pss_one (ps_ret pe_bl)) pss_nil)
      (pss_cons (ps_if (PW.pt (pw_or (pt_not (pt_val (pcal c_is_time hr (pa_cons (pe_ix (ixT K) (pv 0) pe_int (fun _ _ => rfl)) pa_nil)))) (pw_or1 (PW.pt (pw_and (pt_cmpR op_notN (pe_ix (ixT K) (pv 0) pe_int (fun _ _ => rfl)) pe_non (by rfl)) (pw_and1 (PW.pt (pw_or (pt_not (pt_val (pcal c_is_time hr (pa_cons (pe_ix (ixT K) (pv 0) pe_int (fun _ _ => rfl)) pa_nil)))) (pw_or1 (pt_cmpR op_lt (pe_ix (ixT K) (pv 0) pe_int (fun _ _ => rfl)) (pe_ix (ixT K) (pv 0) pe_int (fun _ _ => rfl)) (by rfl))))))))))) (pss_one (ps_ret pe_bl)) pss_nil)
      (pss_cons (ps_set (i := 2) sc_is_arrow.nd rfl (by first | exact Or.inl rfl | exact Or.inr rfl) (pe_ifExp (pt_cmpR op_eq (pe_callB (clen K) (by rfl) T.b_len boot_len (pa_cons (pv 0) pa_nil)) pe_int (by rfl)) (pe_ix (ixT K) (pv 0) pe_int (fun _ _ => rfl)) pe_str))
      (pss_one (ps_ret (pe_and (pcal c_is_part_of hr (pa_cons (pv 2) (pa_cons (pgo T.g_WORDS) pa_nil))) (pe_one (pe_cmpR op_eq (pe_cmpR op_eq (pv 2) pe_str (by rfl)) (pcal c_makes hr (pa_cons (pe_ix (ixL K) (pv 1) (pe_ix (ixT K) (pv 0) pe_int (fun _ _ => rfl)) (fun _ _ => rfl)) pa_nil)) (by rfl)))))))))), ?_⟩
    unfold arrV at hb
    have ht := ok.tok i hi
    have hlen : as.length = c.n := h.2.1
    have hl := ok.len
    have hq := h.1
    have b1 : (0 : Int) ≤ (i : Int) ∧ (i : Int) ≤ (as.length : Int) - 1 := by omega
    have b2 : (0 : Int) ≤ (i : Int) + 1 ∧ (i : Int) + 1 ≤ (as.length : Int) - 1 := by omega
    have b3 : 1 ≤ c.lo i ∧ c.lo i ≤ 1000000000 := by omega
    have b4 : 1 ≤ c.hi i ∧ c.hi i ≤ 1000000000 := by omega
    obtain ⟨a, ha, hd⟩ := h.2.2 (i + 1) (show i + 1 < c.n by omega)
    have hmk : (c.ds.getD (i + 1) .read).makes = false := ok.rest (i + 1) (by omega) (by omega)
    refine q_not (by walk_at "etr") fun H1 e1 => ?_
    have hb1 := e1 _ _ hb
    have hq1 := e1 _ _ hq
    refine q_not (by walk_at "etr") fun H2 e2 => ?_
    have hb2 := e2 _ _ hb1
    refine q_not (et_is (et_or (a := false) (by walk_at "etr") fun _ => et_and (a := true) (by walk_at "etr") fun _ => et_or (a := false) (by walk_at "etr") fun _ => et_is (b := false) (by walk_at "et") (decide_eq_false (by omega))) rfl) fun H3 e3 => ?_
    have hb3 := e3 _ _ hb2
    refine q_asg (v := .str "") (ev_if (b := false) (by walk_at "etr") (fun z => nomatch z) fun _ => ev_c) fun H4 e4 => ?_
    have hb4 := e4 _ _ hb3
    have hq4 := e4 _ _ (e3 _ _ (e2 _ _ hq1))
    have hd4 := (((hd.mono e1).mono e2).mono e3).mono e4
    refine s_ret (v := .bl true) ?_ fun H5 e5 => k H5 ((((e1.trans e2).trans e3).trans e4).trans e5)
    refine ev_is (ev_andV (a := true) (b := true) (ev_is (by walk_at "ev") (by decide +kernel)) fun _ => ?_) rfl
    refine ev_is (ev_op (x := .bl false) (y := .bl false) (ev_is (by walk_at "ev") (by decide +kernel)) ?_ (rv_eq rfl)) (by decide +kernel)
    refine ev_is (ev_call (ea_cons (ev_op (ev_var rfl) (ev_op (ev_var rfl) ev_c (rv_ixT (SqT.of hb4) rfl)) (rv_ixL (SqL.of hq4) (atI_nat ha))) ea_nil) (sv_makes hd4)) ?_
    rw [hmk]
end
end K57
-- part D5
/-! Ways, made. -/
namespace K57
open PySem PySem.Spec PyProof.Rows L2 He Evl
local macro_rules | `(tactic| walk_at "hp") => `(tactic| first | assumption | exact SqT.of (by assumption) | exact SqL.of (by assumption) | exact Txt.t_PLAIN (by assumption) _ | exact Txt.t_MARKS (by assumption) _ | exact Txt.t_WORDS (by assumption) _ | exact Txt.t_PARTS (by assumption) _)
local macro_rules | `(tactic| walk_at "kit") => `(tactic| first | exact kit_ii | exact kit_ib | exact kit_bb | exact kit_tt | exact kit_ss | exact kit_ll)
local macro_rules | `(tactic| walk_at "ty") => `(tactic| first | exact ty_int _ | exact ty_bl _ | exact ty_str _ | exact ty_tup (by assumption) | exact ty_lst (by assumption))
local macro_rules | `(tactic| walk_at "rv") => `(tactic| first | exact rv_I0 | exact rv_I (by decide) | exact rv_I (by assumption) | exact rv_eq rfl | exact rv_ne rfl | exact rv_isN | exact rv_notN | exact rv_ixT (by walk_at "hp") rfl | exact rv_ixL (by walk_at "hp") rfl | exact rv_ixT (by walk_at "hp") (by assumption) | exact rv_ixL (by walk_at "hp") (by assumption) | exact rv_isT (by walk_at "hp") rfl rfl)
local macro_rules | `(tactic| walk_at "ea") => `(tactic| first | exact ea_nil | (refine' ea_cons ?a ?b; (case a => walk_at "ev"); (case b => walk_at "ea")))
local macro_rules | `(tactic| walk_at "eu") => `(tactic| (refine' eu_tup ?a ?b; (case a => walk_at "ea"); (case b => (show List.length _ ≤ 100000; simp only [List.length_cons, List.length_nil]; decide))))
local macro_rules | `(tactic| walk_at "ev") => `(tactic| first
  | exact ev_var rfl
  | exact ev_c
  | (refine' ev_andV ?a (fun _ => ?b); (case a => walk_at "ev"); (case b => walk_at "ev"))
  | (refine' ev_orV ?a (fun _ => ?b); (case a => walk_at "ev"); (case b => walk_at "ev"))
  | (refine' ev_notV ?a; (case a => walk_at "ev"))
  | (refine' ev_chain ?a ?b ?c ?d ?e; (case a => walk_at "ev"); (case b => walk_at "ev"); (case c => walk_at "rv"); (case d => walk_at "ev"); (case e => walk_at "rv"))
  | (refine' ev_isi ?a ?c ?t ?e; (case a => walk_at "ea"); (case c => first | exact ClsV.ty _ | exact ClsV.own _); (case t => walk_at "ty"); (case e => walk_at "kit"))
  | (refine' ev_call ?a ?s; (case a => walk_at "ea"); (case s => walk_at "sv"))
  | (refine' ev_inU ?a ?b ?c ?d; (case a => walk_at "ev"); (case b => walk_at "eu"); (case c => rfl); (case d => rfl))
  | (refine' ev_niU ?a ?b ?c ?d; (case a => walk_at "ev"); (case b => walk_at "eu"); (case c => rfl); (case d => rfl))
  | (refine' ev_op ?a ?b ?r; (case a => walk_at "ev"); (case b => walk_at "ev"); (case r => walk_at "rv"))
  | (refine' ev_un ?a ru_neg; (case a => walk_at "ev"))
  | (refine' ev_len2 ?a ?b; (case a => walk_at "ev"); (case b => first | exact Or.inl (by walk_at "hp") | exact Or.inr (by walk_at "hp")))
  | (refine' ev_int1 ?a; (case a => walk_at "ev"))
  | (refine' ev_intB ?a; (case a => walk_at "ev")))
local macro_rules | `(tactic| walk_at "evr") => `(tactic| (refine' ev_is ?h ?e; (case h => walk_at "ev"); (case e => first | kernel_rfl | rfl)))
local macro_rules | `(tactic| walk_at "et") => `(tactic| first
  | (refine' et_and ?a (fun _ => ?b); (case a => walk_at "et"); (case b => walk_at "et"))
  | (refine' et_or ?a (fun _ => ?b); (case a => walk_at "et"); (case b => walk_at "et"))
  | (refine' et_not ?a; (case a => walk_at "et"))
  | (refine' et_test ?a; (case a => walk_at "ev"))
  | (refine' et_B ?a; (case a => walk_at "ev")))
local macro_rules | `(tactic| walk_at "etr") => `(tactic| (refine' et_is ?h ?e; (case h => walk_at "et"); (case e => first | kernel_rfl | rfl)))
local macro_rules | `(tactic| walk_at "eps") => `(tactic| first | exact EvPs.nil | (refine' EvPs.cons (k := Sum.inr _) ?a ?b ?c; (case a => walk_at "ev"); (case b => walk_at "ev"); (case c => walk_at "eps")))
local macro_rules | `(tactic| walk_at "en") => `(tactic| first | exact en_dnew | (refine' en_disp ?a ?b ?c; (case a => walk_at "eps"); (case b => (show List.length _ ≤ 15; simp only [List.length_cons, List.length_nil]; decide)); (case c => rfl)))
local macro_rules | `(tactic| walk_at "sv") => `(tactic| exact sv_is_whole)
local macro_rules | `(tactic| walk_at "sv") => `(tactic| exact sv_is_between)
local macro_rules | `(tactic| walk_at "sv") => `(tactic| exact sv_is_listed (by assumption))
local macro_rules | `(tactic| walk_at "sv") => `(tactic| exact sv_is_part_of (by walk_at "hp") rfl)
local macro_rules | `(tactic| walk_at "sv") => `(tactic| exact sv_is_time)
local macro_rules | `(tactic| walk_at "sv") => `(tactic| exact sv_is_deed (by assumption))
local macro_rules | `(tactic| walk_at "sv") => `(tactic| exact sv_makes (by assumption))
local macro_rules | `(tactic| walk_at "sv") => `(tactic| exact sv_is_looks (by assumption) (by assumption))
local macro_rules | `(tactic| walk_at "sv") => `(tactic| exact sv_check_rule (by assumption))
local macro_rules | `(tactic| walk_at "sv") => `(tactic| exact sv_is_more)
local macro_rules | `(tactic| walk_at "sv") => `(tactic| exact sv_is_between_t (by omega))
local macro_rules | `(tactic| walk_at "sv") => `(tactic| exact sv_is_between_t (by assumption))
local macro_rules | `(tactic| walk_at "sv") => `(tactic| exact sv_is_time_t (by omega))
local macro_rules | `(tactic| walk_at "sv") => `(tactic| exact sv_is_time_t (by assumption))
local macro_rules | `(tactic| walk_at "sv") => `(tactic| exact sv_check_way (by assumption))
local macro_rules | `(tactic| walk_at "sv") => `(tactic| exact sv_check_node (by assumption) (by assumption))
section
variable {P : Program} {w : World} {K : PySem.W.Frag} {mg : Str → Option Value} {base : Heap} {H : Hp}
local macro_rules | `(tactic| walk_at "ev") => `(tactic| assumption)
def mk (n k : Nat) : List V := (List.range n).map fun i => V.bl (decide (i ≤ k))
theorem mk_len (n k : Nat) : (mk n k).length = n := by rw [mk, List.length_map, List.length_range]
theorem mk_at {n k i : Nat} (h : i < n) : (mk n k)[i]? = some (.bl (decide (i ≤ k))) := by
  rw [mk, List.getElem?_map, List.getElem?_range h]
  rfl
theorem mk_set {n k j : Nat} (h : j ≤ k) (hj : j + 1 < n) : (mk n k).set (j + 1) (.bl true) = mk n (max k (j + 1)) := by
  apply List.ext_getElem?
  intro i
  rw [List.getElem?_set, mk_len]
  by_cases hi : i < n
  · rw [mk_at hi, mk_at hi]
    by_cases e : j + 1 = i
    · rw [if_pos e, if_pos hj, decide_eq_true (by omega)]
    · rw [if_neg e]
      exact congrArg (fun b => some (V.bl b)) (decide_eq_decide.mpr (by omega))
  · rw [List.getElem?_eq_none (by rw [mk_len]; omega), List.getElem?_eq_none (by rw [mk_len]; omega), if_neg (by omega)]
theorem mk_all (n : Nat) : ∀ k : Nat, n = k + 1 → ∀ i, i < n → (mk n k)[i]? = some (.bl true) := fun k h i hi => by
  rw [mk_at hi, decide_eq_true (by omega)]
theorem given_all {n : Nat} {v : Nat → V} : given n (fun _ => true) v = (List.range n).map v := by
  unfold given
  rw [List.filter_eq_self.mpr fun _ _ => rfl]
theorem et_tYes {σ : L2.St} : EvT tYes σ H true := fun H1 _ _ q => q H1 (Ex.refl H1)
def sp_reached (K : PySem.W.Frag) : Sp := SpNew fun vs H o => ∃ (l q : Addr) (c : Ch) (as bs : List V), vs = [.ref l, .ref q] ∧ NodesAt H l c.ds as ∧ c.Ok ∧ ArrsAt H q c [.str ""] bs ∧ o = .lst (mk c.n (c.n - 1))
theorem sn_reached {l q : Addr} {c : Ch} {as bs : List V} (h : NodesAt H l c.ds as) (ok : c.Ok) (ha : ArrsAt H q c [.str ""] bs) : SpN (sp_reached K) [.ref l, .ref q] H (.lst (mk c.n (c.n - 1))) := sn_of fun _ e => ⟨l, q, c, as, bs, rfl, h.mono e, ok, ha.mono e, rfl⟩
def ReI (l q f : Addr) (H0 : Hp) (n lo : Nat) (full : Prop) (σ : L2.St) (H' : Hp) : Prop := ∃ (v4 v5 v6 v7 v8 v9 : Option V) (k : Nat), σ = [some (.ref l), some (.ref q), some (.ref f), none, v4, v5, v6, v7, v8, v9] ∧ Ex H0 H' ∧ lo ≤ k ∧ k < n ∧ (full → k = n - 1) ∧ H' f = some (.lst (mk n k))
-- slots of reached_from: 0 nodes 1 arrows 2 found 3 node 4 turn 5 start 6 goal 7 least 8 most 9 word
theorem sc_reached_from : FnScope ["nodes", "arrows", "found", "node", "turn", "start", "goal", "least", "most", "word"] ["nodes", "arrows"] (defScope (top 51)) := ⟨rfl, rfl, rfl, by decide +kernel, rfl, by decide +kernel, by decide +kernel⟩
theorem k_reached_from (T : Txt K mg) (c_makes : Cal P w K mg base 5 "makes" sp_makes) : Cal P w K mg base 6 "reached_from" (sp_reached K) := by
  refine cal_of T.d_reached_from T.g_reached_from sc_reached_from (fun _ _ _ _ _ _ us hl => match us, hl with | [_, _], _ => rfl) (fun vs H Q E h => ?_) (fun cdv A outer s H vs Q E hr h => ?_)
  · obtain ⟨o, ⟨l, q, c, as, bs, rfl, h, ok, ha, rfl⟩, k⟩ := h
    rfl
  · obtain ⟨o, ⟨l, q, c, as, bs, rfl, h, ok, ha, rfl⟩, k⟩ := h
    have hu := hu_of hr
    refine ⟨_, (pss_cons (ps_setLc (i := 2) rfl sc_reached_from.nd rfl rfl (sw_true rfl rfl rfl (by decide +kernel)) (piL K (pv 0)) (blkOk_by (own := [("node", 3)]) (N := ["nodes", "arrows", "found", "node", "turn", "start", "goal", "least", "most", "word"]) (sc := defScope (top 51)) (by decide +kernel)) (fun _ _ _ _ _ => pg_name (i := 3) sc_reached_from.nd rfl (Or.inl rfl)) (fun _ _ _ _ _ => pts_nil) (fun _ _ _ _ _ => (pcal c_makes hr (pa_cons (pv 3) pa_nil))))
      (pss_cons (ps_for PassesOwn.never rfl (pi_range1 (by rfl) T.b_range (pa_cons (pe_callB (clen K) (by rfl) T.b_len boot_len (pa_cons (pv 0) pa_nil)) pa_nil)) (pg_name (i := 4) sc_reached_from.nd rfl (by first | exact Or.inl rfl | exact Or.inr rfl))
      (pss_one (ps_for PassesOwn.never rfl (piL K (pv 1)) (pg_tup rfl (pgs_cons (pg_name (i := 5) sc_reached_from.nd rfl (by first | exact Or.inl rfl | exact Or.inr rfl)) (pgs_cons (pg_name (i := 6) sc_reached_from.nd rfl (by first | exact Or.inl rfl | exact Or.inr rfl)) (pgs_cons (pg_name (i := 7) sc_reached_from.nd rfl (by first | exact Or.inl rfl | exact Or.inr rfl)) (pgs_cons (pg_name (i := 8) sc_reached_from.nd rfl (by first | exact Or.inl rfl | exact Or.inr rfl)) (pgs_cons (pg_name (i := 9) sc_reached_from.nd rfl (by first | exact Or.inl rfl | exact Or.inr rfl)) pgs_nil))))))
      (pss_one (ps_if (PW.pt (pw_and (pt_val (pe_ix (ixL K) (pv 2) (pv 5) (fun _ _ => rfl))) (pw_and1 (pt_cmpR op_ne (pv 9) pe_str (by rfl))))) (pss_one (ps_asg pe_bl (pg_sub (pv 2) (pv 6) set_list))) pss_nil)))))
      (pss_one (ps_ret (pv 2))))), ?_⟩
    have hlen : as.length = c.n := h.2.1
    have hn := ok.len
    have hle := ok.le
    have lc : EvL (tLc (iList K (tVar 0)) (gName 3) tYes (tCall sp_makes [] E0 (tCons (tVar 3) tNil)) [3]) (start ["nodes", "arrows", "found", "node", "turn", "start", "goal", "least", "most", "word"] [.ref l, .ref q]) H (mk c.n 0) := by
      have z := el_lcL (K := K) (σ := start ["nodes", "arrows", "found", "node", "turn", "start", "goal", "least", "most", "word"] [.ref l, .ref q]) (te := tCall sp_makes [] E0 (tCons (tVar 3) tNil)) (t := tYes) (j := 3) (vs := [3]) (fun _ => true) (fun i => .bl (decide (i ≤ 0))) (ev_var (i := 0) rfl) (SqL.of h.1) (by omega) (fun _ => rfl) (fun _ _ _ _ _ => et_tYes) (fun i x H1 e1 hi _ => ?_)
      · rw [given_all, hlen] at z
        exact z
      · have hi' : i < c.ds.length := by
          rw [← h.2.1]
          exact (List.getElem?_eq_some_iff.mp hi).1
        obtain ⟨a, ha', hd⟩ := h.2.2 i hi'
        rw [hi] at ha'
        cases ha'
        refine ev_is (ev_call (ea_cons (ev_var rfl) ea_nil) (sv_makes (hd.mono e1))) ?_
        cases i with
        | zero => rw [show (c.ds.getD 0 .read).makes = true from ok.first]; rfl
        | succ i => rw [show (c.ds.getD (i + 1) .read).makes = false from ok.rest (i + 1) (by omega) hi']; rfl
    refine q_asgL lc fun f H1 hf e1 h1 => ?_
    refine q_forR1 (n := (c.n : Int)) (ea_cons (ev_is (ev_len2 (ev_var rfl) (.inl (SqL.of (e1 _ _ h.1)))) (by rw [hlen])) ea_nil) (by omega) (fun i => ReI l q f H c.n 0 (1 ≤ i)) (fun H2 e2 => ⟨none, none, none, none, none, none, 0, rfl, e1.trans e2, Nat.le_refl _, by omega, fun z => by omega, e2 _ _ h1⟩) ?_ ?_
    · rintro i σ H2 hi ⟨v4, v5, v6, v7, v8, v9, j, rfl, e2, _, hj, hfull, h2⟩
      refine s_forL (ev_var rfl) (SqL.of (ha.mono e2).1) (fun m σ H' => ReI l q f H c.n m (1 ≤ i) σ H') (fun H3 e3 => ⟨_, v5, v6, v7, v8, v9, j, rfl, e2.trans e3, Nat.zero_le _, hj, hfull, e3 _ _ h2⟩) (fun m σ H' _ p => ?_) (fun m x σ H' hm p => ?_) (fun σ H' p => ?_)
      · obtain ⟨_, _, _, _, _, _, _, _, e, _⟩ := p
        exact SqL.of (ha.mono e).1
      · obtain ⟨w4, w5, w6, w7, w8, w9, r, rfl, e3, hmr, hr, hfr, h3⟩ := p
        have hm' : m < c.ts.length := by
          rw [← ha.2.1]
          exact (List.getElem?_eq_some_iff.mp hm).1
        obtain ⟨b, hb, hbt⟩ := ha.2.2 m hm'
        rw [hm] at hb
        cases hb
        refine ⟨b, _, rfl, SqT.of (e3 _ _ hbt), rfl, _, _, rfl, _, _, rfl, _, _, rfl, _, _, rfl, _, _, rfl, rfl, ?_⟩
        refine s_yes (et_is (et_and (a := true) (b := true) (et_test (ev_op (ev_var rfl) (ev_var rfl) (rv_ixL (SqL.of h3) (atI_nat (by rw [mk_at (by omega), decide_eq_true hmr]))))) fun _ => by walk_at "etr") rfl) fun H4 e4 => ?_
        refine s_setL (j := m + 1) (e4 _ _ h3) ev_c (ev_var rfl) (ev_var rfl) (by rw [mk_len]; omega) fun H5 e5 => ?_
        rw [mk_set hmr (by omega)]
        exact ⟨_, _, _, _, _, _, max r (m + 1), rfl, Ex.mut ((e3.trans e4).trans e5) hf, by omega, by omega, fun z => by have := hfr z; omega, upd_same⟩
      · obtain ⟨w4, w5, w6, w7, w8, w9, r, rfl, e3, hmr, hr, hfr, h3⟩ := p
        rw [ha.2.1] at hmr
        exact ⟨w4, w5, w6, w7, w8, w9, r, rfl, e3, Nat.zero_le _, hr, fun _ => by omega, h3⟩
    · rintro σ H2 ⟨v4, v5, v6, v7, v8, v9, j, rfl, e2, _, hj, hfull, h2⟩
      have hj' := hfull (by omega)
      subst hj'
      exact s_ret (ev_var rfl) fun H3 e3 => k f H3 hf (e2.trans e3) (e3 _ _ h2)
def pairD (i : Nat) : PyData := .tuple [.int (i : Int), .int ((i : Int) + 1)]
theorem pairs_shaped : ∀ k, k < 8 → SeqAt.shaped (.list ((List.range k).map pairD)) = true := by decide +kernel
theorem pairs_new : ∀ k, k < 8 → ((List.range k).map pairD).any (fun z => PyData.eqv z (pairD k)) = false := by decide +kernel
theorem pair_shaped : ∀ k, k < 8 → SeqAt.shaped (pairD k) = true := by decide +kernel
theorem eu_sl {σ : L2.St} {te : TE} {tl th : TO} {a : Addr} {xs ys : List V} {lo hi : Option Int} (h : Ev te σ H (.ref a)) (h1 : EvO tl σ H lo) (h2 : EvO th σ H hi) (hs : SqT K H a xs) (hw : ¬ (HT.sIx xs.length 0 lo = 0 ∧ HT.sIx xs.length xs.length hi = xs.length)) (hc : cutV xs lo hi = ys) : EvU (tSl (rSlA K) te tl th) σ H ys := fun H1 e _ q =>
  h H1 e _ fun H2 e2 => h1 H2 (e.trans e2) _ fun H3 e3 => h2 H3 ((e.trans e2).trans e3) _ fun H4 e4 => ⟨a, xs, rfl, ex_t (((e.trans e2).trans e3).trans e4) hs, fun z => absurd z hw, fun _ p hp => by
    rw [hc]
    exact q p _ (fresh_back ((e2.trans e3).trans e4) hp) (((e2.trans e3).trans e4).trans (Ex.new hp)) upd_same⟩
theorem ev_opUP {σ : L2.St} {ta tb : TE} {xs : List V} {r : R2} {z : V} {P : V → Hp → Prop} (ha : EvU ta σ H xs) (hb : EvP tb σ H P) (hr : ∀ p v H1, H1 p = some (.tup xs) → P v H1 → Ex H H1 → RV r (.ref p) v H1 z) : Ev (tOp r ta tb) σ H z := fun H1 e Q q =>
  ha H1 e _ fun p H2 hp e2 h2 => hb H2 (e.trans e2) _ fun v H3 e3 pv => hr p v H3 (e3 _ _ h2) pv ((e.trans e2).trans e3) H3 (Ex.refl H3) Q fun H4 e4 => q H4 ((e2.trans e3).trans e4)
abbrev PairR : Nat → V → Hp → Prop := fun k v H => ∃ p, v = .ref p ∧ H p = some (.tup [.int (k : Int), .int ((k : Int) + 1)])
theorem pair_keeps : Keeps PairR := fun i v H H1 e ⟨p, hv, h⟩ => ⟨p, hv, e _ _ h⟩
theorem dp_pair {p : Addr} {k : Nat} (h : H p = some (.tup [.int (k : Int), .int ((k : Int) + 1)])) : Dp K H (.ref p) (pairD k) := .tup (SqT.of h) (.cons (.int _) (.cons (.int _) .nil))
theorem dp_list {R : Nat → PyData} : ∀ (zs : List V) (m : Nat), (∀ k z, zs[k]? = some z → Dp K H z (R (m + k))) → DpAll K H zs ((List.range' m zs.length).map R)
  | [], _, _ => .nil
  | z :: zs, m, h => .cons (h 0 z rfl) (dp_list zs (m + 1) fun k y hk => by
      have := h (k + 1) y hk
      rw [show m + (k + 1) = m + 1 + k by omega] at this
      exact this)
theorem dp_pairs {zs : List V} (h : ∀ k z, zs[k]? = some z → PairR k z H) : DpAll K H zs ((List.range zs.length).map pairD) := by
  rw [List.range_eq_range']
  refine dp_list zs 0 fun k z hk => ?_
  obtain ⟨p, rfl, hp⟩ := h k z hk
  rw [Nat.zero_add]
  exact dp_pair hp
def sp_way_init (K : PySem.W.Frag) : Sp := SpInit (ga K "Way") fun args H P => ∃ (n l : Addr) (c : Ch) (as bs : List V), args = [.ref n, .ref l] ∧ NodesAt H n c.ds as ∧ ArrsAt H l c [] bs ∧ c.Ok ∧ P = fun p dx H' => WayAt K H' p c
/-- the arrows copied so far -/
def FoI (K : PySem.W.Frag) (c : Ch) (s n l f : Addr) (H0 : Hp) (k : Nat) (σ : L2.St) (H' : Hp) : Prop := ∃ (v3 v4 v6 : Option V) (fs : List V), σ = [some (.ref s), some (.ref n), some (.ref l), v3, v4, some (.ref f), v6, none, none] ∧ Ex H0 H' ∧ H' f = some (.lst fs) ∧ fs.length = k ∧ ∀ i, i < k → ∃ b, fs[i]? = some (.ref b) ∧ H' b = some (.tup (arrV c i ++ [.str ""]))
-- slots of Way.__init__: 0 self 1 nodes 2 arrows 3 index 4 node 5 found 6 arrow 7 other 8 is_reached
theorem sc_Way_init : FnScope ["self", "nodes", "arrows", "index", "node", "found", "arrow", "other", "is_reached"] ["self", "nodes", "arrows"] (defScope (inClass (top 52) 0)) := ⟨rfl, rfl, rfl, by decide +kernel, rfl, by decide +kernel, by decide +kernel⟩
theorem k_Way_init (T : Txt K mg) (c_is_listed : Cal P w K mg base 1 "is_listed" sp_is_listed) (c_is_deed : Cal P w K mg base 4 "is_deed" sp_is_deed) (c_is_arrow : Cal P w K mg base 6 "is_arrow" sp_is_arrow) (c_reached_from : Cal P w K mg base 6 "reached_from" (sp_reached K)) : Mak P w K mg base 8 "Way" (ga K "Way") (sp_way_init K) := by
  refine At.mak (sp := (sp_way_init K)) ?_ T.m_Way T.g_Way
  refine at_ok T.d_Way_init sc_Way_init (fun _ _ _ _ _ _ us hl => match us, hl with | [_, _, _], _ => rfl) (fun vs H Q E h => ?_) (fun cdv A outer s H vs Q E hr h => ?_)
  · obtain ⟨s0, dx, args, P0, rfl, hs0, ⟨n, l, c, as, bs, rfl, h, ha, ok, rfl⟩, k⟩ := h
    rfl
  · obtain ⟨s0, dx, args, P0, rfl, hs0, ⟨n, l, c, as, bs, rfl, h, ha, ok, rfl⟩, k⟩ := h
    have hu := hu_of hr
    refine ⟨_, (pss_cons (ps_if (PW.pt (pw_or (pt_not (pt_val (pcal c_is_listed hr (pa_cons (pv 1) pa_nil)))) (pw_or1 (pt_not (pt_chain op_le op_le pe_int (pe_callB (clen K) (by rfl) T.b_len boot_len (pa_cons (pv 1) pa_nil)) (pgi T.i_MOST_NODES)))))) (pss_one ps_never) pss_nil)
      (pss_cons (ps_for PassesOwn.never rfl (pi_enum (by rfl) T.b_enumerate (pa_cons (pv 1) pa_nil)) (pg_tup rfl (pgs_cons (pg_name (i := 3) sc_Way_init.nd rfl (by first | exact Or.inl rfl | exact Or.inr rfl)) (pgs_cons (pg_name (i := 4) sc_Way_init.nd rfl (by first | exact Or.inl rfl | exact Or.inr rfl)) pgs_nil)))
      (pss_one (ps_if (pt_not (pt_val (pcal c_is_deed hr (pa_cons (pv 4) pa_nil)))) (pss_one ps_never) pss_nil)))
      (pss_cons (ps_if (PW.pt (pw_or (pt_not (pt_val (pcal c_is_listed hr (pa_cons (pv 2) pa_nil)))) (pw_or1 (pt_cmpR op_gt (pe_callB (clen K) (by rfl) T.b_len boot_len (pa_cons (pv 2) pa_nil)) (pgi T.i_MOST_ARROWS) (by rfl))))) (pss_one ps_never) pss_nil)
      (pss_cons (ps_set (i := 5) sc_Way_init.nd rfl (by first | exact Or.inl rfl | exact Or.inr rfl) (pe_lst pa_nil))
      (pss_cons (ps_for PassesOwn.never rfl (pi_enum (by rfl) T.b_enumerate (pa_cons (pv 2) pa_nil)) (pg_tup rfl (pgs_cons (pg_name (i := 3) sc_Way_init.nd rfl (by first | exact Or.inl rfl | exact Or.inr rfl)) (pgs_cons (pg_name (i := 6) sc_Way_init.nd rfl (by first | exact Or.inl rfl | exact Or.inr rfl)) pgs_nil)))
      (pss_cons (ps_if (PW.pt (pw_or (pt_not (pt_val (pcal c_is_arrow hr (pa_cons (pv 6) (pa_cons (pv 1) pa_nil))))) (pw_or1 (pt_cmpR (oinD K (r65 hr)) (pe_slice (slT K) (pv 6) po_none (po_some pe_int)) (pe_lc rfl sc_Way_init.nd (piL K (pv 5)) (blkOk_by (own := [("other", 7)]) (N := ["self", "nodes", "arrows", "index", "node", "found", "arrow", "other", "is_reached"]) (sc := defScope (inClass (top 52) 0)) (by decide +kernel)) (fun _ _ _ _ _ => pg_name (i := 7) sc_Way_init.nd rfl (Or.inl rfl)) (fun _ _ _ _ _ => pts_nil) (fun _ _ _ _ _ => (pe_slice (slT K) (pv 7) po_none (po_some pe_int)))) (by rfl))))) (pss_one ps_never) pss_nil)
      (pss_one (ps_expr (pe_bm PySem.F.plainAttrs_list PySem.F.slot_list_append PySem.F.type_list_append mt_append (pv 5) (pa_cons (pe_ifExp (pt_cmpR op_eq (pe_callB (clen K) (by rfl) T.b_len boot_len (pa_cons (pv 6) pa_nil)) pe_int (by rfl)) (pv 6) (pe_tup (pstar K (pv 6) (pa_cons pe_str pa_nil)))) pa_nil))))))
      (pss_cons (ps_for PassesOwn.never rfl (pi_enum (by rfl) T.b_enumerate (pa_cons (pv 5) pa_nil)) (pg_tup rfl (pgs_cons (pg_name (i := 3) sc_Way_init.nd rfl (by first | exact Or.inl rfl | exact Or.inr rfl)) (pgs_cons (pg_name (i := 6) sc_Way_init.nd rfl (by first | exact Or.inl rfl | exact Or.inr rfl)) pgs_nil)))
      (pss_one (ps_if (PW.pt (pw_and (pt_cmpR op_eq (pe_ix (ixT K) (pv 6) pe_int (fun _ _ => rfl)) pe_str (by rfl)) (pw_and1 (pt_not (pt_val (pe_callB (cany K) (by rfl) T.b_any boot_any (pa_cons (pe_lc rfl sc_Way_init.nd (piL K (pv 5)) (blkOk_by (own := [("other", 7)]) (N := ["self", "nodes", "arrows", "index", "node", "found", "arrow", "other", "is_reached"]) (sc := defScope (inClass (top 52) 0)) (by decide +kernel)) (fun _ _ _ _ _ => pg_name (i := 7) sc_Way_init.nd rfl (Or.inl rfl)) (fun _ _ _ _ _ => pts_nil) (fun _ _ _ _ _ => (pe_and (pe_cmpR op_eq (pe_ix (ixT K) (pv 7) pe_int (fun _ _ => rfl)) (pe_ix (ixT K) (pv 6) pe_int (fun _ _ => rfl)) (by rfl)) (pe_one (pe_cmpR op_ne (pe_ix (ixT K) (pv 7) pe_int (fun _ _ => rfl)) pe_str (by rfl)))))) pa_nil))))))) (pss_one ps_never) pss_nil)))
      (pss_cons (ps_for PassesOwn.never rfl (pi_enum (by rfl) T.b_enumerate (pa_cons (pcal c_reached_from hr (pa_cons (pv 1) (pa_cons (pv 5) pa_nil))) pa_nil)) (pg_tup rfl (pgs_cons (pg_name (i := 3) sc_Way_init.nd rfl (by first | exact Or.inl rfl | exact Or.inr rfl)) (pgs_cons (pg_name (i := 8) sc_Way_init.nd rfl (by first | exact Or.inl rfl | exact Or.inr rfl)) pgs_nil)))
      (pss_one (ps_if (pt_not (pt_val (pv 8))) (pss_one ps_never) pss_nil)))
      (pss_cons (ps_fld (pv 0) (pe_callTy call_list_of (by rfl) T.b_list boot_list (pa_cons (pv 1) pa_nil)) rfl)
      (pss_one (ps_fld (pv 0) (pv 5) rfl)))))))))), ?_⟩
    have hlen : as.length = c.n := h.2.1
    have hn := ok.len
    have hle := ok.le
    have hal := ha.2.1
    have hq := h.1
    have hr := ha.1
    refine q_not (et_is (et_or (a := false) (b := false) (by walk_at "etr") fun _ => et_is (et_not (et_test (ev_chain (b := true) (c := true) ev_c (ev_len2 (ev_var rfl) (.inl (SqL.of hq))) ?_ ev_c ?_))) rfl) rfl) fun H1 e1 => ?_
    · have : (V.bl true) = .bl (decide ((1 : Int) ≤ (as.length : Int))) := by rw [decide_eq_true (by omega)]
      rw [this]
      exact rv_I0
    · have : (V.bl true) = .bl (decide ((as.length : Int) ≤ 12)) := by rw [decide_eq_true (by omega)]
      rw [this]
      exact rv_I0
    -- each node a deed
    refine q_forEn (K := K) (ea_cons (ev_var rfl) ea_nil) (SqL.of (e1 _ _ hq)) (fun _ σ H' => ∃ v3 v4, σ = [some (.ref s0), some (.ref n), some (.ref l), v3, v4, none, none, none, none] ∧ Ex H H') (fun H2 e2 => ⟨none, none, rfl, e1.trans e2⟩) (fun _ σ H' _ ⟨_, _, _, e⟩ => SqL.of (e _ _ hq)) (fun i x σ H' H2 hi ⟨v3, v4, hσ, e⟩ e2 => ?_) (fun σ H2 ⟨v3, v4, hσ, e2⟩ => ?_)
    · subst hσ
      have hi' : i < c.ds.length := by
        rw [← h.2.1]
        exact (List.getElem?_eq_some_iff.mp hi).1
      obtain ⟨a, ha', hd⟩ := h.2.2 i hi'
      rw [hi] at ha'
      cases ha'
      have hd2 := hd.mono (e.trans e2)
      exact s_not (by walk_at "etr") fun H3 e3 => ⟨_, _, rfl, (e.trans e2).trans e3⟩
    subst hσ
    have hr2 := e2 _ _ hr
    refine q_not (et_is (et_or (a := false) (b := false) (by walk_at "etr") fun _ => et_is (et_test (ev_op (ev_len2 (ev_var rfl) (.inl (SqL.of hr2))) ev_c rv_I0)) (decide_eq_false (by omega))) rfl) fun H3 e3 => ?_
    refine q_asgL (el_lst ea_nil (by decide)) fun f H4 hf e4 h4 => ?_
    have e24 := (e2.trans e3).trans e4
    have hf0 := fresh_back (e2.trans e3) hf
    -- the arrows, each with its word
    refine q_forEn (K := K) (ea_cons (ev_var rfl) ea_nil) (SqL.of (e24 _ _ hr)) (FoI K c s0 n l f H) (fun H5 e5 => ⟨v3, v4, none, [], rfl, e24.trans e5, e5 _ _ h4, rfl, fun i z => by omega⟩) (fun _ σ H' _ ⟨_, _, _, _, _, e, _⟩ => SqL.of (e _ _ hr)) (fun i x σ H' H5 hi p e5 => ?_) (fun σ H5 p => ?_)
    · obtain ⟨w3, w4, w6, fs, rfl, e, hfs, hfl, hfb⟩ := p
      have e05 := e.trans e5
      have hi' : i < c.ts.length := by
        rw [← ha.2.1]
        exact (List.getElem?_eq_some_iff.mp hi).1
      obtain ⟨b, hb, hbt⟩ := ha.2.2 i hi'
      rw [hi] at hb
      cases hb
      rw [List.append_nil] at hbt
      have hb5 := e05 _ _ hbt
      have hfs5 := e5 _ _ hfs
      have hfb5 : ∀ i, i < fs.length → ∃ b, fs[i]? = some (.ref b) ∧ H5 b = some (.tup (arrV c i ++ [.str ""])) := fun j hj => by
        obtain ⟨b', h1', h2'⟩ := hfb j (by omega)
        exact ⟨b', h1', e5 _ _ h2'⟩
      refine q_not (et_is (et_or (a := false) (b := false) (et_is (et_not (et_test (ev_call (ea_cons (ev_var rfl) (ea_cons (ev_var rfl) ea_nil)) (sv_is_arrow (h.mono e05) ok hi' hb5)))) rfl) fun _ => et_test ?_) rfl) fun H6 e6 => ?_
      · refine ev_opUP (eu_sl (ys := [.int (i : Int), .int ((i : Int) + 1)]) (ev_var rfl) eo_none (eo_some ev_c) (SqT.of hb5) (by show ¬ (HT.sIx 4 0 none = 0 ∧ HT.sIx 4 4 (some 2) = 4); decide) rfl) (ep_lcL pair_keeps (ev_var rfl) (SqL.of hfs5) (by omega) (fun _ => rfl) fun j x H6 Dl zs e6 hD h6 hx => ?_) fun p v H6 hp hv e6 => ?_
        · obtain ⟨b', h1', h2'⟩ := hfb5 j (List.getElem?_eq_some_iff.mp hx).1
          rw [hx] at h1'
          cases h1'
          refine fun H7 e7 Q q => eu_sl (ys := [.int (j : Int), .int ((j : Int) + 1)]) (ev_var rfl) eo_none (eo_some ev_c) (SqT.of (e6 _ _ h2')) (by show ¬ (HT.sIx 5 0 none = 0 ∧ HT.sIx 5 5 (some 2) = 5); decide) rfl H7 e7 Q fun t H8 ht e8 h8 => q _ _ e8 ⟨t, rfl, ?_⟩
          rw [off_ne (fun z => by rw [z, e7 _ _ h6] at ht; cases ht)]
          exact h8
        · obtain ⟨t, zs, rfl, ht, h6, hz, hR⟩ := hv
          intro H7 e7 Q q
          have hall : DpAll K H7 zs ((List.range zs.length).map pairD) := dp_pairs fun k z hk => by
            obtain ⟨u, rfl, hu⟩ := hR k z hk
            exact ⟨u, rfl, e7 _ _ (off_ex _ _ hu)⟩
          rw [hz, hfl] at hall
          refine ⟨_, _, dp_pair (e7 _ _ hp), .lst (SqL.of (e7 _ _ h6)) hall, pair_shaped i (by omega), pairs_shaped i (by omega), ?_⟩
          rw [pairs_new i (by omega)]
          exact q H7 (Ex.refl H7)
      · have hb6 := e6 _ _ hb5
        refine s_appU (e6 _ _ hfs5) (ev_var rfl) (xs := fs) (ys := arrV c i ++ [.str ""]) ?_ (by omega) fun t H7 ht e7 h7 => ?_
        · intro H7 e7 Q q
          refine et_is (b := false) (et_test (ev_op (ev_len2 (ev_var rfl) (.inr (SqT.of hb6))) ev_c (rv_eq rfl))) (by unfold arrV; kernel_rfl) H7 e7 _ fun H8 e8 => ?_
          refine iteF ?_
          refine ⟨_, rfl, b, _, rfl, Or.inl (SqT.of (e8 _ _ (e7 _ _ hb6))), (by unfold arrV; show 5 ≤ sizeLine; decide), fun t ht => q t _ (fresh_back e8 ht) (e8.trans (Ex.new ht)) upd_same⟩
        · refine ⟨_, _, _, fs ++ [.ref t], rfl, Ex.mut (e05.trans (e6.trans e7)) hf0, upd_same, by rw [List.length_append, hfl]; rfl, fun j hj => ?_⟩
          have htf : t ≠ f := fun z => by rw [z, e6 _ _ hfs5] at ht; cases ht
          by_cases hlt : j < fs.length
          · obtain ⟨b', h1', h2'⟩ := hfb5 j hlt
            refine ⟨b', by rw [List.getElem?_append_left hlt]; exact h1', ?_⟩
            have hbf : b' ≠ f := fun z => by rw [z, hfs5] at h2'; cases h2'
            rw [upd_ne hbf]
            exact e7 _ _ (e6 _ _ h2')
          · have hj' : j = i := by omega
            subst hj'
            refine ⟨t, by rw [List.getElem?_append_right (by omega), hfl, Nat.sub_self]; rfl, ?_⟩
            rw [upd_ne htf]
            exact h7
    obtain ⟨w3, w4, w6, fs, rfl, e5, hfs, hfl, hfb⟩ := p
    have hA : ArrsAt H5 f c [.str ""] fs := ⟨hfs, by rw [hfl, hal], fun i hi => hfb i (by omega)⟩
    -- none anew
    refine q_forEn (K := K) (ea_cons (ev_var rfl) ea_nil) (SqL.of hfs) (fun _ σ H' => ∃ v3 v6, σ = [some (.ref s0), some (.ref n), some (.ref l), v3, w4, some (.ref f), v6, none, none] ∧ Ex H5 H') (fun H6 e6 => ⟨_, _, rfl, e6⟩) (fun _ σ H' _ ⟨_, _, _, e⟩ => SqL.of (e _ _ hfs)) (fun i x σ H' H6 hi ⟨v3, v6, hσ, e⟩ e6 => ?_) (fun σ H6 ⟨v3, v6, hσ, e6⟩ => ?_)
    · subst hσ
      have hi' : i < c.ts.length := by
        rw [← hA.2.1]
        exact (List.getElem?_eq_some_iff.mp hi).1
      obtain ⟨b, hb, hbt⟩ := hA.2.2 i hi'
      rw [hi] at hb
      cases hb
      have hb6 := (e.trans e6) _ _ hbt
      exact s_not (et_is (et_and (a := false) (b := true) (et_is (et_test (ev_op (ev_op (ev_var rfl) ev_c (rv_ixT (SqT.of hb6) rfl)) ev_c (rv_eq rfl))) (by decide +kernel)) (fun z => nomatch z)) rfl) fun H7 e7 => ⟨_, _, rfl, (e.trans e6).trans e7⟩
    subst hσ
    have e06 := e5.trans e6
    -- all are reached
    refine q_cutEn (K := K) (en_call (ea_cons (ev_var rfl) (ea_cons (ev_var rfl) ea_nil)) (sn_reached (h.mono e06) ok (hA.mono e6))) (fun _ σ H' => ∃ v3 v8, σ = [some (.ref s0), some (.ref n), some (.ref l), v3, w4, some (.ref f), v6, none, v8] ∧ Ex H6 H') (fun p H7 hp e7 h7 => ⟨_, _, rfl, e7⟩) (fun _ σ H' H7 e7 ⟨a1, a2, a3, a4⟩ => ⟨a1, a2, a3, a4.trans e7⟩) (fun p i x σ H' hp h7 hi ⟨v3, v8, hσ, e7⟩ H8 e8 => ?_) (fun σ H7 ⟨v3, v8, hσ, e7⟩ => ?_)
    · subst hσ
      have hi' : i < c.n := by
        rw [← mk_len c.n (c.n - 1)]
        exact (List.getElem?_eq_some_iff.mp hi).1
      rw [mk_all c.n (c.n - 1) (by omega) i hi'] at hi
      cases hi
      exact s_not (et_is (et_not (et_test (ev_var rfl))) rfl) fun H9 e9 => ⟨(e8.trans e9) _ _ h7, _, _, rfl, (e7.trans e8).trans e9⟩
    subst hσ
    have e07 := e06.trans e7
    refine q_fldP T.c_Way T.n_Way_own_nodes (P := fun v H' => ∃ p, v = .ref p ∧ H7 p = none ∧ H' p = some (.lst as)) (fun H8 e8 Q q => el_list (K := K) (ev_var rfl) (SqL.of (e07 _ _ hq)) H8 e8 Q fun p H9 hp e9 h9 => q _ H9 e9 ⟨p, rfl, fresh_back e8 hp, h9⟩) (ev_var rfl) (e07 _ _ hs0) (by decide) fun v H8 H9 e8 hv e9 => ?_
    obtain ⟨n2, rfl, hn2, h8⟩ := hv
    have e79 := e8.trans e9
    have hs9 := (e07.trans e79) _ _ hs0
    refine s_fld T.c_Way T.n_Way_own_arrows (ev_var rfl) (ev_var rfl) upd_same (by show 1 < 1000; decide) fun H10 e10 => ?_
    have hsn : ∀ b o, b ≠ s0 → H9 b = some o → (upd H10 s0 (.ins (ga K "Way") dx [("own_nodes", .ref n2), ("own_arrows", .ref f)])) b = some o := fun b o hb hh => by
      rw [upd_ne hb]
      refine e10 _ _ ?_
      rw [upd_ne hb]
      exact hh
    refine k _ (fun b o hb hh => hsn b o hb ((e07.trans e79) _ _ hh)) ⟨dx, n2, f, as, fs, upd_same, ?_, ?_, ok⟩
    · refine ⟨hsn _ _ (fun z => by rw [← z, e9 _ _ h8] at hs9; cases hs9) (e9 _ _ h8), h.2.1, fun i hi => ?_⟩
      obtain ⟨a, ha', hd⟩ := h.2.2 i hi
      have hd9 := hd.mono (e07.trans e79)
      exact ⟨a, ha', hsn _ _ (fun z => by have := hd9.1; rw [z, hs9] at this; cases this) hd9.1, hd9.2⟩
    · have hA9 := (hA.mono e6).mono (e7.trans e79)
      refine ⟨hsn _ _ (fun z => by have := hA9.1; rw [z, hs9] at this; cases this) hA9.1, hA9.2.1, fun i hi => ?_⟩
      obtain ⟨b, hb, hbt⟩ := hA9.2.2 i hi
      exact ⟨b, hb, hsn _ _ (fun z => by rw [z, hs9] at hbt; cases hbt) hbt⟩
end
end K57
-- part D6
/-! What a deed sets; stretches made of nothing. -/
namespace K57
open PySem PySem.Spec PyProof.Rows L2 He Evl
local macro_rules | `(tactic| walk_at "hp") => `(tactic| first | assumption | exact SqT.of (by assumption) | exact SqL.of (by assumption) | exact Txt.t_PLAIN (by assumption) _ | exact Txt.t_MARKS (by assumption) _ | exact Txt.t_WORDS (by assumption) _ | exact Txt.t_PARTS (by assumption) _)
local macro_rules | `(tactic| walk_at "kit") => `(tactic| first | exact kit_ii | exact kit_ib | exact kit_bb | exact kit_tt | exact kit_ss | exact kit_ll)
local macro_rules | `(tactic| walk_at "ty") => `(tactic| first | exact ty_int _ | exact ty_bl _ | exact ty_str _ | exact ty_tup (by assumption) | exact ty_lst (by assumption))
local macro_rules | `(tactic| walk_at "rv") => `(tactic| first | exact rv_I0 | exact rv_I (by decide) | exact rv_I (by assumption) | exact rv_eq rfl | exact rv_ne rfl | exact rv_isN | exact rv_notN | exact rv_ixT (by walk_at "hp") rfl | exact rv_ixL (by walk_at "hp") rfl | exact rv_ixT (by walk_at "hp") (by assumption) | exact rv_ixL (by walk_at "hp") (by assumption) | exact rv_isT (by walk_at "hp") rfl rfl)
local macro_rules | `(tactic| walk_at "ea") => `(tactic| first | exact ea_nil | (refine' ea_cons ?a ?b; (case a => walk_at "ev"); (case b => walk_at "ea")))
local macro_rules | `(tactic| walk_at "eu") => `(tactic| (refine' eu_tup ?a ?b; (case a => walk_at "ea"); (case b => (show List.length _ ≤ 100000; simp only [List.length_cons, List.length_nil]; decide))))
local macro_rules | `(tactic| walk_at "ev") => `(tactic| first
  | exact ev_var rfl
  | exact ev_c
  | (refine' ev_andV ?a (fun _ => ?b); (case a => walk_at "ev"); (case b => walk_at "ev"))
  | (refine' ev_orV ?a (fun _ => ?b); (case a => walk_at "ev"); (case b => walk_at "ev"))
  | (refine' ev_notV ?a; (case a => walk_at "ev"))
  | (refine' ev_chain ?a ?b ?c ?d ?e; (case a => walk_at "ev"); (case b => walk_at "ev"); (case c => walk_at "rv"); (case d => walk_at "ev"); (case e => walk_at "rv"))
  | (refine' ev_isi ?a ?c ?t ?e; (case a => walk_at "ea"); (case c => first | exact ClsV.ty _ | exact ClsV.own _); (case t => walk_at "ty"); (case e => walk_at "kit"))
  | (refine' ev_call ?a ?s; (case a => walk_at "ea"); (case s => walk_at "sv"))
  | (refine' ev_inU ?a ?b ?c ?d; (case a => walk_at "ev"); (case b => walk_at "eu"); (case c => rfl); (case d => rfl))
  | (refine' ev_niU ?a ?b ?c ?d; (case a => walk_at "ev"); (case b => walk_at "eu"); (case c => rfl); (case d => rfl))
  | (refine' ev_op ?a ?b ?r; (case a => walk_at "ev"); (case b => walk_at "ev"); (case r => walk_at "rv"))
  | (refine' ev_un ?a ru_neg; (case a => walk_at "ev"))
  | (refine' ev_len2 ?a ?b; (case a => walk_at "ev"); (case b => first | exact Or.inl (by walk_at "hp") | exact Or.inr (by walk_at "hp")))
  | (refine' ev_int1 ?a; (case a => walk_at "ev"))
  | (refine' ev_intB ?a; (case a => walk_at "ev")))
local macro_rules | `(tactic| walk_at "evr") => `(tactic| (refine' ev_is ?h ?e; (case h => walk_at "ev"); (case e => first | kernel_rfl | rfl)))
local macro_rules | `(tactic| walk_at "et") => `(tactic| first
  | (refine' et_and ?a (fun _ => ?b); (case a => walk_at "et"); (case b => walk_at "et"))
  | (refine' et_or ?a (fun _ => ?b); (case a => walk_at "et"); (case b => walk_at "et"))
  | (refine' et_not ?a; (case a => walk_at "et"))
  | (refine' et_test ?a; (case a => walk_at "ev"))
  | (refine' et_B ?a; (case a => walk_at "ev")))
local macro_rules | `(tactic| walk_at "etr") => `(tactic| (refine' et_is ?h ?e; (case h => walk_at "et"); (case e => first | kernel_rfl | rfl)))
local macro_rules | `(tactic| walk_at "eps") => `(tactic| first | exact EvPs.nil | (refine' EvPs.cons (k := Sum.inr _) ?a ?b ?c; (case a => walk_at "ev"); (case b => walk_at "ev"); (case c => walk_at "eps")))
local macro_rules | `(tactic| walk_at "en") => `(tactic| first | exact en_dnew | (refine' en_disp ?a ?b ?c; (case a => walk_at "eps"); (case b => (show List.length _ ≤ 15; simp only [List.length_cons, List.length_nil]; decide)); (case c => rfl)))
local macro_rules | `(tactic| walk_at "sv") => `(tactic| exact sv_is_whole)
local macro_rules | `(tactic| walk_at "sv") => `(tactic| exact sv_is_between)
local macro_rules | `(tactic| walk_at "sv") => `(tactic| exact sv_is_listed (by assumption))
local macro_rules | `(tactic| walk_at "sv") => `(tactic| exact sv_is_part_of (by walk_at "hp") rfl)
local macro_rules | `(tactic| walk_at "sv") => `(tactic| exact sv_is_time)
local macro_rules | `(tactic| walk_at "sv") => `(tactic| exact sv_is_deed (by assumption))
local macro_rules | `(tactic| walk_at "sv") => `(tactic| exact sv_makes (by assumption))
local macro_rules | `(tactic| walk_at "sv") => `(tactic| exact sv_is_looks (by assumption) (by assumption))
local macro_rules | `(tactic| walk_at "sv") => `(tactic| exact sv_check_rule (by assumption))
local macro_rules | `(tactic| walk_at "sv") => `(tactic| exact sv_is_more)
local macro_rules | `(tactic| walk_at "sv") => `(tactic| exact sv_is_between_t (by omega))
local macro_rules | `(tactic| walk_at "sv") => `(tactic| exact sv_is_between_t (by assumption))
local macro_rules | `(tactic| walk_at "sv") => `(tactic| exact sv_is_time_t (by omega))
local macro_rules | `(tactic| walk_at "sv") => `(tactic| exact sv_is_time_t (by assumption))
local macro_rules | `(tactic| walk_at "sv") => `(tactic| exact sv_check_way (by assumption))
local macro_rules | `(tactic| walk_at "sv") => `(tactic| exact sv_check_node (by assumption) (by assumption))
local macro_rules | `(tactic| walk_at "sv") => `(tactic| exact sv_rule_word (by assumption))
section
variable {P : Program} {w : World} {K : PySem.W.Frag} {mg : Str → Option Value} {base : Heap} {H : Hp}
local macro_rules | `(tactic| walk_at "ev") => `(tactic| assumption)
theorem ev_prop {σ : L2.St} {ta : TE} {C a dx : Addr} {fs : List (Str × V)} {sp : Sp} {z : V} {E : XK} (ha : Ev ta σ H (.ref a)) (ho : H a = some (.ins C dx fs)) (hs : SpV sp [.ref a] H z) : Ev (tProp C sp [] E ta) σ H z := fun H1 e Q q => ha H1 e _ fun H2 e2 => ⟨a, dx, fs, rfl, (e.trans e2) _ _ ho, hs H2 (e.trans e2) Q (fun H3 e3 => q H3 (e2.trans e3)) E⟩
theorem ev_word {σ : L2.St} {ta : TE} {r : Addr} {al : Bool} (h : RuleAt K H r al) (ha : Ev ta σ H (.ref r)) : Ev (tProp (ga K "Rule") (sp_rule_word K) [] E0 ta) σ H (.str (rword al)) := by
  have h' := h
  obtain ⟨dx, g⟩ := h'
  exact ev_prop ha g (sv_rule_word h)
theorem valV_kvI {l : List (Str × Int)} {m : Str} : valV (kvI l) (Sum.inr m : Key) = (l.lookup m).map V.int := by
  induction l with
  | nil => rfl
  | cons p l ih =>
    obtain ⟨k, b⟩ := p
    show valV ((Sum.inr k, V.int b) :: kvI l) _ = _
    by_cases h : k = m
    · rw [valV_pos (by rw [h]), h, List.lookup_cons_self] <;> rfl
    · rw [valV_neg (fun z => h (Sum.inr.inj z)), ih, List.lookup_cons]
      rw [show (m == k) = false from beq_eq_false_iff_ne.mpr fun z => h z.symm]
theorem atI_vs {d : Deed} {w0 : Str} {r0 : List V} (h : d.vs = V.str w0 :: r0) : atI d.vs 0 = some (.str w0) := by
  cases d <;> cases h <;> rfl
def sl (al : Bool) (d : Deed) : List (Str × Int) := match d with
  | .read => if al then [("read", 0)] else []
  | d => bk d
def sp_surely (K : PySem.W.Frag) : Sp := SpNew fun vs H o => ∃ (w r : Addr) (c : Ch) (al : Bool) (i : Nat), vs = [.ref w, .ref r, .int (i : Int)] ∧ WayAt K H w c ∧ RuleAt K H r al ∧ i < c.n ∧ o = .dK (kvI (sl al (c.d i)))
theorem sn_surely {w r : Addr} {c : Ch} {al : Bool} {i : Nat} (h : WayAt K H w c) (hr : RuleAt K H r al) (hi : i < c.n) : SpN (sp_surely K) [.ref w, .ref r, .int (i : Int)] H (.dK (kvI (sl al (c.d i)))) := sn_of fun _ e => ⟨w, r, c, al, i, rfl, h.mono e, hr.mono e, hi, rfl⟩
-- slots of surely_set: 0 way 1 rule 2 node 3 deed
theorem sc_surely_set : FnScope ["way", "rule", "node", "deed"] ["way", "rule", "node"] (defScope (top 63)) := ⟨rfl, rfl, rfl, by decide +kernel, rfl, by decide +kernel, by decide +kernel⟩
theorem k_surely_set (T : Txt K mg) (c_getitem : Ixo P w K mg base 3 (ga K "Way") (sp_way_get K)) (c_word : Prp P w K mg base 1 (ga K "Rule") "word" (sp_rule_word K)) (c_backs : Cal P w K mg base 5 "backs" sp_backs) : Cal P w K mg base 6 "surely_set" (sp_surely K) := by
  refine cal_of T.d_surely_set T.g_surely_set sc_surely_set (fun _ _ _ _ _ _ us hl => match us, hl with | [_, _, _], _ => rfl) (fun vs H Q E h => ?_) (fun cdv A outer s H vs Q E hr h => ?_)
  · obtain ⟨o, ⟨w, r, c, al, i, rfl, hw, hrl, hi, rfl⟩, k⟩ := h
    rfl
  · obtain ⟨o, ⟨w, r, c, al, i, rfl, hw, hrl, hi, rfl⟩, k⟩ := h
    have hu := hu_of hr
    refine ⟨_, (pss_cons (ps_set (i := 3) sc_surely_set.nd rfl (by first | exact Or.inl rfl | exact Or.inr rfl) (pixo c_getitem hr (pv 0) (pv 2)))
      (pss_cons (ps_if (pt_cmpR op_eq (pe_ix (ixT K) (pv 3) pe_int (fun _ _ => rfl)) pe_str (by rfl)) (pss_one (ps_ret (pe_ifExp (pt_cmpR op_eq (pprop c_word hr (pv 1)) pe_str (by rfl)) (pe_disp (pps_cons pe_str pe_int pps_nil) (by rfl) (by rfl) (fun z => by cases z) (by decide)) pe_dnewK))) pss_nil)
      (pss_one (ps_ret (pcal c_backs hr (pa_cons (pv 3) pa_nil)))))), ?_⟩
    have hw' := hw
    obtain ⟨dx, n, l, as, bs, h⟩ := hw'
    obtain ⟨a, ha, hd⟩ := h.deed hi
    refine q_asg (ev_way_get h ha (ev_var rfl) (ev_var rfl)) fun H1 e1 => ?_
    have hd1 := hd.mono e1
    obtain ⟨w0, r0, hw0⟩ := vs_head (c.d i)
    have t0 : Ev (tOp (rIxT K) (tVar 3) (tC (.int 0))) [some (.ref w), some (.ref r), some (.int (i : Int)), some (.ref a)] H1 (.str w0) := ev_op (ev_var rfl) ev_c (rv_ixT (SqT.of hd1.1) (atI_vs hw0))
    by_cases hrd : c.d i = .read
    · rw [hrd] at hw0 k
      cases hw0
      refine q_yes (et_is (et_test (ev_op t0 ev_c (rv_eq rfl))) (by decide +kernel)) fun H2 e2 => ?_
      have hr2 := (hrl.mono e1).mono e2
      refine s_retN ?_ fun p H3 hp e3 h3 => k p H3 (fresh_back (e1.trans e2) hp) ((e1.trans e2).trans e3) h3
      cases al with
      | true => exact en_if (b := true) (et_is (et_test (ev_op (ev_word hr2 (ev_var rfl)) ev_c (rv_eq rfl))) (by decide +kernel)) (fun _ => by walk_at "en") (fun z => nomatch z)
      | false => exact en_if (b := false) (et_is (et_test (ev_op (ev_word hr2 (ev_var rfl)) ev_c (rv_eq rfl))) (by decide +kernel)) (fun z => nomatch z) (fun _ => by walk_at "en")
    · refine q_not (et_is (et_test (ev_op t0 ev_c (rv_eq rfl))) (by cases hq : c.d i <;> rw [hq] at hw0 hrd <;> first | exact absurd rfl hrd | (cases hw0; decide +kernel))) fun H2 e2 => ?_
      refine s_retN (en_call (ea_cons (ev_var rfl) ea_nil) (sn_backs (hd1.mono e2))) fun p H3 hp e3 h3 => k p H3 (fresh_back (e1.trans e2) hp) ((e1.trans e2).trans e3) ?_
      rw [h3]
      cases hq : c.d i <;> first | exact absurd hq hrd | rfl
theorem el_keys0 {σ : L2.St} {te : TE} {i j : Nat} {d : Addr} (hd : H d = some (.dK [])) (hv : σ[i]? = some (some (.ref d))) : EvL (tLockE (tLc (iKeys (tVar i)) (gName j) tYes te [j])) σ H [] := fun H1 e Q q =>
  ⟨d, .dK [], e _ _ hd, trivial, fun od => ⟨_, hv, d, od, rfl, Or.inl ⟨[], upd_same, fun D hD => lc_it walk_keys (fun i H' => H' = upd (upd H1 d (.frz od (.dK []))) D (.lst [])) rfl (fun i H' _ p => by
    subst p
    have : d ≠ D := fun z => by rw [← z, upd_same] at hD; cases hD
    rw [upd_ne this, upd_same]) (fun i x H' H2 hi _ _ => absurd hi (Nat.not_lt_zero _)) fun H' p => by
    subst p
    have hne : d ≠ D := fun z => by rw [← z, upd_same] at hD; cases hD
    have hD1 : H1 D = none := by
      rw [upd_ne (fun z => hne z.symm)] at hD
      exact hD
    refine ⟨by rw [upd_ne hne, upd_same], q D _ hD1 (fun b o hb => ?_) (by rw [upd_ne (fun z => hne z.symm), upd_same])⟩
    by_cases q : b = d
    · rw [q, upd_same, ← e _ _ hd, ← q, hb]
    · rw [upd_ne q, upd_ne (ne_of_none hb hD1), upd_ne q]
      exact hb⟩⟩⟩
def sp_joined (K : PySem.W.Frag) : Sp := SpNew fun vs H o => ∃ p, vs = [.ref p] ∧ H p = some (.tup []) ∧ o = .lst []
theorem sn_joined {p : Addr} (h : H p = some (.tup [])) : SpN (sp_joined K) [.ref p] H (.lst []) := sn_of fun _ e => ⟨p, rfl, e _ _ h, rfl⟩
-- slots of joined: 0 pairs 1 ends 2 low 3 high 4 found
theorem sc_joined : FnScope ["pairs", "ends", "low", "high", "found"] ["pairs"] (defScope (top 40)) := ⟨rfl, rfl, rfl, by decide +kernel, rfl, by decide +kernel, by decide +kernel⟩
theorem k_joined (T : Txt K mg)  : Cal P w K mg base 1 "joined" (sp_joined K) := by
  refine cal_of T.d_joined T.g_joined sc_joined (fun _ _ _ _ _ _ us hl => match us, hl with | [_], _ => rfl) (fun vs H Q E h => ?_) (fun cdv A outer s H vs Q E hr h => ?_)
  · obtain ⟨o, ⟨p, rfl, hp, rfl⟩, k⟩ := h
    rfl
  · obtain ⟨o, ⟨p, rfl, hp, rfl⟩, k⟩ := h
    have hu := hu_of hr
    refine ⟨_, (pss_cons (ps_set (i := 1) sc_joined.nd rfl (by first | exact Or.inl rfl | exact Or.inr rfl) pe_dnewK)
      (pss_cons (ps_for PassesOwn.never rfl (piT K (pv 0)) (pg_tup rfl (pgs_cons (pg_name (i := 2) sc_joined.nd rfl (by first | exact Or.inl rfl | exact Or.inr rfl)) (pgs_cons (pg_name (i := 3) sc_joined.nd rfl (by first | exact Or.inl rfl | exact Or.inr rfl)) pgs_nil)))
      pss_never)
      (pss_cons (ps_set (i := 4) sc_joined.nd rfl (by first | exact Or.inl rfl | exact Or.inr rfl) (pe_lst pa_nil))
      (pss_cons (ps_for PassesOwn.never rfl (piL K (pe_callB cr_sorted (by rfl) T.b_sorted boot_sorted (pa_cons (pe_lock (pe_lc rfl sc_joined.nd (pi_keys (pv 1)) (blkOk_by (own := [("low", 2)]) (N := ["pairs", "ends", "low", "high", "found"]) (sc := defScope (top 40)) (by decide +kernel)) (fun _ _ _ _ _ => pg_name (i := 2) sc_joined.nd rfl (Or.inl rfl)) (fun _ _ _ _ _ => pts_nil) (fun _ _ _ _ _ => (pe_callTy call_int1 (by rfl) T.b_int boot_int (pa_cons (pv 2) pa_nil))))) pa_nil))) (pg_name (i := 2) sc_joined.nd rfl (by first | exact Or.inl rfl | exact Or.inr rfl))
      pss_never)
      (pss_one (ps_ret (pv 4))))))), ?_⟩
    refine q_asgN en_dnew fun d H1 hd e1 h1 => ?_
    refine q_forT (ev_var rfl) (SqT.of (e1 _ _ hp)) (fun _ σ H' => σ = [some (.ref p), some (.ref d), none, none, none] ∧ Ex H1 H') (fun H2 e2 => ⟨rfl, e2⟩) (fun _ σ H' _ q => SqT.of (q.2 _ _ (e1 _ _ hp))) (fun i x σ H' hi _ => by cases hi) (fun σ H2 q => ?_)
    obtain ⟨hσ, e2⟩ := q
    subst hσ
    refine q_asgL (el_lst ea_nil (by decide)) fun f H3 hf e3 h3 => ?_
    have e13 := e2.trans e3
    refine q_forNL (K := K) (xs := []) (fun H4 e4 Q q => el_keys0 (i := 1) (j := 2) (e13 _ _ h1) rfl H4 e4 _ fun l H5 hl e5 h5 => ⟨l, [], rfl, SqL.of h5, by decide, fun ns' s hs _ hs' => ?_⟩) (fun l _ σ H' => σ = [some (.ref p), some (.ref d), none, none, some (.ref f)] ∧ Ex H3 H' ∧ H' l = some (.lst [])) (fun l H4 hl e4 h4 => ⟨rfl, e4, h4⟩) (fun l i σ H' _ q => SqL.of q.2.2) (fun l i x σ H' hi _ => by cases hi) (fun l σ H4 q => ?_)
    · have : ns' = [] := List.Perm.eq_nil hs
      subst this
      exact q s _ (fresh_back e5 hs') (e5.trans (Ex.new hs')) upd_same
    · obtain ⟨hσ, e4, _⟩ := q
      subst hσ
      exact s_ret (ev_var rfl) fun H5 e5 => k f H5 (fresh_back e1 (fresh_back e2 hf)) ((e1.trans e13).trans (e4.trans e5)) ((e4.trans e5) _ _ h3)
def sp_st_init (K : PySem.W.Frag) : Sp := SpInit (ga K "Stretches") fun args H P => ∃ p, args = [.ref p] ∧ H p = some (.tup []) ∧ P = fun _ _ _ => True
/-- Stretches() -/
abbrev StF (P : Program) (w : World) (K : PySem.W.Frag) (mg : Str → Option Value) (base : Heap) (k : Nat) : Prop := FnR P w K mg base CX0 k (ma K (ga K "Stretches") "__init__") (fun vs H Q E => ∃ ws rest, vs = ws ++ rest ∧ ws.length = ["self"].length ∧ rest.length ≤ sizeLine ∧ ∀ p, H p = none → sp_st_init K (ws ++ [V.ref p]) (upd H p (.tup rest)) Q E)
theorem sc_Stretches_init : FnScope ["self", "pairs", "index", "pair"] ["self", "pairs"] (defScope (inClass (top 45) 0)) := ⟨rfl, rfl, rfl, by decide +kernel, rfl, by decide +kernel, by decide +kernel⟩
theorem k_Stretches_init (T : Txt K mg) (c_joined : Cal P w K mg base 1 "joined" (sp_joined K)) : StF P w K mg base 2 := by
  obtain ⟨fd, F⟩ := T.d_Stretches_init
  obtain ⟨oc, od, dV, kV, doc, pm, an, cdv, ct, osl, rfl, lk, hcd, hD, hK⟩ := F.ex
  refine StX.fn_star (ps := ["self"]) (pv := "pairs") lk hcd sc_Stretches_init StX.cxUp_none (fun us rest hl => ?_) (fun A outer s H vs Q E hr h => ?_)
  · match us, hl with
    | [u], _ =>
      rcases hD with ⟨_, rfl⟩ | ⟨e, _⟩
      · cases rest <;> rfl
      · exact absurd rfl e
  · obtain ⟨s0, dx, args, P0, rfl, hs0, ⟨p, rfl, hp, rfl⟩, k⟩ := h
    have hu := hu_of hr
    suffices hh : ∃ t, PSs (cxOf CX0 P w K mg base ["self", "pairs", "index", "pair"] "Stretches.__init__" (defScope (inClass (top 45) 0)) (ma K (ga K "Stretches") "__init__") cdv A outer s H E).nox (defBody (inClass (top 45) 0)) t ∧ t { nx := fun _ H' => Q .non H', rt := Q } (start ["self", "pairs", "index", "pair"] [.ref s0, .ref p]) H from by
      obtain ⟨t, ht, q⟩ := hh
      exact ⟨t, ht.nox, q⟩
    refine ⟨_, (pss_cons (ps_for PassesOwn.never rfl (KX.pi_enum0 (by rfl) T.b_enumerate (pa_cons (pv 1) pa_nil)) (pg_tup rfl (pgs_cons (pg_name (i := 2) sc_Stretches_init.nd rfl (by first | exact Or.inl rfl | exact Or.inr rfl)) (pgs_cons (pg_name (i := 3) sc_Stretches_init.nd rfl (by first | exact Or.inl rfl | exact Or.inr rfl)) pgs_nil)))
      pss_never)
      (pss_one (ps_fld (pv 0) (pcal c_joined hr (pa_cons (pv 1) pa_nil)) rfl))), ?_⟩
    refine ⟨_, rfl, p, rfl, SqT.of hp, fun (_ _ : Nat) (σ : L2.St) (H' : Hp) => σ = [some (V.ref s0), some (V.ref p), none, none] ∧ H' = H, ⟨0, rfl, rfl⟩, fun i m σ H' q => Or.inl ⟨?_, ?_⟩⟩
    · obtain ⟨rfl, rfl⟩ := q
      exact SqT.of hp
    · obtain ⟨rfl, rfl⟩ := q
      refine s_fldP T.c_Stretches T.n_Stretches_own_pairs (P := fun v _ => ∃ q, v = .ref q) (fun H1 e1 Q q => en_call (ea_cons (ev_var rfl) ea_nil) (sn_joined hp) H1 e1 Q fun l H2 hl e2 h2 => q _ H2 e2 ⟨l, rfl⟩) (ev_var rfl) hs0 (by decide) fun v H1 H2 e1 hv e2 => ?_
      exact k _ (ExB.upd (Ex.exB (e1.trans e2))) trivial
def sp_st_none (K : PySem.W.Frag) : Sp := SpPost fun vs _ P => vs = [] ∧ P = fun v _ => ∃ r, v = .ref r
theorem spp_st_none : SpP (sp_st_none K) [] H (fun v _ => ∃ r, v = .ref r) := sp_of fun _ _ => ⟨rfl, rfl⟩
-- slots of Stretches.none: 
theorem sc_Stretches_none : FnScope [] [] (defScope (inClass (top 45) 19)) := ⟨rfl, rfl, rfl, by decide +kernel, rfl, by decide +kernel, by decide +kernel⟩
theorem k_Stretches_none (T : Txt K mg) (c_Stretches : StF P w K mg base 2) : Smt P w K mg base 4 (ga K "Stretches") "none" (sp_st_none K) := by
  refine At.smt (sp := (sp_st_none K)) ?_ T.s_Stretches_none
  refine at_ok T.d_Stretches_none sc_Stretches_none (fun _ _ _ _ _ _ us hl => match us, hl with | [], _ => rfl) (fun vs H Q E h => ?_) (fun cdv A outer s H vs Q E hr h => ?_)
  · obtain ⟨P0, ⟨rfl, rfl⟩, k⟩ := h
    rfl
  · obtain ⟨P0, ⟨rfl, rfl⟩, k⟩ := h
    have hu := hu_of hr
    refine ⟨_, (pss_one (ps_ret (KX.pe_makeR0 T.m_Stretches c_Stretches (hr.mono (by decide)) (by rfl) T.g_Stretches))), ?_⟩
    refine fun x dx nx nd ne => ?_
    have e3 : Ex H (L2.upd (L2.upd H dx (.own x)) x (.ins (ga K "Stretches") dx [])) := fun b o hb => by
      rw [upd_ne (ne_of_none hb nx), upd_ne (ne_of_none hb nd)]
      exact hb
    refine ⟨[.ref x], [], rfl, rfl, Nat.zero_le _, fun p hp => ⟨x, dx, [.ref p], _, rfl, ?_, ⟨p, rfl, upd_same, rfl⟩, fun H' eb _ => ⟨rfl, k _ _ (fun b o hb => eb b o (ne_of_none hb nx) (Ex.new hp b o (e3 b o hb))) ⟨x, rfl⟩⟩⟩⟩
    have hne : x ≠ p := fun z => by rw [← z, upd_same] at hp; cases hp
    rw [upd_ne hne, upd_same]
def sp_all_ages (K : PySem.W.Frag) : Sp := SpPost fun vs H P => ∃ (w r : Addr) (c : Ch) (al : Bool), vs = [.ref w, .ref r] ∧ WayAt K H w c ∧ RuleAt K H r al ∧ P = fun v _ => ∃ r, v = .ref r
theorem spp_all_ages {w r : Addr} {c : Ch} {al : Bool} (h : WayAt K H w c) (hr : RuleAt K H r al) : SpP (sp_all_ages K) [.ref w, .ref r] H (fun v _ => ∃ r, v = .ref r) := sp_of fun _ e => ⟨w, r, c, al, rfl, h.mono e, hr.mono e, rfl⟩
-- slots of all_ages: 0 way 1 rule 2 node 3 bits
theorem sc_all_ages : FnScope ["way", "rule", "node", "bits"] ["way", "rule"] (defScope (top 61)) := ⟨rfl, rfl, rfl, by decide +kernel, rfl, by decide +kernel, by decide +kernel⟩
theorem k_all_ages (T : Txt K mg) (c_word : Prp P w K mg base 1 (ga K "Rule") "word" (sp_rule_word K)) (c_len : Lno P w K mg base 1 (ga K "Way") (sp_way_len K)) (c_none : Smt P w K mg base 4 (ga K "Stretches") "none" (sp_st_none K)) : Cal P w K mg base 5 "all_ages" (sp_all_ages K) := by
  refine cal_of T.d_all_ages T.g_all_ages sc_all_ages (fun _ _ _ _ _ _ us hl => match us, hl with | [_, _], _ => rfl) (fun vs H Q E h => ?_) (fun cdv A outer s H vs Q E hr h => ?_)
  · obtain ⟨P0, ⟨w, r, c, al, rfl, hw, hrl, rfl⟩, k⟩ := h
    rfl
  · obtain ⟨P0, ⟨w, r, c, al, rfl, hw, hrl, rfl⟩, k⟩ := h
    have hu := hu_of hr
    refine ⟨_, (pss_cons (ps_if (pt_cmpR op_ne (pprop c_word hr (pv 1)) pe_str (by rfl)) (pss_one (ps_ret (pe_lc rfl sc_all_ages.nd (pi_range1 (by rfl) T.b_range (pa_cons (plen c_len hr T.b_len (pa_cons (pv 0) pa_nil)) pa_nil)) (blkOk_by (own := [("node", 2)]) (N := ["way", "rule", "node", "bits"]) (sc := defScope (top 61)) (by decide +kernel)) (fun _ _ _ _ _ => pg_name (i := 2) sc_all_ages.nd rfl (Or.inl rfl)) (fun _ _ _ _ _ => pts_nil) (fun _ _ _ _ _ => (psmt c_none hr (pgo T.g_Stretches)))))) pss_nil)
      pss_never), ?_⟩
    obtain ⟨b1, b2⟩ := hw.bound
    refine q_yes (et_is (et_test (ev_op (ev_word hrl (ev_var rfl)) ev_c (rv_ne rfl))) (by cases al <;> decide +kernel)) fun H1 e1 => ?_
    refine s_retP (ep_lcR1 (R := fun _ _ _ => True) (fun _ _ _ _ _ _ => trivial) (ea_cons (ev_way_len (hw.mono e1) (ev_var rfl)) ea_nil) (by omega) (fun _ => rfl) (fun i H2 Dl zs e2 _ _ _ => ?_)) fun v H2 e2 hv => ?_
    · exact fun H3 e3 Q q => ⟨rfl, spp_st_none H3 (Ex.refl H3) Q (fun v H4 e4 _ => q v H4 e4 trivial) E0⟩
    · obtain ⟨p, _, rfl, _⟩ := hv
      exact k _ H2 (e1.trans e2) ⟨p, rfl⟩
end
end K57
-- part C2
/-! Sums along a chain; lists filled from the left. -/
namespace K57
open PySem PySem.Spec PyProof.Rows L2 He Evl
/-! ### sums -/
def Ch.b (c : Ch) (al : Bool) (i : Nat) (m : Str) : Option Int := (sl al (c.d i)).lookup m
def Ch.S (c : Ch) (al : Bool) (m : Str) (w : Nat → Int) : Nat → Int
  | 0 => (c.b al 0 m).getD 0
  | i + 1 => match c.b al (i + 1) m with
    | some b => b
    | none => Ch.S c al m w i + w i
def Ch.Dok (c : Ch) : Prop := ∀ i, i < c.n → (c.d i).ok
theorem NodesAt.dok {H : Hp} {l : Addr} {c : Ch} {as : List V} (h : NodesAt H l c.ds as) : c.Dok := fun i hi => by
  obtain ⟨_, _, hd⟩ := h.2.2 i hi
  exact hd.2
theorem S_some {c : Ch} {al : Bool} {m : Str} {w : Nat → Int} {i : Nat} {b : Int} (h : c.b al i m = some b) : c.S al m w i = b := by
  cases i with
  | zero => rw [Ch.S, h] <;> rfl
  | succ i => rw [Ch.S, h]
theorem S_none {c : Ch} {al : Bool} {m : Str} {w : Nat → Int} {i : Nat} (h : c.b al (i + 1) m = none) : c.S al m w (i + 1) = c.S al m w i + w i := by rw [Ch.S, h]
theorem b_first {c : Ch} {al : Bool} {m : Str} (ok : c.Ok) (hm : m ∈ mks) : ∃ b, c.b al 0 m = some b := by
  have h := ok.first
  have hm' : m = "read" ∨ m = "written" ∨ m = "changed" := by
    simpa [mks] using hm
  unfold Ch.b
  cases hd : c.d 0 <;> rw [hd] at h <;> first | exact absurd h (by decide) | exact absurd (show false = true from h) (by decide) | skip
  · rcases hm' with rfl | rfl | rfl <;> exact ⟨_, rfl⟩
  · rcases hm' with rfl | rfl | rfl <;> exact ⟨_, rfl⟩
theorem sl_nn {al : Bool} {d : Deed} (h : d.ok) : ∀ p ∈ sl al d, 0 ≤ p.2 := by
  have hb : ∀ b : Int, 1 ≤ b ∧ b ≤ 1000000000 → 0 ≤ b := fun b z => by omega
  cases d <;> cases al <;> simp [sl, bk] <;> exact hb _ h
theorem lookup_mem {l : List (Str × Int)} {m : Str} {b : Int} (h : l.lookup m = some b) : (m, b) ∈ l := by
  induction l with
  | nil => cases h
  | cons p l ih =>
    obtain ⟨k, v⟩ := p
    rw [List.lookup_cons] at h
    by_cases e : m = k
    · rw [e, beq_self_eq_true] at h
      cases h
      rw [e]
      exact List.mem_cons_self
    · rw [show (m == k) = false from beq_eq_false_iff_ne.mpr e] at h
      exact List.mem_cons_of_mem _ (ih h)
theorem b_nn {c : Ch} {al : Bool} {i : Nat} {m : Str} {b : Int} (dok : c.Dok) (hi : i < c.n) (h : c.b al i m = some b) : 0 ≤ b := sl_nn (dok i hi) _ (lookup_mem h)
theorem S_nn {c : Ch} {al : Bool} {m : Str} {w : Nat → Int} (dok : c.Dok) (hw : ∀ i, i + 1 < c.n → 0 ≤ w i) : ∀ i, i < c.n → 0 ≤ c.S al m w i
  | 0, h => by
    unfold Ch.S
    cases hb : c.b al 0 m with
    | none => exact Int.le_refl _
    | some b => exact b_nn dok h hb
  | i + 1, h => by
    cases hb : c.b al (i + 1) m with
    | none =>
      rw [S_none hb]
      have := S_nn (al := al) (m := m) dok hw i (by omega)
      have := hw i h
      omega
    | some b =>
      rw [S_some hb]
      exact b_nn dok h hb

/-! ### lists filled from the left -/
structure Part (n : Nat) (S : Nat → Int) (z : V) (ws : List Nat) (fs : List V) : Prop where
  len : fs.length = n
  get : ∀ i, i < n → fs[i]? = some (.int (S i)) ∨ (fs[i]? = some z ∧ i ∈ ws)
section
variable {n i : Nat} {S : Nat → Int} {z : V} {ws : List Nat} {fs : List V}
theorem Part.full (h : Part n S z [] fs) (hi : i < n) : fs[i]? = some (.int (S i)) := by
  rcases h.get i hi with h | ⟨_, h⟩
  · exact h
  · exact nomatch h
theorem Part.eq (h : Part n S z [] fs) : fs = (List.range n).map fun i => V.int (S i) := by
  apply List.ext_getElem?
  intro i
  by_cases hi : i < n
  · rw [h.full hi, List.getElem?_map, List.getElem?_range hi] <;> rfl
  · rw [List.getElem?_eq_none (by rw [h.len]; omega), List.getElem?_eq_none (by rw [List.length_map, List.length_range]; omega)]
theorem Part.pred (h : Part n S z (i :: ws) fs) (hs : ∀ j ∈ ws, i < j) (hi : 1 ≤ i) (hn : i < n) : fs[i - 1]? = some (.int (S (i - 1))) := by
  rcases h.get (i - 1) (by omega) with h | ⟨_, h⟩
  · exact h
  · rcases List.mem_cons.mp h with h | h
    · omega
    · have := hs _ h
      omega
theorem Part.put (h : Part n S z (i :: ws) fs) (hn : i < n) : Part n S z ws (fs.set i (.int (S i))) := ⟨by rw [List.length_set, h.len], fun j hj => by
  rw [List.getElem?_set]
  by_cases e : i = j
  · subst e
    rw [if_pos rfl, if_pos (by rw [h.len]; exact hn)]
    exact Or.inl rfl
  · rw [if_neg e]
    rcases h.get j hj with h | ⟨h1, h2⟩
    · exact Or.inl h
    · rcases List.mem_cons.mp h2 with h | h
      · exact absurd h.symm e
      · exact Or.inr ⟨h1, h⟩⟩
theorem Part.skip (h : Part n S z (i :: ws) fs) (hv : fs[i]? = some (.int (S i))) : Part n S z ws fs := ⟨h.len, fun j hj => by
  rcases h.get j hj with h | ⟨h1, h2⟩
  · exact Or.inl h
  · rcases List.mem_cons.mp h2 with h | h
    · rw [h]
      exact Or.inl hv
    · exact Or.inr ⟨h1, h⟩⟩
theorem Part.any (h : Part n S z [] fs) : Part n S z ws fs := ⟨h.len, fun j hj => Or.inl (h.full hj)⟩
end
/-- the nodes left open -/
def opens (n : Nat) (f : Nat → Bool) : List Nat := (List.range n).filter f
theorem given_opens {n : Nat} {f : Nat → Bool} {v : Nat → V} : given n f v = (opens n f).map v := rfl
theorem opens_drop {n j : Nat} {f : Nat → Bool} {v : Nat → V} {x : V} (h : (given n f v)[j]? = some x) : ∃ i, x = v i ∧ i < n ∧ f i = true ∧ (opens n f).drop j = i :: (opens n f).drop (j + 1) ∧ ∀ k ∈ (opens n f).drop (j + 1), i < k := by
  rw [given_opens, List.getElem?_map] at h
  cases hj : (opens n f)[j]? with
  | none => rw [hj] at h; cases h
  | some i =>
    rw [hj] at h
    cases h
    have hlt : j < (opens n f).length := (List.getElem?_eq_some_iff.mp hj).1
    have hget : (opens n f)[j] = i := (List.getElem?_eq_some_iff.mp hj).2
    have hm : i ∈ opens n f := hget ▸ List.getElem_mem hlt
    have hm' := List.mem_filter.mp hm
    have hd : (opens n f).drop j = i :: (opens n f).drop (j + 1) := by
      rw [List.drop_eq_getElem_cons hlt, hget]
    refine ⟨i, rfl, List.mem_range.mp hm'.1, hm'.2, hd, ?_⟩
    have hp : (opens n f).Pairwise (· < ·) := List.pairwise_lt_range.filter f
    have hp2 := hp.sublist (List.drop_sublist j _)
    rw [hd] at hp2
    exact (List.pairwise_cons.mp hp2).1
theorem opens_end {n : Nat} {f : Nat → Bool} {v : Nat → V} : (opens n f).drop (given n f v).length = [] := by
  rw [given_opens, List.length_map, List.drop_length]
theorem mem_opens {n i : Nat} {f : Nat → Bool} (hi : i < n) (h : f i = true) : i ∈ opens n f := List.mem_filter.mpr ⟨List.mem_range.mpr hi, h⟩
def oV (z : V) : Option Int → V
  | none => z
  | some b => .int b
theorem range_snoc {n : Nat} {f : Nat → V} : ((List.range n).map f) ++ [f n] = (List.range (n + 1)).map f := by
  rw [List.range_succ, List.map_append] <;> rfl
theorem map_at {n i : Nat} {f : Nat → V} (h : i < n) : ((List.range n).map f)[i]? = some (f i) := by
  rw [List.getElem?_map, List.getElem?_range h]
  rfl

/-! ### loops over one item or none -/
section
variable {K : PySem.W.Frag} {σ : L2.St} {H : Hp} {te : TE} {g : TG} {tu tz : TS} {D : Ends} {x : V}
theorem s_forOne (h : EvL te σ H [x]) (hs : ∀ p H1, H p = none → Ex H H1 → H1 p = some (.lst [x]) → g x σ H1 fun σ2 H2 => tu { D with nx := fun σ' H' => H' p = some (.lst [x]) ∧ D.nx σ' H', ct := fun σ' H' => H' p = some (.lst [x]) ∧ D.nx σ' H', bk := D.nx } σ2 H2) : tFor (iList K te) g tu D σ H :=
  h H (Ex.refl H) _ fun p H1 hp e h1 => ⟨p, rfl, ⟨[x], SqL.of h1⟩, for_list (xs := [x]) (fun k σ' H' => H' p = some (.lst [x]) ∧ match k with
    | 0 => σ' = σ ∧ H' = H1
    | _ => D.nx σ' H') ⟨h1, rfl, rfl⟩ (fun _ _ _ _ q => SqL.of q.1) (fun k y σ' H' hk q => by
      cases k with
      | zero =>
        cases hk
        obtain ⟨_, rfl, rfl⟩ := q
        exact hs p H' hp e h1
      | succ k => cases hk) fun σ' H' q => q.2⟩
theorem s_forZero (h : EvL te σ H []) (k : ∀ H1, Ex H H1 → D.nx σ H1) : tFor (iList K te) g tu D σ H :=
  h H (Ex.refl H) _ fun p H1 hp e h1 => ⟨p, rfl, ⟨[], SqL.of h1⟩, for_list (xs := []) (fun _ σ' H' => σ' = σ ∧ H' = H1) ⟨rfl, rfl⟩ (fun _ _ H' _ q => q.2 ▸ SqL.of h1) (fun k y σ' H' hk q => by cases hk) fun σ' H' q => q.1 ▸ q.2 ▸ k H1 e⟩
theorem q_forOne (h : EvL te σ H [x]) (hs : ∀ p H1, H p = none → Ex H H1 → H1 p = some (.lst [x]) → g x σ H1 fun σ2 H2 => tu { D with nx := fun σ' H' => H' p = some (.lst [x]) ∧ tz D σ' H', ct := fun σ' H' => H' p = some (.lst [x]) ∧ tz D σ' H', bk := tz D } σ2 H2) : tSeq (tFor (iList K te) g tu) tz D σ H :=
  s_forOne (D := { D with nx := tz D }) h hs
/-- way.into(node), node ahead of which there is one -/
theorem WayD.into1 {w dx n l : Addr} {c : Ch} {as bs : List V} {i : Nat} {ta : TE} {tas : TA} {E : XK} (h : WayD K H w c dx n l as bs) (h1 : 1 ≤ i) (hi : i < c.n) (ha : Ev ta σ H (.ref w)) (hb : EvA tas σ H [.int (i : Int)]) :
    ∃ b, EvL (tMeth (ga K "Way") "into" (sp_way_into K) [] E ta tas) σ H [.ref b] ∧ H b = some (.tup [.int ((i : Int) - 1), .int (i : Int), .int (c.lo (i - 1)), .int (c.hi (i - 1)), .str ""]) := by
  have hl := h.ok.len
  obtain ⟨b, hb1, hb2⟩ := h.arrs.2.2 (i - 1) (by omega)
  refine ⟨b, ?_, ?_⟩
  · have z := en_meth (m := "into") (dvs := []) (E := E) ha h.ins rfl hb (sn_way_into h hi)
    rw [intoL, if_neg (by omega), List.getD_eq_getElem?_getD, hb1] at z
    exact z
  · unfold arrV at hb2
    rw [show ((i - 1 : Nat) : Int) = (i : Int) - 1 by omega, show (i : Int) - 1 + 1 = (i : Int) by omega] at hb2
    exact hb2
end
end K57
-- part D7
/-! The least ages. -/
namespace K57
open PySem PySem.Spec PyProof.Rows L2 He Evl
local macro_rules | `(tactic| walk_at "hp") => `(tactic| first | assumption | exact SqT.of (by assumption) | exact SqL.of (by assumption) | exact Txt.t_PLAIN (by assumption) _ | exact Txt.t_MARKS (by assumption) _ | exact Txt.t_WORDS (by assumption) _ | exact Txt.t_PARTS (by assumption) _)
local macro_rules | `(tactic| walk_at "kit") => `(tactic| first | exact kit_ii | exact kit_ib | exact kit_bb | exact kit_tt | exact kit_ss | exact kit_ll)
local macro_rules | `(tactic| walk_at "ty") => `(tactic| first | exact ty_int _ | exact ty_bl _ | exact ty_str _ | exact ty_tup (by assumption) | exact ty_lst (by assumption))
local macro_rules | `(tactic| walk_at "rv") => `(tactic| first | exact rv_I0 | exact rv_I (by decide) | exact rv_I (by assumption) | exact rv_eq rfl | exact rv_ne rfl | exact rv_isN | exact rv_notN | exact rv_ixT (by walk_at "hp") rfl | exact rv_ixL (by walk_at "hp") rfl | exact rv_ixT (by walk_at "hp") (by assumption) | exact rv_ixL (by walk_at "hp") (by assumption) | exact rv_isT (by walk_at "hp") rfl rfl)
local macro_rules | `(tactic| walk_at "ea") => `(tactic| first | exact ea_nil | (refine' ea_cons ?a ?b; (case a => walk_at "ev"); (case b => walk_at "ea")))
local macro_rules | `(tactic| walk_at "eu") => `(tactic| (refine' eu_tup ?a ?b; (case a => walk_at "ea"); (case b => (show List.length _ ≤ 100000; simp only [List.length_cons, List.length_nil]; decide))))
local macro_rules | `(tactic| walk_at "ev") => `(tactic| first
  | exact ev_var rfl
  | exact ev_c
  | (refine' ev_andV ?a (fun _ => ?b); (case a => walk_at "ev"); (case b => walk_at "ev"))
  | (refine' ev_orV ?a (fun _ => ?b); (case a => walk_at "ev"); (case b => walk_at "ev"))
  | (refine' ev_notV ?a; (case a => walk_at "ev"))
  | (refine' ev_chain ?a ?b ?c ?d ?e; (case a => walk_at "ev"); (case b => walk_at "ev"); (case c => walk_at "rv"); (case d => walk_at "ev"); (case e => walk_at "rv"))
  | (refine' ev_isi ?a ?c ?t ?e; (case a => walk_at "ea"); (case c => first | exact ClsV.ty _ | exact ClsV.own _); (case t => walk_at "ty"); (case e => walk_at "kit"))
  | (refine' ev_call ?a ?s; (case a => walk_at "ea"); (case s => walk_at "sv"))
  | (refine' ev_inU ?a ?b ?c ?d; (case a => walk_at "ev"); (case b => walk_at "eu"); (case c => rfl); (case d => rfl))
  | (refine' ev_niU ?a ?b ?c ?d; (case a => walk_at "ev"); (case b => walk_at "eu"); (case c => rfl); (case d => rfl))
  | (refine' ev_op ?a ?b ?r; (case a => walk_at "ev"); (case b => walk_at "ev"); (case r => walk_at "rv"))
  | (refine' ev_un ?a ru_neg; (case a => walk_at "ev"))
  | (refine' ev_len2 ?a ?b; (case a => walk_at "ev"); (case b => first | exact Or.inl (by walk_at "hp") | exact Or.inr (by walk_at "hp")))
  | (refine' ev_int1 ?a; (case a => walk_at "ev"))
  | (refine' ev_intB ?a; (case a => walk_at "ev")))
local macro_rules | `(tactic| walk_at "evr") => `(tactic| (refine' ev_is ?h ?e; (case h => walk_at "ev"); (case e => first | kernel_rfl | rfl)))
local macro_rules | `(tactic| walk_at "et") => `(tactic| first
  | (refine' et_and ?a (fun _ => ?b); (case a => walk_at "et"); (case b => walk_at "et"))
  | (refine' et_or ?a (fun _ => ?b); (case a => walk_at "et"); (case b => walk_at "et"))
  | (refine' et_not ?a; (case a => walk_at "et"))
  | (refine' et_test ?a; (case a => walk_at "ev"))
  | (refine' et_B ?a; (case a => walk_at "ev")))
local macro_rules | `(tactic| walk_at "etr") => `(tactic| (refine' et_is ?h ?e; (case h => walk_at "et"); (case e => first | kernel_rfl | rfl)))
local macro_rules | `(tactic| walk_at "eps") => `(tactic| first | exact EvPs.nil | (refine' EvPs.cons (k := Sum.inr _) ?a ?b ?c; (case a => walk_at "ev"); (case b => walk_at "ev"); (case c => walk_at "eps")))
local macro_rules | `(tactic| walk_at "en") => `(tactic| first | exact en_dnew | (refine' en_disp ?a ?b ?c; (case a => walk_at "eps"); (case b => (show List.length _ ≤ 15; simp only [List.length_cons, List.length_nil]; decide)); (case c => rfl)))
local macro_rules | `(tactic| walk_at "sv") => `(tactic| exact sv_is_whole)
local macro_rules | `(tactic| walk_at "sv") => `(tactic| exact sv_is_between)
local macro_rules | `(tactic| walk_at "sv") => `(tactic| exact sv_is_listed (by assumption))
local macro_rules | `(tactic| walk_at "sv") => `(tactic| exact sv_is_part_of (by walk_at "hp") rfl)
local macro_rules | `(tactic| walk_at "sv") => `(tactic| exact sv_is_time)
local macro_rules | `(tactic| walk_at "sv") => `(tactic| exact sv_is_deed (by assumption))
local macro_rules | `(tactic| walk_at "sv") => `(tactic| exact sv_makes (by assumption))
local macro_rules | `(tactic| walk_at "sv") => `(tactic| exact sv_is_looks (by assumption) (by assumption))
local macro_rules | `(tactic| walk_at "sv") => `(tactic| exact sv_check_rule (by assumption))
local macro_rules | `(tactic| walk_at "sv") => `(tactic| exact sv_is_more)
local macro_rules | `(tactic| walk_at "sv") => `(tactic| exact sv_is_between_t (by omega))
local macro_rules | `(tactic| walk_at "sv") => `(tactic| exact sv_is_between_t (by assumption))
local macro_rules | `(tactic| walk_at "sv") => `(tactic| exact sv_is_time_t (by omega))
local macro_rules | `(tactic| walk_at "sv") => `(tactic| exact sv_is_time_t (by assumption))
local macro_rules | `(tactic| walk_at "sv") => `(tactic| exact sv_check_way (by assumption))
local macro_rules | `(tactic| walk_at "sv") => `(tactic| exact sv_check_node (by assumption) (by assumption))
local macro_rules | `(tactic| walk_at "sv") => `(tactic| exact sv_rule_word (by assumption))
section
variable {P : Program} {w : World} {K : PySem.W.Frag} {mg : Str → Option Value} {base : Heap} {H : Hp}
local macro_rules | `(tactic| walk_at "ev") => `(tactic| assumption)
theorem oV_isN {o : Option Int} : decide (oV .non o = .non) = o.isNone := by
  cases o with
  | none => exact decide_eq_true rfl
  | some b => exact decide_eq_false fun z => nomatch z
theorem getD_oV {o : Option Int} : (o.map V.int).getD .non = oV .non o := by cases o <;> rfl
/-- the table of one mark -/
def tabL (c : Ch) (S : Nat → Int) : List V := (List.range c.n).map fun i => V.int (S i)
def sp_one_least (K : PySem.W.Frag) : Sp := SpNew fun vs H o => ∃ (w r ra : Addr) (c : Ch) (al : Bool) (m : Str), vs = [.ref w, .ref r, .str m, .ref ra] ∧ WayAt K H w c ∧ RuleAt K H r al ∧ m ∈ mks ∧ o = .lst (tabL c (c.S al m c.lo))
theorem sn_one_least {w r ra : Addr} {c : Ch} {al : Bool} {m : Str} (h : WayAt K H w c) (hr : RuleAt K H r al) (hm : m ∈ mks) : SpN (sp_one_least K) [.ref w, .ref r, .str m, .ref ra] H (.lst (tabL c (c.S al m c.lo))) := sn_of fun _ e => ⟨w, r, ra, c, al, m, rfl, h.mono e, hr.mono e, hm, rfl⟩
def OlI (w r ra f fr : Addr) (m : Str) (xs : List V) (H0 : Hp) (Q : List V → Prop) (σ : L2.St) (H' : Hp) : Prop := ∃ (v5 v7 v8 v9 v10 v11 v12 : Option V) (fs : List V), σ = [some (.ref w), some (.ref r), some (.str m), some (.ref ra), some (.ref f), v5, some (.ref fr), v7, v8, v9, v10, v11, v12] ∧ Ex H0 H' ∧ H' fr = some (.lst xs) ∧ H' f = some (.lst fs) ∧ Q fs
-- slots of one_least: 0 way 1 rule 2 mark 3 read_ages 4 found 5 node 6 free 7 turn 8 start 9 goal 10 least 11 most 12 word
theorem sc_one_least : FnScope ["way", "rule", "mark", "read_ages", "found", "node", "free", "turn", "start", "goal", "least", "most", "word"] ["way", "rule", "mark", "read_ages"] (defScope (top 67)) := ⟨rfl, rfl, rfl, by decide +kernel, rfl, by decide +kernel, by decide +kernel⟩
theorem k_one_least (T : Txt K mg) (c_len : Lno P w K mg base 1 (ga K "Way") (sp_way_len K)) (c_word : Prp P w K mg base 1 (ga K "Rule") "word" (sp_rule_word K)) (c_getitem : Ixo P w K mg base 3 (ga K "Way") (sp_way_get K)) (c_surely_set : Cal P w K mg base 6 "surely_set" (sp_surely K)) (c_into : Met P w K mg base 1 (ga K "Way") "into" (sp_way_into K)) : Cal P w K mg base 7 "one_least" (sp_one_least K) := by
  refine cal_of T.d_one_least T.g_one_least sc_one_least (fun _ _ _ _ _ _ us hl => match us, hl with | [_, _, _, _], _ => rfl) (fun vs H Q E h => ?_) (fun cdv A outer s H vs Q E hr h => ?_)
  · obtain ⟨o, ⟨w, r, ra, c, al, m, rfl, hw, hrl, hm, rfl⟩, k⟩ := h
    rfl
  · obtain ⟨o, ⟨w, r, ra, c, al, m, rfl, hw, hrl, hm, rfl⟩, k⟩ := h
    have hu := hu_of hr
    refine ⟨_, (pss_cons (ps_set (i := 4) sc_one_least.nd rfl (by first | exact Or.inl rfl | exact Or.inr rfl) (pe_lst pa_nil))
      (pss_cons (ps_for PassesOwn.never rfl (pi_range1 (by rfl) T.b_range (pa_cons (plen c_len hr T.b_len (pa_cons (pv 0) pa_nil)) pa_nil)) (pg_name (i := 5) sc_one_least.nd rfl (by first | exact Or.inl rfl | exact Or.inr rfl))
      (pss_one (ps_if (PW.pt (pw_and (pt_cmpR op_eq (pprop c_word hr (pv 1)) pe_str (by rfl)) (pw_and (pt_cmpR op_eq (pe_ix (ixT K) (pixo c_getitem hr (pv 0) (pv 5)) pe_int (fun _ _ => rfl)) pe_str (by rfl)) (pw_and1 (pt_cmpR op_eq (pv 2) pe_str (by rfl)))))) pss_never (pss_one (ps_expr (pe_bm PySem.F.plainAttrs_list PySem.F.slot_list_append PySem.F.type_list_append mt_append (pv 4) (pa_cons (pe_dget2 hu (pcal c_surely_set hr (pa_cons (pv 0) (pa_cons (pv 1) (pa_cons (pv 5) pa_nil)))) (pv 2) pe_non ⟨rfl, rfl, rfl, rfl⟩) pa_nil)))))))
      (pss_cons (ps_setLc (i := 6) rfl sc_one_least.nd rfl rfl (sw_true rfl rfl rfl (by decide +kernel)) (pi_range1 (by rfl) T.b_range (pa_cons (plen c_len hr T.b_len (pa_cons (pv 0) pa_nil)) pa_nil)) (blkOk_by (own := [("node", 5)]) (N := ["way", "rule", "mark", "read_ages", "found", "node", "free", "turn", "start", "goal", "least", "most", "word"]) (sc := defScope (top 67)) (by decide +kernel)) (fun _ _ _ _ _ => pg_name (i := 5) sc_one_least.nd rfl (by first | exact Or.inl rfl | exact Or.inr rfl)) (fun _ _ _ _ _ => pts_one (pt_cmpR op_isN (pe_ix (ixL K) (pv 4) (pv 5) (fun _ _ => rfl)) pe_non (by rfl))) (fun _ _ _ _ _ => (pv 5)))
      (pss_cons (ps_for PassesOwn.never rfl (pi_range1 (by rfl) T.b_range (pa_cons (plen c_len hr T.b_len (pa_cons (pv 0) pa_nil)) pa_nil)) (pg_name (i := 7) sc_one_least.nd rfl (by first | exact Or.inl rfl | exact Or.inr rfl))
      (pss_one (ps_for PassesOwn.never rfl (piL K (pv 6)) (pg_name (i := 5) sc_one_least.nd rfl (by first | exact Or.inl rfl | exact Or.inr rfl))
      (pss_one (ps_for PassesOwn.never rfl (piL K (pmet c_into hr (pv 0) (pa_cons (pv 5) pa_nil))) (pg_tup rfl (pgs_cons (pg_name (i := 8) sc_one_least.nd rfl (by first | exact Or.inl rfl | exact Or.inr rfl)) (pgs_cons (pg_name (i := 9) sc_one_least.nd rfl (by first | exact Or.inl rfl | exact Or.inr rfl)) (pgs_cons (pg_name (i := 10) sc_one_least.nd rfl (by first | exact Or.inl rfl | exact Or.inr rfl)) (pgs_cons (pg_name (i := 11) sc_one_least.nd rfl (by first | exact Or.inl rfl | exact Or.inr rfl)) (pgs_cons (pg_name (i := 12) sc_one_least.nd rfl (by first | exact Or.inl rfl | exact Or.inr rfl)) pgs_nil))))))
      (pss_one (ps_if (PW.pt (pw_and (pt_cmpR op_notN (pe_ix (ixL K) (pv 4) (pv 8) (fun _ _ => rfl)) pe_non (by rfl)) (pw_and1 (PW.pt (pw_or (pt_cmpR op_isN (pe_ix (ixL K) (pv 4) (pv 5) (fun _ _ => rfl)) pe_non (by rfl)) (pw_or1 (pt_cmpR op_lt (pe_op op_add (pe_ix (ixL K) (pv 4) (pv 8) (fun _ _ => rfl)) (pv 10)) (pe_ix (ixL K) (pv 4) (pv 5) (fun _ _ => rfl)) (by rfl)))))))) (pss_one (ps_asg (pe_op op_add (pe_ix (ixL K) (pv 4) (pv 8) (fun _ _ => rfl)) (pv 10)) (pg_sub (pv 4) (pv 5) set_list))) pss_nil)))))))
      (pss_one (ps_ret (pv 4))))))), ?_⟩
    obtain ⟨b1, b2⟩ := hw.bound
    have hw' := hw
    obtain ⟨dx, n0, l0, as, bs, hW⟩ := hw'
    have hts := hW.ok.len
    refine q_asgL (el_lst ea_nil (by decide)) fun f H1 hf e1 h1 => ?_
    -- what the deeds set
    refine q_forR1 (n := (c.n : Int)) (ea_cons (ev_way_len (hw.mono e1) (ev_var rfl)) ea_nil) (by omega) (fun i σ H' => ∃ v5, σ = [some (.ref w), some (.ref r), some (.str m), some (.ref ra), some (.ref f), v5, none, none, none, none, none, none, none] ∧ Ex H H' ∧ H' f = some (.lst ((List.range i).map fun j => oV .non (c.b al j m)))) (fun H2 e2 => ⟨none, rfl, e1.trans e2, e2 _ _ h1⟩) ?_ ?_
    · rintro i σ H2 hi ⟨v5, rfl, e2, h2⟩
      have hr2 := hrl.mono e2
      refine s_no (et_is (et_and (a := false) (b := true) (et_is (et_test (ev_op (ev_word hr2 (ev_var rfl)) ev_c (rv_eq rfl))) (by cases al <;> decide +kernel)) (fun z => nomatch z)) rfl) fun H3 e3 => ?_
      have e03 := e2.trans e3
      refine s_app (e3 _ _ h2) (ev_var rfl) (v := oV .non (c.b al i m)) (ev_get2 (k := Sum.inr m) (en_call (ea_cons (ev_var rfl) (ea_cons (ev_var rfl) (ea_cons (ev_var rfl) ea_nil))) (sn_surely (hw.mono e03) (hrl.mono e03) (by omega))) (ev_var rfl) ev_c (by rw [valV_kvI, getD_oV] <;> rfl)) (by rw [List.length_map, List.length_range]; omega) fun H4 e4 => ?_
      rw [range_snoc (f := fun j => oV .non (c.b al j m))]
      exact ⟨_, rfl, Ex.mut (e03.trans e4) hf, upd_same⟩
    · rintro σ H2 ⟨v5, rfl, e2, h2⟩
      rw [Int.toNat_natCast] at h2
      refine q_asgL (xs := given c.n (fun i => (c.b al i m).isNone) fun i => .int (i : Int)) ?_ fun fr H3 hfr e3 h3 => ?_
      · refine el_lcR1 (n := (c.n : Int)) (fun i => (c.b al i m).isNone) (fun i => .int (i : Int)) (ea_cons (ev_way_len (hw.mono e2) (ev_var rfl)) ea_nil) (by omega) (fun _ => rfl) (fun i H3 e3 hi => ?_) (fun i H3 e3 hi _ => ev_var rfl)
        refine et_is (et_test (ev_op (ev_op (ev_var rfl) (ev_var rfl) (rv_ixL (SqL.of (e3 _ _ h2)) (atI_nat (map_at (f := fun j => oV .non (c.b al j m)) (by omega))))) ev_c rv_isN)) oV_isN
      have hop0 : ∀ i, (c.b al i m).isNone = true → 1 ≤ i := fun i hi => by
        cases i with
        | zero =>
          obtain ⟨b, hb⟩ := b_first (al := al) hW.ok hm
          rw [hb] at hi
          cases hi
        | succ i => omega
      have hP0 : Part c.n (c.S al m c.lo) .non (opens c.n fun i => (c.b al i m).isNone) ((List.range c.n).map fun j => oV .non (c.b al j m)) := ⟨by rw [List.length_map, List.length_range], fun i hi => by
        rw [map_at (f := fun j => oV .non (c.b al j m)) hi]
        cases hb : c.b al i m with
        | none => exact Or.inr ⟨rfl, mem_opens hi (by rw [hb]; rfl)⟩
        | some b =>
          rw [S_some hb]
          exact Or.inl rfl⟩
      refine q_forR1 (n := (c.n : Int)) (ea_cons (ev_way_len (hw.mono (e2.trans e3)) (ev_var rfl)) ea_nil) (by omega) (fun t => OlI w r ra f fr m (given c.n (fun i => (c.b al i m).isNone) fun i => .int (i : Int)) H fun fs => Part c.n (c.S al m c.lo) .non (opens c.n fun i => (c.b al i m).isNone) fs ∧ (1 ≤ t → Part c.n (c.S al m c.lo) .non [] fs)) (fun H4 e4 => ⟨_, _, _, _, _, _, _, _, rfl, (e2.trans e3).trans e4, e4 _ _ h3, e4 _ _ (e3 _ _ h2), hP0, fun z => by omega⟩) ?_ ?_
      · rintro t σ H4 _ ⟨v5, v7, v8, v9, v10, v11, v12, fs, rfl, e4, h4, h5, hP, _⟩
        refine s_forLn (ev_var rfl) (SqL.of h4) (fun j => OlI w r ra f fr m (given c.n (fun i => (c.b al i m).isNone) fun i => .int (i : Int)) H fun fs => Part c.n (c.S al m c.lo) .non ((opens c.n fun i => (c.b al i m).isNone).drop j) fs) (fun H5 e5 => ⟨_, _, _, _, _, _, _, _, rfl, e4.trans e5, e5 _ _ h4, e5 _ _ h5, hP⟩) (fun _ σ H' _ q => ?_) (fun j x σ H' hj q => ?_) (fun σ H' q => ?_)
        · obtain ⟨_, _, _, _, _, _, _, _, _, _, q, _⟩ := q
          exact SqL.of q
        · obtain ⟨v5, v7, v8, v9, v10, v11, v12, fs, rfl, e6, h6, h7, hQ⟩ := q
          obtain ⟨i, rfl, hi, hfi, hd, hs⟩ := opens_drop hj
          rw [hd] at hQ
          have hi1 := hop0 i hfi
          have hW6 := hW.mono e6
          obtain ⟨b, hinto, hb⟩ := hW6.into1 (σ := [some (.ref w), some (.ref r), some (.str m), some (.ref ra), some (.ref f), some (.int (i : Int)), some (.ref fr), v7, v8, v9, v10, v11, v12]) (ta := tVar 0) (tas := tCons (tVar 5) tNil) (E := E0) hi1 hi (ev_var rfl) (ea_cons (ev_var rfl) ea_nil)
          refine s_forOne hinto fun p H8 hp e8 h8 => ?_
          have hSn : c.S al m c.lo i = c.S al m c.lo (i - 1) + c.lo (i - 1) := by
            cases i with
            | zero => omega
            | succ i => exact S_none (Option.isNone_iff_eq_none.mp hfi)
          refine ⟨b, _, rfl, SqT.of (e8 _ _ hb), rfl, _, _, rfl, _, _, rfl, _, _, rfl, _, _, rfl, _, _, rfl, rfl, ?_⟩
          have h78 := e8 _ _ h7
          have hpf : p ≠ f := fun z => by rw [z, h7] at hp; cases hp
          have hfrf : fr ≠ f := fun z => by rw [z, h2] at hfr; cases hfr
          have hpr : atI fs ((i : Int) - 1) = some (.int (c.S al m c.lo (i - 1))) := by
            rw [show (i : Int) - 1 = ((i - 1 : Nat) : Int) by omega]
            exact atI_nat (hQ.pred hs hi1 hi)
          have ev1 : Ev (tOp (rIxL K) (tVar 4) (tVar 8)) [some (.ref w), some (.ref r), some (.str m), some (.ref ra), some (.ref f), some (.int (i : Int)), some (.ref fr), v7, some (.int ((i : Int) - 1)), some (.int (i : Int)), some (.int (c.lo (i - 1))), some (.int (c.hi (i - 1))), some (.str "")] H8 (.int (c.S al m c.lo (i - 1))) := ev_op (ev_var rfl) (ev_var rfl) (rv_ixL (SqL.of h78) hpr)
          have ev2 : ∀ x, fs[i]? = some x → Ev (tOp (rIxL K) (tVar 4) (tVar 5)) [some (.ref w), some (.ref r), some (.str m), some (.ref ra), some (.ref f), some (.int (i : Int)), some (.ref fr), v7, some (.int ((i : Int) - 1)), some (.int (i : Int)), some (.int (c.lo (i - 1))), some (.int (c.hi (i - 1))), some (.str "")] H8 x := fun x hx => ev_op (ev_var rfl) (ev_var rfl) (rv_ixL (SqL.of h78) (atI_nat hx))
          rcases hQ.get i hi with hx | ⟨hx, _⟩
          · -- filled already: no change
            refine s_not (et_is (et_and (a := true) (b := false) (et_is (et_test (ev_op ev1 ev_c rv_notN)) (by kernel_rfl)) fun _ => et_is (et_or (a := false) (b := false) (et_is (et_test (ev_op (ev2 _ hx) ev_c rv_isN)) (by kernel_rfl)) fun _ => et_is (et_test (ev_op (ev_op ev1 (ev_var rfl) rv_I0) (ev2 _ hx) rv_I0)) (decide_eq_false (by omega))) rfl) rfl) fun H9 e9 => ?_
            exact ⟨e9 _ _ h8, _, _, _, _, _, _, _, fs, rfl, (e6.trans e8).trans e9, e9 _ _ (e8 _ _ h6), e9 _ _ h78, hQ.skip hx⟩
          · refine s_yes (et_is (et_and (a := true) (b := true) (et_is (et_test (ev_op ev1 ev_c rv_notN)) (by kernel_rfl)) fun _ => et_is (et_or (a := true) (b := true) (et_is (et_test (ev_op (ev2 _ hx) ev_c rv_isN)) (by kernel_rfl)) fun z => nomatch z) rfl) rfl) fun H9 e9 => ?_
            refine s_setL (xs := fs) (j := i) (v := .int (c.S al m c.lo i)) (e9 _ _ h78) (ev_is (ev_op (ev1.mono e9) (ev_var rfl) rv_I0) (by rw [hSn])) (ev_var rfl) (ev_var rfl) (by rw [hQ.len]; exact hi) fun H10 e10 => ?_
            refine ⟨?_, _, _, _, _, _, _, _, fs.set i _, rfl, Ex.mut (((e6.trans e8).trans e9).trans e10) hf, ?_, upd_same, hQ.put hi⟩
            · rw [upd_ne hpf]
              exact e10 _ _ (e9 _ _ h8)
            · rw [upd_ne hfrf]
              exact e10 _ _ (e9 _ _ (e8 _ _ h6))
        · obtain ⟨v5, v7, v8, v9, v10, v11, v12, fs, rfl, e6, h6, h7, hQ⟩ := q
          rw [opens_end] at hQ
          exact ⟨_, _, _, _, _, _, _, fs, rfl, e6, h6, h7, hQ.any, fun _ => hQ⟩
      · rintro σ H4 ⟨v5, v7, v8, v9, v10, v11, v12, fs, rfl, e4, h4, h5, hP, hQ⟩
        have hQ' := hQ (by omega)
        rw [hQ'.eq] at h5
        exact s_ret (ev_var rfl) fun H5 e5 => k f H5 hf (e4.trans e5) (e5 _ _ h5)
def minOf : List Int → Int
  | [] => 0
  | [x] => x
  | x :: y :: r => min x (minOf (y :: r))
theorem minOf_le : ∀ {l : List Int}, ∀ x ∈ l, minOf l ≤ x
  | [], x, h => nomatch h
  | [y], x, h => by
    rw [List.mem_singleton.mp h]
    exact Int.le_refl _
  | y :: z :: r, x, h => by
    show min y (minOf (z :: r)) ≤ x
    rcases List.mem_cons.mp h with h | h
    · rw [h]
      exact Int.min_le_left _ _
    · exact Int.le_trans (Int.min_le_right _ _) (minOf_le x h)
theorem minOf_mem : ∀ {l : List Int}, 0 < l.length → minOf l ∈ l
  | [], h => nomatch h
  | [y], _ => List.mem_singleton.mpr rfl
  | y :: z :: r, _ => by
    show min y (minOf (z :: r)) ∈ _
    rcases Int.le_total y (minOf (z :: r)) with h | h
    · rw [Int.min_eq_left h]
      exact List.mem_cons_self
    · rw [Int.min_eq_right h]
      exact List.mem_cons_of_mem _ (minOf_mem (Nat.succ_pos _))
theorem minOf_eq {l : List Int} {m : Int} (h1 : m ∈ l) (h2 : ∀ y ∈ l, m ≤ y) : m = minOf l :=
  Int.le_antisymm (h2 _ (minOf_mem (List.length_pos_of_mem h1))) (minOf_le _ h1)
/-- the least over the marks -/
def Ch.M (c : Ch) (al : Bool) (L : List Str) (w : Nat → Int) (i : Nat) : Int := minOf (L.map fun m => c.S al m w i)
theorem looks_mks : ∀ L ∈ looksL, ∀ m ∈ L, m ∈ mks := by decide +kernel
theorem looks_pos : ∀ L ∈ looksL, 0 < L.length := by decide +kernel
theorem range_getD {α : Type} {l : List Str} {d : Str} {f : Str → α} : ((List.range l.length).map fun j => f (l.getD j d)) = l.map f := by
  apply List.ext_getElem?
  intro i
  by_cases hi : i < l.length
  · rw [List.getElem?_map, List.getElem?_range hi, List.getElem?_map, List.getElem?_eq_getElem hi]
    show some (f (l.getD i d)) = _
    rw [getD_at hi]
    rfl
  · rw [List.getElem?_eq_none (by rw [List.length_map, List.length_range]; omega), List.getElem?_eq_none (by rw [List.length_map]; omega)]
/-- min of a list just made of ints -/
theorem ev_minN {σ : L2.St} {te : TE} {ns : List Int} (h : EvL te σ H (ns.map V.int)) (hn : 0 < ns.length) : Ev (tCB (rMin K) (tCons te tNil)) σ H (.int (minOf ns)) := fun H1 e Q q => h H1 e _ fun p H2 hp e2 h2 => ⟨p, ns, rfl, SqL.of h2, hn, fun m h3 h4 => by
  rw [minOf_eq h3 h4]
  exact q H2 e2⟩
abbrev TabsR (c : Ch) (al : Bool) (L : List Str) (w : Nat → Int) : Nat → V → Hp → Prop := fun j v H => ∃ p, v = .ref p ∧ H p = some (.lst (tabL c (c.S al (L.getD j "") w)))
theorem tabs_keeps (c : Ch) (al : Bool) (L : List Str) (w : Nat → Int) : Keeps (TabsR c al L w) := fun i v H H1 e ⟨p, hv, h⟩ => ⟨p, hv, e _ _ h⟩
def sp_least_table (K : PySem.W.Frag) : Sp := SpNew fun vs H o => ∃ (w r a : Addr) (c : Ch) (al : Bool) (L : List Str), vs = [.ref w, .ref r, .ref a] ∧ WayAt K H w c ∧ RuleAt K H r al ∧ LooksAt H a L ∧ L ∈ looksL ∧ o = .lst (tabL c (c.M al L c.lo))
theorem sn_least_table {w r a : Addr} {c : Ch} {al : Bool} {L : List Str} (h : WayAt K H w c) (hr : RuleAt K H r al) (ha : LooksAt H a L) (hL : L ∈ looksL) : SpN (sp_least_table K) [.ref w, .ref r, .ref a] H (.lst (tabL c (c.M al L c.lo))) := sn_of fun _ e => ⟨w, r, a, c, al, L, rfl, h.mono e, hr.mono e, e _ _ ha, hL, rfl⟩
-- slots of least_table: 0 way 1 rule 2 looks 3 read_ages 4 tables 5 mark 6 table 7 node
theorem sc_least_table : FnScope ["way", "rule", "looks", "read_ages", "tables", "mark", "table", "node"] ["way", "rule", "looks"] (defScope (top 66)) := ⟨rfl, rfl, rfl, by decide +kernel, rfl, by decide +kernel, by decide +kernel⟩
theorem k_least_table (T : Txt K mg) (c_all_ages : Cal P w K mg base 5 "all_ages" (sp_all_ages K)) (c_one_least : Cal P w K mg base 7 "one_least" (sp_one_least K)) (c_len : Lno P w K mg base 1 (ga K "Way") (sp_way_len K)) : Cal P w K mg base 8 "least_table" (sp_least_table K) := by
  refine cal_of T.d_least_table T.g_least_table sc_least_table (fun _ _ _ _ _ _ us hl => match us, hl with | [_, _, _], _ => rfl) (fun vs H Q E h => ?_) (fun cdv A outer s H vs Q E hr h => ?_)
  · obtain ⟨o, ⟨w, r, a, c, al, L, rfl, hw, hrl, ha, hL, rfl⟩, k⟩ := h
    rfl
  · obtain ⟨o, ⟨w, r, a, c, al, L, rfl, hw, hrl, ha, hL, rfl⟩, k⟩ := h
    have hu := hu_of hr
    refine ⟨_, (pss_cons (ps_set (i := 3) sc_least_table.nd rfl (by first | exact Or.inl rfl | exact Or.inr rfl) (pcal c_all_ages hr (pa_cons (pv 0) (pa_cons (pv 1) pa_nil))))
      (pss_cons (ps_set (i := 4) sc_least_table.nd rfl (by first | exact Or.inl rfl | exact Or.inr rfl) (pe_lc rfl sc_least_table.nd (piT K (pv 2)) (blkOk_by (own := [("mark", 5)]) (N := ["way", "rule", "looks", "read_ages", "tables", "mark", "table", "node"]) (sc := defScope (top 66)) (by decide +kernel)) (fun _ _ _ _ _ => pg_name (i := 5) sc_least_table.nd rfl (by first | exact Or.inl rfl | exact Or.inr rfl)) (fun _ _ _ _ _ => pts_nil) (fun _ _ _ _ _ => (pcal c_one_least hr (pa_cons (pv 0) (pa_cons (pv 1) (pa_cons (pv 5) (pa_cons (pv 3) pa_nil))))))))
      (pss_one (ps_ret (pe_lc rfl sc_least_table.nd (pi_range1 (by rfl) T.b_range (pa_cons (plen c_len hr T.b_len (pa_cons (pv 0) pa_nil)) pa_nil)) (blkOk_by (own := [("node", 7)]) (N := ["way", "rule", "looks", "read_ages", "tables", "mark", "table", "node"]) (sc := defScope (top 66)) (by decide +kernel)) (fun _ _ _ _ _ => pg_name (i := 7) sc_least_table.nd rfl (by first | exact Or.inl rfl | exact Or.inr rfl)) (fun _ _ _ _ _ => pts_nil) (fun _ _ _ _ _ => (pe_callB (cmin K) (by rfl) T.b_min boot_min (pa_cons (pe_lc rfl sc_least_table.nd (piL K (pv 4)) (blkOk_by (own := [("table", 6)]) (N := ["way", "rule", "looks", "read_ages", "tables", "mark", "table", "node"]) (sc := { kind := .function, names := [(".0", .local), ("node", .cell), ("min", .globalImplicit), ("tables", .cell)], isGenerator := false, isCoroutine := false }) (by decide +kernel)) (fun _ _ _ _ _ => pg_name (i := 6) sc_least_table.nd rfl (by first | exact Or.inl rfl | exact Or.inr rfl)) (fun _ _ _ _ _ => pts_nil) (fun _ _ _ _ _ => (pe_callTy call_int1 (by rfl) T.b_int boot_int (pa_cons (pe_ix (ixL K) (pv 6) (pv 7) (fun _ _ => rfl)) pa_nil)))) pa_nil)))))))), ?_⟩
    obtain ⟨b1, b2⟩ := hw.bound
    have hL3 := looks_le L hL
    have hl : (L.map V.str).length = L.length := List.length_map _
    refine q_asgP (evp_call (ea_cons (ev_var rfl) (ea_cons (ev_var rfl) ea_nil)) (spp_all_ages hw hrl)) fun v H1 e1 hv => ?_
    obtain ⟨ra, rfl⟩ := hv
    refine q_asgP (ep_lcT (tabs_keeps c al L c.lo) (ev_var rfl) (SqT.of (e1 _ _ ha)) (by omega) (fun _ => rfl) (fun i x H2 Dl zs e2 hD h2 hx => ?_)) fun v H2 e2 hv => ?_
    · have hi : i < L.length := by
        rw [← hl]
        exact (List.getElem?_eq_some_iff.mp hx).1
      have hxe : x = .str (L.getD i "") := by
        rw [List.getElem?_map, List.getElem?_eq_getElem hi] at hx
        cases hx
        rw [getD_at hi]
      subst hxe
      have e12 := e1.trans e2
      refine fun H3 e3 Q q => en_call (ea_cons (ev_var rfl) (ea_cons (ev_var rfl) (ea_cons (ev_var rfl) (ea_cons (ev_var rfl) ea_nil)))) (sn_one_least (hw.mono e12) (hrl.mono e12) (looks_mks L hL _ (by rw [getD_at hi]; exact List.getElem_mem hi))) H3 e3 Q fun p H4 hp e4 h4 => q _ H4 e4 ⟨p, rfl, ?_⟩
      rw [off_ne (fun z => by rw [z, e3 _ _ h2] at hp; cases hp)]
      exact h4
    · obtain ⟨tb, zs, rfl, htb, h2, hz, hR⟩ := hv
      rw [hl] at hz
      have hw2 := (hw.mono e1).mono e2
      have hlst : EvL (tLc (iRng1 (tCons (tCB (KX.rLenO (ga K "Way") (sp_way_len K)) (tCons (tVar 0) tNil)) tNil)) (gName 7) tYes (tCB (rMin K) (tCons (tLc (iList K (tVar 4)) (gName 6) tYes (tCB (fun xs H Q => (∃ i, xs = [V.int i] ∧ Q (.int i) H) ∨ ∃ k, xs = [.bl k] ∧ Q (.int (if k then 1 else 0)) H) (tCons (tOp (rIxL K) (tVar 6) (tVar 7)) tNil)) [6]) tNil)) [7]) [some (.ref w), some (.ref r), some (.ref a), some (.ref ra), some (.ref tb), none, none, none] H2 (tabL c (c.M al L c.lo)) := by
        refine (fun z => by rw [given_all] at z; exact z) (el_lcR1 (n := (c.n : Int)) (fun _ => true) (fun i => .int (c.M al L c.lo i)) (ea_cons (ev_way_len hw2 (ev_var rfl)) ea_nil) (by omega) (fun _ => rfl) (fun _ _ _ _ => et_tYes) (fun i H3 e3 hi _ => ?_))
        refine ev_minN (ns := L.map fun m => c.S al m c.lo i) ?_ (by rw [List.length_map]; exact looks_pos L hL)
        have : ((L.map fun m => c.S al m c.lo i).map V.int) = given zs.length (fun _ => true) fun j => .int (c.S al (L.getD j "") c.lo i) := by
          rw [given_all, hz, range_getD (f := fun m => V.int (c.S al m c.lo i)), List.map_map]
          rfl
        rw [this]
        refine el_lcL (xs := zs) (fun _ => true) _ (ev_var rfl) (SqL.of (e3 _ _ h2)) (by omega) (fun _ => rfl) (fun _ _ _ _ _ => et_tYes) (fun j x H4 e4 hj _ => ?_)
        obtain ⟨p, rfl, hp⟩ := hR j x hj
        have hp4 := e4 _ _ (e3 _ _ (off_ex _ _ hp))
        exact ev_int1 (ev_op (ev_var rfl) (ev_var rfl) (rv_ixL (SqL.of hp4) (atI_nat (map_at (f := fun i => V.int (c.S al (L.getD j "") c.lo i)) (by omega)))))
      exact s_retL hlst fun p H3 hp e3 h3 => k p H3 (fresh_back (e1.trans e2) hp) ((e1.trans e2).trans e3) h3
end
end K57
-- part D8
/-! Ages: what is read, what is reached at one node. -/
namespace K57
open PySem PySem.Spec PyProof.Rows L2 He Evl
local macro_rules | `(tactic| walk_at "hp") => `(tactic| first | assumption | exact SqT.of (by assumption) | exact SqL.of (by assumption) | exact Txt.t_PLAIN (by assumption) _ | exact Txt.t_MARKS (by assumption) _ | exact Txt.t_WORDS (by assumption) _ | exact Txt.t_PARTS (by assumption) _)
local macro_rules | `(tactic| walk_at "kit") => `(tactic| first | exact kit_ii | exact kit_ib | exact kit_bb | exact kit_tt | exact kit_ss | exact kit_ll)
local macro_rules | `(tactic| walk_at "ty") => `(tactic| first | exact ty_int _ | exact ty_bl _ | exact ty_str _ | exact ty_tup (by assumption) | exact ty_lst (by assumption))
local macro_rules | `(tactic| walk_at "rv") => `(tactic| first | exact rv_I0 | exact rv_I (by decide) | exact rv_I (by assumption) | exact rv_eq rfl | exact rv_ne rfl | exact rv_isN | exact rv_notN | exact rv_ixT (by walk_at "hp") rfl | exact rv_ixL (by walk_at "hp") rfl | exact rv_ixT (by walk_at "hp") (by assumption) | exact rv_ixL (by walk_at "hp") (by assumption) | exact rv_isT (by walk_at "hp") rfl rfl)
local macro_rules | `(tactic| walk_at "ea") => `(tactic| first | exact ea_nil | (refine' ea_cons ?a ?b; (case a => walk_at "ev"); (case b => walk_at "ea")))
local macro_rules | `(tactic| walk_at "eu") => `(tactic| (refine' eu_tup ?a ?b; (case a => walk_at "ea"); (case b => (show List.length _ ≤ 100000; simp only [List.length_cons, List.length_nil]; decide))))
local macro_rules | `(tactic| walk_at "ev") => `(tactic| first
  | exact ev_var rfl
  | exact ev_c
  | (refine' ev_andV ?a (fun _ => ?b); (case a => walk_at "ev"); (case b => walk_at "ev"))
  | (refine' ev_orV ?a (fun _ => ?b); (case a => walk_at "ev"); (case b => walk_at "ev"))
  | (refine' ev_notV ?a; (case a => walk_at "ev"))
  | (refine' ev_chain ?a ?b ?c ?d ?e; (case a => walk_at "ev"); (case b => walk_at "ev"); (case c => walk_at "rv"); (case d => walk_at "ev"); (case e => walk_at "rv"))
  | (refine' ev_isi ?a ?c ?t ?e; (case a => walk_at "ea"); (case c => first | exact ClsV.ty _ | exact ClsV.own _); (case t => walk_at "ty"); (case e => walk_at "kit"))
  | (refine' ev_call ?a ?s; (case a => walk_at "ea"); (case s => walk_at "sv"))
  | (refine' ev_inU ?a ?b ?c ?d; (case a => walk_at "ev"); (case b => walk_at "eu"); (case c => rfl); (case d => rfl))
  | (refine' ev_niU ?a ?b ?c ?d; (case a => walk_at "ev"); (case b => walk_at "eu"); (case c => rfl); (case d => rfl))
  | (refine' ev_op ?a ?b ?r; (case a => walk_at "ev"); (case b => walk_at "ev"); (case r => walk_at "rv"))
  | (refine' ev_un ?a ru_neg; (case a => walk_at "ev"))
  | (refine' ev_len2 ?a ?b; (case a => walk_at "ev"); (case b => first | exact Or.inl (by walk_at "hp") | exact Or.inr (by walk_at "hp")))
  | (refine' ev_int1 ?a; (case a => walk_at "ev"))
  | (refine' ev_intB ?a; (case a => walk_at "ev")))
local macro_rules | `(tactic| walk_at "evr") => `(tactic| (refine' ev_is ?h ?e; (case h => walk_at "ev"); (case e => first | kernel_rfl | rfl)))
local macro_rules | `(tactic| walk_at "et") => `(tactic| first
  | (refine' et_and ?a (fun _ => ?b); (case a => walk_at "et"); (case b => walk_at "et"))
  | (refine' et_or ?a (fun _ => ?b); (case a => walk_at "et"); (case b => walk_at "et"))
  | (refine' et_not ?a; (case a => walk_at "et"))
  | (refine' et_test ?a; (case a => walk_at "ev"))
  | (refine' et_B ?a; (case a => walk_at "ev")))
local macro_rules | `(tactic| walk_at "etr") => `(tactic| (refine' et_is ?h ?e; (case h => walk_at "et"); (case e => first | kernel_rfl | rfl)))
local macro_rules | `(tactic| walk_at "eps") => `(tactic| first | exact EvPs.nil | (refine' EvPs.cons (k := Sum.inr _) ?a ?b ?c; (case a => walk_at "ev"); (case b => walk_at "ev"); (case c => walk_at "eps")))
local macro_rules | `(tactic| walk_at "en") => `(tactic| first | exact en_dnew | (refine' en_disp ?a ?b ?c; (case a => walk_at "eps"); (case b => (show List.length _ ≤ 15; simp only [List.length_cons, List.length_nil]; decide)); (case c => rfl)))
local macro_rules | `(tactic| walk_at "sv") => `(tactic| exact sv_is_whole)
local macro_rules | `(tactic| walk_at "sv") => `(tactic| exact sv_is_between)
local macro_rules | `(tactic| walk_at "sv") => `(tactic| exact sv_is_listed (by assumption))
local macro_rules | `(tactic| walk_at "sv") => `(tactic| exact sv_is_part_of (by walk_at "hp") rfl)
local macro_rules | `(tactic| walk_at "sv") => `(tactic| exact sv_is_time)
local macro_rules | `(tactic| walk_at "sv") => `(tactic| exact sv_is_deed (by assumption))
local macro_rules | `(tactic| walk_at "sv") => `(tactic| exact sv_makes (by assumption))
local macro_rules | `(tactic| walk_at "sv") => `(tactic| exact sv_is_looks (by assumption) (by assumption))
local macro_rules | `(tactic| walk_at "sv") => `(tactic| exact sv_check_rule (by assumption))
local macro_rules | `(tactic| walk_at "sv") => `(tactic| exact sv_is_more)
local macro_rules | `(tactic| walk_at "sv") => `(tactic| exact sv_is_between_t (by omega))
local macro_rules | `(tactic| walk_at "sv") => `(tactic| exact sv_is_between_t (by assumption))
local macro_rules | `(tactic| walk_at "sv") => `(tactic| exact sv_is_time_t (by omega))
local macro_rules | `(tactic| walk_at "sv") => `(tactic| exact sv_is_time_t (by assumption))
local macro_rules | `(tactic| walk_at "sv") => `(tactic| exact sv_check_way (by assumption))
local macro_rules | `(tactic| walk_at "sv") => `(tactic| exact sv_check_node (by assumption) (by assumption))
local macro_rules | `(tactic| walk_at "sv") => `(tactic| exact sv_rule_word (by assumption))
section
variable {P : Program} {w : World} {K : PySem.W.Frag} {mg : Str → Option Value} {base : Heap} {H : Hp}
local macro_rules | `(tactic| walk_at "ev") => `(tactic| assumption)
def sp_check_looks (K : PySem.W.Frag) : Sp := SpVal fun vs H z => ∃ (w r a : Addr) (c : Ch) (al : Bool) (L : List Str) (i : Nat), vs = [.ref w, .ref r, .ref a, .int (i : Int)] ∧ WayAt K H w c ∧ RuleAt K H r al ∧ LooksAt H a L ∧ L ∈ looksL ∧ i < c.n ∧ z = .non
theorem sv_check_looks {w r a : Addr} {c : Ch} {al : Bool} {L : List Str} {i : Nat} (h : WayAt K H w c) (hr : RuleAt K H r al) (ha : LooksAt H a L) (hL : L ∈ looksL) (hi : i < c.n) : SpV (sp_check_looks K) [.ref w, .ref r, .ref a, .int (i : Int)] H .non := sv_of fun _ e => ⟨w, r, a, c, al, L, i, rfl, h.mono e, hr.mono e, e _ _ ha, hL, hi, rfl⟩
-- slots of check_looks: 0 way 1 rule 2 looks 3 node
theorem sc_check_looks : FnScope ["way", "rule", "looks", "node"] ["way", "rule", "looks", "node"] (defScope (top 68)) := ⟨rfl, rfl, rfl, by decide +kernel, rfl, by decide +kernel, by decide +kernel⟩
theorem k_check_looks (T : Txt K mg) (c_check_way : Cal P w K mg base 1 "check_way" (sp_check_way K)) (c_check_rule : Cal P w K mg base 1 "check_rule" (sp_check_rule K)) (c_is_looks : Cal P w K mg base 2 "is_looks" sp_is_looks) (c_check_node : Cal P w K mg base 3 "check_node" (sp_check_node K)) : Cal P w K mg base 4 "check_looks" (sp_check_looks K) := by
  refine cal_of T.d_check_looks T.g_check_looks sc_check_looks (fun _ _ _ _ _ _ us hl => match us, hl with | [_, _, _, _], _ => rfl) (fun vs H Q E h => ?_) (fun cdv A outer s H vs Q E hr h => ?_)
  · obtain ⟨z, ⟨w, r, a, c, al, L, i, rfl, hw, hrl, ha, hL, hi, rfl⟩, k⟩ := h
    rfl
  · obtain ⟨z, ⟨w, r, a, c, al, L, i, rfl, hw, hrl, ha, hL, hi, rfl⟩, k⟩ := h
    have hu := hu_of hr
    refine ⟨_, (pss_cons (ps_expr (pcal c_check_way hr (pa_cons (pv 0) pa_nil)))
      (pss_cons (ps_expr (pcal c_check_rule hr (pa_cons (pv 1) pa_nil)))
      (pss_cons (ps_if (pt_not (pt_val (pcal c_is_looks hr (pa_cons (pv 2) pa_nil)))) (pss_one ps_never) pss_nil)
      (pss_one (ps_expr (pcal c_check_node hr (pa_cons (pv 0) (pa_cons (pv 3) pa_nil)))))))), ?_⟩
    refine q_drop (ev_call (ea_cons (ev_var rfl) ea_nil) (sv_check_way hw)) fun H1 e1 => ?_
    refine q_drop (ev_call (ea_cons (ev_var rfl) ea_nil) (sv_check_rule (hrl.mono e1))) fun H2 e2 => ?_
    have e12 := e1.trans e2
    refine q_not (et_is (et_not (et_test (ev_call (ea_cons (ev_var rfl) ea_nil) (sv_is_looks (e12 _ _ ha) hL)))) rfl) fun H3 e3 => ?_
    exact s_drop (ev_call (ea_cons (ev_var rfl) (ea_cons (ev_var rfl) ea_nil)) (sv_check_node (hw.mono (e12.trans e3)) hi)) fun H4 e4 => k H4 ((e12.trans e3).trans e4)
def sp_least_age (K : PySem.W.Frag) : Sp := SpVal fun vs H z => ∃ (w r a : Addr) (c : Ch) (al : Bool) (L : List Str) (i : Nat), vs = [.ref w, .ref r, .ref a, .int (i : Int)] ∧ WayAt K H w c ∧ RuleAt K H r al ∧ LooksAt H a L ∧ L ∈ looksL ∧ i < c.n ∧ z = .int (c.M al L c.lo i)
theorem sv_least_age {w r a : Addr} {c : Ch} {al : Bool} {L : List Str} {i : Nat} (h : WayAt K H w c) (hr : RuleAt K H r al) (ha : LooksAt H a L) (hL : L ∈ looksL) (hi : i < c.n) : SpV (sp_least_age K) [.ref w, .ref r, .ref a, .int (i : Int)] H (.int (c.M al L c.lo i)) := sv_of fun _ e => ⟨w, r, a, c, al, L, i, rfl, h.mono e, hr.mono e, e _ _ ha, hL, hi, rfl⟩
-- slots of least_age: 0 way 1 rule 2 looks 3 node
theorem sc_least_age : FnScope ["way", "rule", "looks", "node"] ["way", "rule", "looks", "node"] (defScope (top 70)) := ⟨rfl, rfl, rfl, by decide +kernel, rfl, by decide +kernel, by decide +kernel⟩
theorem k_least_age (T : Txt K mg) (c_check_looks : Cal P w K mg base 4 "check_looks" (sp_check_looks K)) (c_least_table : Cal P w K mg base 8 "least_table" (sp_least_table K)) : Cal P w K mg base 9 "least_age" (sp_least_age K) := by
  refine cal_of T.d_least_age T.g_least_age sc_least_age (fun _ _ _ _ _ _ us hl => match us, hl with | [_, _, _, _], _ => rfl) (fun vs H Q E h => ?_) (fun cdv A outer s H vs Q E hr h => ?_)
  · obtain ⟨z, ⟨w, r, a, c, al, L, i, rfl, hw, hrl, ha, hL, hi, rfl⟩, k⟩ := h
    rfl
  · obtain ⟨z, ⟨w, r, a, c, al, L, i, rfl, hw, hrl, ha, hL, hi, rfl⟩, k⟩ := h
    have hu := hu_of hr
    refine ⟨_, (pss_cons (ps_expr (pcal c_check_looks hr (pa_cons (pv 0) (pa_cons (pv 1) (pa_cons (pv 2) (pa_cons (pv 3) pa_nil))))))
      (pss_one (ps_ret (pe_ix (ixL K) (pcal c_least_table hr (pa_cons (pv 0) (pa_cons (pv 1) (pa_cons (pv 2) pa_nil)))) (pv 3) (fun _ _ => rfl))))), ?_⟩
    refine q_drop (ev_call (ea_cons (ev_var rfl) (ea_cons (ev_var rfl) (ea_cons (ev_var rfl) (ea_cons (ev_var rfl) ea_nil)))) (sv_check_looks hw hrl ha hL hi)) fun H1 e1 => ?_
    exact s_ret (ev_opL1 (en_call (ea_cons (ev_var rfl) (ea_cons (ev_var rfl) (ea_cons (ev_var rfl) ea_nil))) (sn_least_table (hw.mono e1) (hrl.mono e1) (e1 _ _ ha) hL)) (fun _ _ => ev_var rfl) fun p H2 hp _ => rv_ixL (SqL.of hp) (atI_nat (map_at (f := fun i => V.int (c.M al L c.lo i)) hi))) fun H2 e2 => k H2 (e1.trans e2)
structure AgesD (K : PySem.W.Frag) (H : Hp) (g w r kd : Addr) (c : Ch) (al : Bool) : Prop where
  ins : ∃ dx ra, H g = some (.ins (ga K "Ages") dx [("way", .ref w), ("rule", .ref r), ("read_ages", ra), ("kept", .ref kd)])
  way : WayAt K H w c
  rule : RuleAt K H r al
section
variable {H1 : Hp} {g w r kd : Addr} {c : Ch} {al : Bool} {σ : L2.St} {te : TE}
theorem AgesD.mond (e : ExD H H1) (h : AgesD K H g w r kd c al) : AgesD K H1 g w r kd c al := ⟨by
  obtain ⟨dx, ra, h⟩ := h.ins
  exact ⟨dx, ra, e.ins h⟩, h.way.mond e, h.rule.mond e⟩
theorem AgesD.mono (e : Ex H H1) (h : AgesD K H g w r kd c al) : AgesD K H1 g w r kd c al := h.mond (.of e)
theorem AgesD.fw (T : Txt K mg) (h : AgesD K H g w r kd c al) (ha : Ev te σ H (.ref g)) : Ev (tFld K te "way") σ H (.ref w) := by
  obtain ⟨dx, ra, z⟩ := h.ins
  exact ev_fld ha z T.c_Ages T.n_Ages_way rfl
theorem AgesD.fr (T : Txt K mg) (h : AgesD K H g w r kd c al) (ha : Ev te σ H (.ref g)) : Ev (tFld K te "rule") σ H (.ref r) := by
  obtain ⟨dx, ra, z⟩ := h.ins
  exact ev_fld ha z T.c_Ages T.n_Ages_rule rfl
theorem AgesD.fk (T : Txt K mg) (h : AgesD K H g w r kd c al) (ha : Ev te σ H (.ref g)) : Ev (tFld K te "kept") σ H (.ref kd) := by
  obtain ⟨dx, ra, z⟩ := h.ins
  exact ev_fld ha z T.c_Ages T.n_Ages_kept rfl
end
def sp_is_told (K : PySem.W.Frag) : Sp := SpVal fun vs H z => ∃ (g w r kd a : Addr) (c : Ch) (al : Bool) (i : Nat), vs = [.ref g, .ref a, .int (i : Int)] ∧ AgesD K H g w r kd c al ∧ z = .bl false
theorem sv_is_told {g w r kd a : Addr} {c : Ch} {al : Bool} {i : Nat} (h : AgesD K H g w r kd c al) : SpV (sp_is_told K) [.ref g, .ref a, .int (i : Int)] H (.bl false) := sv_of fun _ e => ⟨g, w, r, kd, a, c, al, i, rfl, h.mono e, rfl⟩
-- slots of Ages.is_told: 0 self 1 looks 2 node
theorem sc_Ages_is_told : FnScope ["self", "looks", "node"] ["self", "looks", "node"] (defScope (inClass (top 65) 1)) := ⟨rfl, rfl, rfl, by decide +kernel, rfl, by decide +kernel, by decide +kernel⟩
theorem k_Ages_is_told (T : Txt K mg) (c_word : Prp P w K mg base 1 (ga K "Rule") "word" (sp_rule_word K)) (c_getitem : Ixo P w K mg base 3 (ga K "Way") (sp_way_get K)) : Met P w K mg base 5 (ga K "Ages") "is_told" (sp_is_told K) := by
  refine At.met (sp := (sp_is_told K)) ?_ T.c_Ages T.me_Ages_is_told
  refine at_ok T.d_Ages_is_told sc_Ages_is_told (fun _ _ _ _ _ _ us hl => match us, hl with | [_, _, _], _ => rfl) (fun vs H Q E h => ?_) (fun cdv A outer s H vs Q E hr h => ?_)
  · obtain ⟨z, ⟨g, w, r, kd, a, c, al, i, rfl, h, rfl⟩, k⟩ := h
    rfl
  · obtain ⟨z, ⟨g, w, r, kd, a, c, al, i, rfl, h, rfl⟩, k⟩ := h
    have hu := hu_of hr
    refine ⟨_, (pss_one (ps_ret (pe_and (pe_cmpR op_eq (pprop c_word hr (pfld K (pv 0))) pe_str (by rfl)) (pe_and (pe_cmpR op_eq (pe_ix (ixT K) (pixo c_getitem hr (pfld K (pv 0)) (pv 2)) pe_int (fun _ _ => rfl)) pe_str (by rfl)) (pe_one (pe_cmpR (oinS K) pe_str (pv 1) (by rfl))))))), ?_⟩
    exact s_ret (ev_is (ev_andV (a := false) (b := true) (ev_is (ev_op (ev_word h.rule (h.fr T (ev_var rfl))) ev_c (rv_eq rfl)) (by cases al <;> decide +kernel)) (fun z => nomatch z)) rfl) k
/-- the marks that a deed does not set; the backs of those it sets -/
def Ch.rest (c : Ch) (al : Bool) (i : Nat) (L : List Str) : List Str := L.filter fun m => !(c.b al i m).isSome
def Ch.near (c : Ch) (al : Bool) (i : Nat) (L : List Str) : List Int := (L.filter fun m => (c.b al i m).isSome).map fun m => (c.b al i m).getD 0
theorem given_filter {α β : Type} {l : List α} {d : α} {p : α → Bool} {f : α → V} : given l.length (fun j => p (l.getD j d)) (fun j => f (l.getD j d)) = (l.filter p).map f := by
  unfold given
  have h : (List.range l.length).map (fun j => l.getD j d) = l := by
    apply List.ext_getElem?
    intro i
    by_cases hi : i < l.length
    · rw [List.getElem?_map, List.getElem?_range hi, List.getElem?_eq_getElem hi]
      show some (l.getD i d) = _
      rw [getD_at hi]
    · rw [List.getElem?_eq_none (by rw [List.length_map, List.length_range]; omega), List.getElem?_eq_none (by omega)]
  conv => rhs; rw [← h]
  rw [List.filter_map, List.map_map]
  rfl
theorem look_at {L : List Str} {j : Nat} {x : V} (h : (L.map V.str)[j]? = some x) : x = .str (L.getD j "") ∧ j < L.length := by
  have hj : j < L.length := by
    rw [← List.length_map V.str]
    exact (List.getElem?_eq_some_iff.mp h).1
  rw [List.getElem?_map, List.getElem?_eq_getElem hj] at h
  cases h
  rw [getD_at hj]
  exact ⟨rfl, hj⟩
theorem eu_tupOf {σ : L2.St} {te : TE} {xs : List V} (h : EvL te σ H xs) : EvU (tCB (fun xs H Q => ∃ p ys, xs = [.ref p] ∧ ((SqL K H p ys ∧ ∀ l, H l = none → Q (.ref l) (upd H l (.tup ys))) ∨ (SqT K H p ys ∧ Q (.ref p) H))) (tCons te tNil)) σ H xs := fun H1 e Q q => h H1 e _ fun p H2 hp e2 h2 => ⟨p, xs, rfl, Or.inl ⟨SqL.of h2, fun l hl => q l _ (fresh_back e2 hl) (e2.trans (Ex.new hl)) upd_same⟩⟩
def sp_rest_of (K : PySem.W.Frag) : Sp := SpNew fun vs H o => ∃ (g w r kd a : Addr) (c : Ch) (al : Bool) (i : Nat) (L : List Str), vs = [.ref g, .ref a, .int (i : Int)] ∧ AgesD K H g w r kd c al ∧ LooksAt H a L ∧ L ∈ looksL ∧ i < c.n ∧ o = .tup ((c.rest al i L).map V.str)
theorem sn_rest_of {g w r kd a : Addr} {c : Ch} {al : Bool} {i : Nat} {L : List Str} (h : AgesD K H g w r kd c al) (ha : LooksAt H a L) (hL : L ∈ looksL) (hi : i < c.n) : SpN (sp_rest_of K) [.ref g, .ref a, .int (i : Int)] H (.tup ((c.rest al i L).map V.str)) := sn_of fun _ e => ⟨g, w, r, kd, a, c, al, i, L, rfl, h.mono e, e _ _ ha, hL, hi, rfl⟩
-- slots of Ages.rest_of: 0 self 1 looks 2 node 3 setting 4 mark
theorem sc_Ages_rest_of : FnScope ["self", "looks", "node", "setting", "mark"] ["self", "looks", "node"] (defScope (inClass (top 65) 2)) := ⟨rfl, rfl, rfl, by decide +kernel, rfl, by decide +kernel, by decide +kernel⟩
theorem k_Ages_rest_of (T : Txt K mg) (c_surely_set : Cal P w K mg base 6 "surely_set" (sp_surely K)) : Met P w K mg base 7 (ga K "Ages") "rest_of" (sp_rest_of K) := by
  refine At.met (sp := (sp_rest_of K)) ?_ T.c_Ages T.me_Ages_rest_of
  refine at_ok T.d_Ages_rest_of sc_Ages_rest_of (fun _ _ _ _ _ _ us hl => match us, hl with | [_, _, _], _ => rfl) (fun vs H Q E h => ?_) (fun cdv A outer s H vs Q E hr h => ?_)
  · obtain ⟨o, ⟨g, w, r, kd, a, c, al, i, L, rfl, h, ha, hL, hi, rfl⟩, k⟩ := h
    rfl
  · obtain ⟨o, ⟨g, w, r, kd, a, c, al, i, L, rfl, h, ha, hL, hi, rfl⟩, k⟩ := h
    have hu := hu_of hr
    refine ⟨_, (pss_cons (ps_set (i := 3) sc_Ages_rest_of.nd rfl (by first | exact Or.inl rfl | exact Or.inr rfl) (pcal c_surely_set hr (pa_cons (pfld K (pv 0)) (pa_cons (pfld K (pv 0)) (pa_cons (pv 2) pa_nil)))))
      (pss_one (ps_ret (pe_callTy call_tuple_of (by rfl) T.b_tuple boot_tuple (pa_cons (pe_lc rfl sc_Ages_rest_of.nd (piT K (pv 1)) (blkOk_by (own := [("mark", 4)]) (N := ["self", "looks", "node", "setting", "mark"]) (sc := defScope (inClass (top 65) 2)) (by decide +kernel)) (fun _ _ _ _ _ => pg_name (i := 4) sc_Ages_rest_of.nd rfl (by first | exact Or.inl rfl | exact Or.inr rfl)) (fun _ _ _ _ _ => pts_one (pt_cmp (pc_dnotin hu (pv 4) (pv 3)))) (fun _ _ _ _ _ => (pv 4))) pa_nil))))), ?_⟩
    have hL3 := looks_le L hL
    have hl : (L.map V.str).length = L.length := List.length_map _
    refine q_asgN (en_call (ea_cons (h.fw T (ev_var rfl)) (ea_cons (h.fr T (ev_var rfl)) (ea_cons (ev_var rfl) ea_nil))) (sn_surely h.way h.rule hi)) fun s H1 hs e1 h1 => ?_
    have lc : EvL (tLc (iTup K (tVar 1)) (gName 4) (tB (tDNotIn (tVar 4) (tVar 3))) (tVar 4) [4]) [some (.ref g), some (.ref a), some (.int (i : Int)), some (.ref s), none] H1 ((c.rest al i L).map V.str) := by
      have z : given (L.map V.str).length (fun j => !(c.b al i (L.getD j "")).isSome) (fun j => .str (L.getD j "")) = (c.rest al i L).map V.str := by
        rw [hl]
        exact given_filter (β := V) (p := fun m => !(c.b al i m).isSome) (f := V.str)
      rw [← z]
      refine el_lcT _ _ (ev_var rfl) (SqT.of (e1 _ _ ha)) (by omega) (fun _ => rfl) (fun j x H2 e2 hj => ?_) (fun j x H2 e2 hj _ => ?_)
      · obtain ⟨rfl, hj'⟩ := look_at hj
        refine et_is (et_B (ev_dnotin (k := Sum.inr (L.getD j "")) (ev_var rfl) (ev_var rfl) (e2 _ _ h1))) ?_
        rw [valV_kvI]
        show (!(Option.map V.int (c.b al i (L.getD j ""))).isSome) = _
        rw [Option.isSome_map]
      · obtain ⟨rfl, hj'⟩ := look_at hj
        exact ev_var rfl
    exact s_retU (eu_tupOf (K := K) lc) fun p H2 hp e2 h2 => k p H2 (fresh_back e1 hp) (e1.trans e2) h2
def sp_nearest (K : PySem.W.Frag) : Sp := SpVal fun vs H z => ∃ (g w r kd a : Addr) (c : Ch) (al : Bool) (i : Nat) (L : List Str), vs = [.ref g, .ref a, .int (i : Int)] ∧ AgesD K H g w r kd c al ∧ LooksAt H a L ∧ L ∈ looksL ∧ i < c.n ∧ z = if (c.near al i L).isEmpty = true then .non else .int (minOf (c.near al i L))
theorem sv_nearest {g w r kd a : Addr} {c : Ch} {al : Bool} {i : Nat} {L : List Str} (h : AgesD K H g w r kd c al) (ha : LooksAt H a L) (hL : L ∈ looksL) (hi : i < c.n) : SpV (sp_nearest K) [.ref g, .ref a, .int (i : Int)] H (if (c.near al i L).isEmpty = true then .non else .int (minOf (c.near al i L))) := sv_of fun _ e => ⟨g, w, r, kd, a, c, al, i, L, rfl, h.mono e, e _ _ ha, hL, hi, rfl⟩
theorem dp_ints : ∀ ns : List Int, DpAll K H (ns.map V.int) (ns.map PyData.int)
  | [] => .nil
  | n :: ns => .cons (.int n) (dp_ints ns)
theorem eqv_empty (ns : List Int) : PyData.eqv (.list (ns.map PyData.int)) (.list []) = ns.isEmpty := by
  cases ns with
  | nil => kernel_rfl
  | cons n ns => kernel_rfl
-- slots of Ages.nearest: 0 self 1 looks 2 node 3 setting 4 found 5 mark 6 back
theorem sc_Ages_nearest : FnScope ["self", "looks", "node", "setting", "found", "mark", "back"] ["self", "looks", "node"] (defScope (inClass (top 65) 3)) := ⟨rfl, rfl, rfl, by decide +kernel, rfl, by decide +kernel, by decide +kernel⟩
theorem k_Ages_nearest (T : Txt K mg) (c_surely_set : Cal P w K mg base 6 "surely_set" (sp_surely K)) : Met P w K mg base 7 (ga K "Ages") "nearest" (sp_nearest K) := by
  refine At.met (sp := (sp_nearest K)) ?_ T.c_Ages T.me_Ages_nearest
  refine at_ok T.d_Ages_nearest sc_Ages_nearest (fun _ _ _ _ _ _ us hl => match us, hl with | [_, _, _], _ => rfl) (fun vs H Q E h => ?_) (fun cdv A outer s H vs Q E hr h => ?_)
  · obtain ⟨z, ⟨g, w, r, kd, a, c, al, i, L, rfl, h, ha, hL, hi, rfl⟩, k⟩ := h
    rfl
  · obtain ⟨z, ⟨g, w, r, kd, a, c, al, i, L, rfl, h, ha, hL, hi, rfl⟩, k⟩ := h
    have hu := hu_of hr
    refine ⟨_, (pss_cons (ps_set (i := 3) sc_Ages_nearest.nd rfl (by first | exact Or.inl rfl | exact Or.inr rfl) (pcal c_surely_set hr (pa_cons (pfld K (pv 0)) (pa_cons (pfld K (pv 0)) (pa_cons (pv 2) pa_nil)))))
      (pss_cons (ps_setLc (i := 4) rfl sc_Ages_nearest.nd rfl rfl (sw_true rfl rfl rfl (by decide +kernel)) (piT K (pv 1)) (blkOk_by (own := [("mark", 5)]) (N := ["self", "looks", "node", "setting", "found", "mark", "back"]) (sc := defScope (inClass (top 65) 3)) (by decide +kernel)) (fun _ _ _ _ _ => pg_name (i := 5) sc_Ages_nearest.nd rfl (by first | exact Or.inl rfl | exact Or.inr rfl)) (fun _ _ _ _ _ => pts_one (pt_cmp (pc_din hu (pv 5) (pv 3)))) (fun _ _ _ _ _ => (pe_dget hu (pv 3) (pv 5) (fun _ _ => rfl))))
      (pss_one (ps_ret (pe_ifExp (pt_cmpR (oeqD K hr.units) (pv 4) (pe_lst pa_nil) (by rfl)) pe_non (pe_callB (cmin K) (by rfl) T.b_min boot_min (pa_cons (pe_lc rfl sc_Ages_nearest.nd (piL K (pv 4)) (blkOk_by (own := [("back", 6)]) (N := ["self", "looks", "node", "setting", "found", "mark", "back"]) (sc := defScope (inClass (top 65) 3)) (by decide +kernel)) (fun _ _ _ _ _ => pg_name (i := 6) sc_Ages_nearest.nd rfl (by first | exact Or.inl rfl | exact Or.inr rfl)) (fun _ _ _ _ _ => pts_nil) (fun _ _ _ _ _ => (pe_callTy call_int1 (by rfl) T.b_int boot_int (pa_cons (pv 6) pa_nil)))) pa_nil))))))), ?_⟩
    have hL3 := looks_le L hL
    have hl : (L.map V.str).length = L.length := List.length_map _
    refine q_asgN (en_call (ea_cons (h.fw T (ev_var rfl)) (ea_cons (h.fr T (ev_var rfl)) (ea_cons (ev_var rfl) ea_nil))) (sn_surely h.way h.rule hi)) fun s H1 hs e1 h1 => ?_
    refine q_asgL (xs := (c.near al i L).map V.int) ?_ fun f H2 hf e2 h2 => ?_
    · have z : given (L.map V.str).length (fun j => (c.b al i (L.getD j "")).isSome) (fun j => .int ((c.b al i (L.getD j "")).getD 0)) = (c.near al i L).map V.int := by
        rw [hl]
        refine (given_filter (β := V) (p := fun m => (c.b al i m).isSome) (f := fun m => V.int ((c.b al i m).getD 0))).trans ?_
        rw [Ch.near, List.map_map]
        rfl
      rw [← z]
      refine el_lcT _ _ (ev_var rfl) (SqT.of (e1 _ _ ha)) (by omega) (fun _ => rfl) (fun j x H2 e2 hj => ?_) (fun j x H2 e2 hj hs => ?_)
      · obtain ⟨rfl, hj'⟩ := look_at hj
        refine et_is (et_B (ev_din (k := Sum.inr (L.getD j "")) (ev_var rfl) (ev_var rfl) (e2 _ _ h1))) ?_
        rw [valV_kvI]
        show (Option.map V.int (c.b al i (L.getD j ""))).isSome = _
        rw [Option.isSome_map]
      · obtain ⟨rfl, hj'⟩ := look_at hj
        obtain ⟨b, hb⟩ := Option.isSome_iff_exists.mp hs
        refine ev_dget (k := Sum.inr (L.getD j "")) (ev_var rfl) (ev_var rfl) (e2 _ _ h1) ?_
        rw [valV_kvI]
        show Option.map V.int (c.b al i (L.getD j "")) = _
        rw [hb]
        rfl
    have hlen : (c.near al i L).length ≤ 3 := by
      rw [Ch.near, List.length_map]
      exact Nat.le_trans (List.length_filter_le _ _) hL3
    refine s_ret (ev_if (b := (c.near al i L).isEmpty) (et_test (ev_opL (ev_var rfl) (el_lst ea_nil (by decide)) fun p H3 hp e3 H4 e4 Q q => ⟨_, _, .lst (SqL.of (e4 _ _ (e3 _ _ h2))) (dp_ints _), .lst (SqL.of (e4 _ _ hp)) .nil, PySem.W.shaped_ints _, by decide +kernel, by rw [eqv_empty]; exact q H4 (Ex.refl H4)⟩)) (fun hE => ?_) (fun hE => ?_)) fun H3 e3 => k H3 ((e1.trans e2).trans e3)
    · rw [if_pos hE]
      exact ev_c
    · rw [if_neg (by rw [hE]; decide)]
      refine ev_minN ?_ (by
        cases hq : c.near al i L with
        | nil => rw [hq] at hE; cases hE
        | cons _ _ => exact Nat.succ_pos _)
      have z : (c.near al i L).map V.int = given ((c.near al i L).map V.int).length (fun _ => true) fun j => .int ((c.near al i L).getD j 0) := by
        rw [given_all, List.length_map]
        apply List.ext_getElem?
        intro j
        by_cases hj : j < (c.near al i L).length
        · rw [List.getElem?_map, List.getElem?_map, List.getElem?_range hj, List.getElem?_eq_getElem hj]
          show _ = some (V.int ((c.near al i L).getD j 0))
          rw [getD_at hj]
          rfl
        · rw [List.getElem?_eq_none (by rw [List.length_map]; omega), List.getElem?_eq_none (by rw [List.length_map, List.length_range]; omega)]
      rw [z]
      refine el_lcL (fun _ => true) _ (ev_var rfl) (SqL.of h2) (by rw [List.length_map]; omega) (fun _ => rfl) (fun _ _ _ _ _ => et_tYes) (fun j x H3 e3 hj _ => ?_)
      have hj' : j < (c.near al i L).length := by
        rw [← List.length_map V.int]
        exact (List.getElem?_eq_some_iff.mp hj).1
      rw [List.getElem?_map, List.getElem?_eq_getElem hj'] at hj
      cases hj
      rw [getD_at hj']
      exact ev_int1 (ev_var rfl)
def sp_arriving (K : PySem.W.Frag) : Sp := SpVal fun vs H z => ∃ (g w r kd t : Addr) (c : Ch) (al : Bool) (i : Nat) (fs : List V) (a : Int), vs = [.ref g, .ref t, .int (i : Int)] ∧ AgesD K H g w r kd c al ∧ H t = some (.lst fs) ∧ 1 ≤ i ∧ i < c.n ∧ fs[i - 1]? = some (.int a) ∧ 0 ≤ a ∧ z = .int (a + c.hi (i - 1))
theorem sv_arriving {g w r kd t : Addr} {c : Ch} {al : Bool} {i : Nat} {fs : List V} {a : Int} (h : AgesD K H g w r kd c al) (ht : H t = some (.lst fs)) (h1 : 1 ≤ i) (hi : i < c.n) (ha : fs[i - 1]? = some (.int a)) (h0 : 0 ≤ a) : SpV (sp_arriving K) [.ref g, .ref t, .int (i : Int)] H (.int (a + c.hi (i - 1))) := sv_of fun _ e => ⟨g, w, r, kd, t, c, al, i, fs, a, rfl, h.mono e, e _ _ ht, h1, hi, ha, h0, rfl⟩
-- slots of Ages.arriving: 0 self 1 table 2 node 3 found 4 start 5 goal 6 least 7 most 8 word 9 age 10 later
theorem sc_Ages_arriving : FnScope ["self", "table", "node", "found", "start", "goal", "least", "most", "word", "age", "later"] ["self", "table", "node"] (defScope (inClass (top 65) 4)) := ⟨rfl, rfl, rfl, by decide +kernel, rfl, by decide +kernel, by decide +kernel⟩
theorem k_Ages_arriving (T : Txt K mg) (c_into : Met P w K mg base 1 (ga K "Way") "into" (sp_way_into K)) (c_is_more : Cal P w K mg base 1 "is_more" sp_is_more) : Met P w K mg base 2 (ga K "Ages") "arriving" (sp_arriving K) := by
  refine At.met (sp := (sp_arriving K)) ?_ T.c_Ages T.me_Ages_arriving
  refine at_ok T.d_Ages_arriving sc_Ages_arriving (fun _ _ _ _ _ _ us hl => match us, hl with | [_, _, _], _ => rfl) (fun vs H Q E h => ?_) (fun cdv A outer s H vs Q E hr h => ?_)
  · obtain ⟨z, ⟨g, w, r, kd, t, c, al, i, fs, a, rfl, h, ht, h1, hi, ha, h0, rfl⟩, k⟩ := h
    rfl
  · obtain ⟨z, ⟨g, w, r, kd, t, c, al, i, fs, a, rfl, h, ht, h1, hi, ha, h0, rfl⟩, k⟩ := h
    have hu := hu_of hr
    refine ⟨_, (pss_cons (ps_set (i := 3) sc_Ages_arriving.nd rfl (by first | exact Or.inl rfl | exact Or.inr rfl) (pe_un un_neg pe_int))
      (pss_cons (ps_for PassesOwn.never rfl (piL K (pmet c_into hr (pfld K (pv 0)) (pa_cons (pv 2) pa_nil))) (pg_tup rfl (pgs_cons (pg_name (i := 4) sc_Ages_arriving.nd rfl (by first | exact Or.inl rfl | exact Or.inr rfl)) (pgs_cons (pg_name (i := 5) sc_Ages_arriving.nd rfl (by first | exact Or.inl rfl | exact Or.inr rfl)) (pgs_cons (pg_name (i := 6) sc_Ages_arriving.nd rfl (by first | exact Or.inl rfl | exact Or.inr rfl)) (pgs_cons (pg_name (i := 7) sc_Ages_arriving.nd rfl (by first | exact Or.inl rfl | exact Or.inr rfl)) (pgs_cons (pg_name (i := 8) sc_Ages_arriving.nd rfl (by first | exact Or.inl rfl | exact Or.inr rfl)) pgs_nil))))))
      (pss_cons (ps_set (i := 9) sc_Ages_arriving.nd rfl (by first | exact Or.inl rfl | exact Or.inr rfl) (pe_ix (ixL K) (pv 1) (pv 4) (fun _ _ => rfl)))
      (pss_one (ps_if (pt_cmpR op_ne (pv 9) (pe_un un_neg pe_int) (by rfl)) (pss_cons (ps_set (i := 10) sc_Ages_arriving.nd rfl (by first | exact Or.inl rfl | exact Or.inr rfl) (pe_ifExp (PW.pt (pw_or (pt_cmpR op_isN (pv 9) pe_non (by rfl)) (pw_or1 (pt_cmpR op_isN (pv 7) pe_non (by rfl))))) pe_non (pe_op op_add (pv 9) (pv 7))))
      (pss_one (ps_set (i := 3) sc_Ages_arriving.nd rfl (by first | exact Or.inl rfl | exact Or.inr rfl) (pe_ifExp (pt_val (pcal c_is_more hr (pa_cons (pv 10) (pa_cons (pv 3) pa_nil)))) (pv 10) (pv 3))))) pss_nil))))
      (pss_one (ps_ret (pv 3))))), ?_⟩
    obtain ⟨dx, n0, l0, as, bs, hW⟩ := h.way
    have hts := hW.ok.len
    have htk := hW.ok.tok (i - 1) (by omega)
    have hpr : atI fs ((i : Int) - 1) = some (.int a) := by
      rw [show (i : Int) - 1 = ((i - 1 : Nat) : Int) by omega]
      exact atI_nat ha
    refine q_asg (v := .int (-1)) (ev_un ev_c ru_neg) fun H1 e1 => ?_
    obtain ⟨b, hinto, hb⟩ := (hW.mono e1).into1 (σ := [some (.ref g), some (.ref t), some (.int (i : Int)), some (.int (-1)), none, none, none, none, none, none, none]) (ta := tFld K (tVar 0) "way") (tas := tCons (tVar 2) tNil) (E := E0) h1 hi ((h.mono e1).fw T (ev_var rfl)) (ea_cons (ev_var rfl) ea_nil)
    refine q_forOne hinto fun p H2 hp e2 h2 => ?_
    have ht2 := e2 _ _ (e1 _ _ ht)
    refine ⟨b, _, rfl, SqT.of (e2 _ _ hb), rfl, _, _, rfl, _, _, rfl, _, _, rfl, _, _, rfl, _, _, rfl, rfl, ?_⟩
    refine q_asg (v := .int a) (ev_op (ev_var rfl) (ev_var rfl) (rv_ixL (SqL.of ht2) hpr)) fun H3 e3 => ?_
    refine s_yes (et_is (et_test (ev_op (ev_var rfl) (ev_un ev_c ru_neg) (rv_ne rfl))) (by
      rw [decide_eq_false]
      · rfl
      · intro z
        injection z with z
        omega)) fun H4 e4 => ?_
    refine q_asg (v := .int (a + c.hi (i - 1))) (ev_if (b := false) (et_is (et_or (a := false) (b := false) (et_is (et_test (ev_op (ev_var rfl) ev_c rv_isN)) (by kernel_rfl)) fun _ => et_is (et_test (ev_op (ev_var rfl) ev_c rv_isN)) (by kernel_rfl)) rfl) (fun z => nomatch z) fun _ => ev_op (ev_var rfl) (ev_var rfl) rv_I0) fun H5 e5 => ?_
    refine s_asg (v := .int (a + c.hi (i - 1))) (ev_if (b := true) (et_is (et_test (ev_call (ea_cons (ev_var rfl) (ea_cons (ev_var rfl) ea_nil)) sv_is_more)) (decide_eq_true (by omega))) (fun _ => ev_var rfl) fun z => nomatch z) fun H6 e6 => ?_
    have e26 := ((e3.trans e4).trans e5).trans e6
    exact ⟨e26 _ _ h2, s_ret (ev_var rfl) fun H7 e7 => k H7 ((e1.trans e2).trans (e26.trans e7))⟩
end
end K57
-- part C3
/-! The table of a row of marks by the tables of fewer; what is kept of them. -/
namespace K57
open PySem PySem.Spec PyProof.Rows L2 He Evl
section
variable {c : Ch} {al : Bool} {L : List Str} {w : Nat → Int} {i j : Nat} {m : Str}
theorem near_nil (h : c.near al i L = []) : ∀ m ∈ L, c.b al i m = none := fun m hm => by
  have h2 := List.filter_eq_nil_iff.mp (List.map_eq_nil_iff.mp h) m hm
  cases hb : c.b al i m with
  | none => rfl
  | some b =>
    rw [hb] at h2
    exact absurd rfl h2
theorem mem_near {x : Int} : x ∈ c.near al i L ↔ ∃ m ∈ L, c.b al i m = some x := by
  unfold Ch.near
  rw [List.mem_map]
  constructor
  · rintro ⟨m, hm, rfl⟩
    obtain ⟨h1, h2⟩ := List.mem_filter.mp hm
    obtain ⟨b, hb⟩ := Option.isSome_iff_exists.mp h2
    exact ⟨m, h1, by rw [hb]; rfl⟩
  · rintro ⟨m, hm, hb⟩
    exact ⟨m, List.mem_filter.mpr ⟨hm, by rw [hb]; rfl⟩, by rw [hb]; rfl⟩
theorem mem_rest : m ∈ c.rest al i L ↔ m ∈ L ∧ c.b al i m = none := by
  unfold Ch.rest
  rw [List.mem_filter]
  constructor
  · rintro ⟨h1, h2⟩
    refine ⟨h1, ?_⟩
    cases hb : c.b al i m with
    | none => rfl
    | some b =>
      rw [hb] at h2
      cases h2
  · rintro ⟨h1, h2⟩
    exact ⟨h1, by rw [h2]; rfl⟩
theorem mem_M {x : Int} : x ∈ (L.map fun m => c.S al m w i) ↔ ∃ m ∈ L, c.S al m w i = x := List.mem_map
theorem M_mem (h : 0 < L.length) : ∃ m ∈ L, c.S al m w i = c.M al L w i := mem_M.mp (minOf_mem (by rw [List.length_map]; exact h))
theorem M_le (h : m ∈ L) : c.M al L w i ≤ c.S al m w i := minOf_le _ (mem_M.mpr ⟨m, h, rfl⟩)
theorem M_is {x : Int} (h1 : ∃ m ∈ L, c.S al m w i = x) (h2 : ∀ m ∈ L, x ≤ c.S al m w i) : x = c.M al L w i := minOf_eq (mem_M.mpr h1) fun y hy => by
  obtain ⟨m, hm, rfl⟩ := mem_M.mp hy
  exact h2 m hm
/-- all set here -/
theorem M_near (hL : 0 < L.length) (h : c.rest al i L = []) : c.M al L w i = minOf (c.near al i L) := by
  have hs : ∀ m ∈ L, ∃ b, c.b al i m = some b := fun m hm => by
    cases hb : c.b al i m with
    | none =>
      have := mem_rest.mpr ⟨hm, hb⟩
      rw [h] at this
      cases this
    | some b => exact ⟨b, rfl⟩
  refine minOf_eq (mem_near.mpr ?_) fun y hy => ?_
  · obtain ⟨m, hm, e⟩ := M_mem (c := c) (al := al) (w := w) (i := i) hL
    obtain ⟨b, hb⟩ := hs m hm
    rw [S_some hb] at e
    exact ⟨m, hm, by rw [hb, e]⟩
  · obtain ⟨m, hm, hb⟩ := mem_near.mp hy
    have := M_le (c := c) (al := al) (w := w) (i := i) hm
    rw [S_some hb] at this
    exact this
/-- none set here -/
theorem M_open (hL : 0 < L.length) (h : c.near al (j + 1) L = []) : c.M al L w (j + 1) = c.M al L w j + w j := by
  have hn := near_nil h
  symm
  obtain ⟨m, hm, e⟩ := M_mem (c := c) (al := al) (w := w) (i := j) hL
  refine M_is ⟨m, hm, by rw [S_none (hn m hm), e]⟩ fun k hk => ?_
  rw [S_none (hn k hk)]
  have := M_le (c := c) (al := al) (w := w) (i := j) hk
  omega
theorem M_both (hN : 0 < (c.near al (j + 1) L).length) (hR : 0 < (c.rest al (j + 1) L).length) :
    (if c.M al (c.rest al (j + 1) L) w j + w j > minOf (c.near al (j + 1) L) then minOf (c.near al (j + 1) L) else c.M al (c.rest al (j + 1) L) w j + w j) = c.M al L w (j + 1) := by
  obtain ⟨m1, h1, e1⟩ := mem_near.mp (minOf_mem hN)
  obtain ⟨m2, h2, e2⟩ := M_mem (c := c) (al := al) (w := w) (i := j) hR
  obtain ⟨h2a, h2b⟩ := mem_rest.mp h2
  have hle : ∀ m ∈ L, minOf (c.near al (j + 1) L) ≤ c.S al m w (j + 1) ∨ c.M al (c.rest al (j + 1) L) w j + w j ≤ c.S al m w (j + 1) := fun m hm => by
    cases hb : c.b al (j + 1) m with
    | some b =>
      rw [S_some hb]
      exact Or.inl (minOf_le _ (mem_near.mpr ⟨m, hm, hb⟩))
    | none =>
      rw [S_none hb]
      have := M_le (c := c) (al := al) (w := w) (i := j) (mem_rest.mpr ⟨hm, hb⟩)
      exact Or.inr (by omega)
  by_cases h : c.M al (c.rest al (j + 1) L) w j + w j > minOf (c.near al (j + 1) L)
  · rw [if_pos h]
    refine M_is ⟨m1, h1, S_some e1⟩ fun m hm => ?_
    rcases hle m hm with z | z <;> omega
  · rw [if_neg h]
    refine M_is ⟨m2, h2a, by rw [S_none h2b, e2]⟩ fun m hm => ?_
    rcases hle m hm with z | z <;> omega
theorem M_nn (dok : c.Dok) (hw : ∀ i, i + 1 < c.n → 0 ≤ w i) (hL : 0 < L.length) (hi : i < c.n) : 0 ≤ c.M al L w i := by
  obtain ⟨m, _, e⟩ := M_mem (c := c) (al := al) (w := w) (i := i) hL
  rw [← e]
  exact S_nn dok hw i hi
theorem rest_first (ok : c.Ok) (hL : L ∈ looksL) : c.rest al 0 L = [] := by
  cases hq : c.rest al 0 L with
  | nil => rfl
  | cons m r =>
    have hm := (mem_rest (c := c) (al := al) (i := 0) (L := L)).mp (by rw [hq]; exact List.mem_cons_self)
    obtain ⟨b, hb⟩ := b_first (al := al) ok (looks_mks L hL m hm.1)
    rw [hb] at hm
    cases hm.2
theorem near_first (ok : c.Ok) (hL : L ∈ looksL) : c.near al 0 L ≠ [] := fun h => by
  have hp := looks_pos L hL
  have hm : L[0] ∈ L := List.getElem_mem hp
  have := near_nil h _ hm
  obtain ⟨b, hb⟩ := b_first (al := al) ok (looks_mks L hL _ hm)
  rw [hb] at this
  cases this
theorem looks_sub3 : ∀ L ∈ looksL, ∀ a b d : Bool, (L.filter fun m : Str => if m = "read" then a else if m = "written" then b else d) = [] ∨ (L.filter fun m : Str => if m = "read" then a else if m = "written" then b else d) ∈ looksL := by decide +kernel
theorem looks_sub (hL : L ∈ looksL) (p : Str → Bool) : L.filter p = [] ∨ L.filter p ∈ looksL := by
  have e : L.filter p = L.filter fun m : Str => if m = "read" then p "read" else if m = "written" then p "written" else p "changed" := by
    refine List.filter_congr fun m hm => ?_
    have hk := looks_mks L hL m hm
    have hm' : m = "read" ∨ m = "written" ∨ m = "changed" := by
      simpa [mks] using hk
    rcases hm' with rfl | rfl | rfl
    · rw [if_pos rfl]
    · rw [if_neg (by decide), if_pos rfl]
    · rw [if_neg (by decide), if_neg (by decide)]
  rw [e]
  exact looks_sub3 L hL _ _ _
theorem rest_looks (hL : L ∈ looksL) : c.rest al i L = [] ∨ c.rest al i L ∈ looksL := looks_sub hL _
theorem rest_lt (h : c.near al i L ≠ []) : (c.rest al i L).length < L.length := by
  have hp : 0 < (c.near al i L).length := List.length_pos_iff.mpr h
  obtain ⟨m, hm, hb⟩ := mem_near.mp (List.getElem_mem hp)
  rcases Nat.lt_or_ge (c.rest al i L).length L.length with z | z
  · exact z
  · have e : c.rest al i L = L := List.filter_eq_self.mpr fun x hx => by
      have := List.filter_sublist (p := fun m => !(c.b al i m).isSome) (l := L)
      have e2 := this.eq_of_length_le z
      have : x ∈ c.rest al i L := by
        show x ∈ L.filter fun m => !(c.b al i m).isSome
        rw [e2]
        exact hx
      rw [(mem_rest.mp this).2] <;> rfl
    have : m ∈ c.rest al i L := by
      rw [e]
      exact hm
    rw [(mem_rest.mp this).2] at hb
    cases hb
end
/-- what settled answers -/
def Ch.St (c : Ch) (al : Bool) (L : List Str) (i : Nat) : Int := if (c.near al i L).isEmpty = true then -1 else c.M al L c.hi i

/-! ### what is kept -/
def keyL (L : List Str) : List Key := L.map Sum.inr
theorem keyL_kV (L : List Str) : (keyL L).map kV = L.map V.str := by
  rw [keyL, List.map_map]
  rfl
theorem keyL_inj {L L' : List Str} (h : keyL L = keyL L') : L = L' := by
  have e : ∀ M : List Str, (keyL M).map (fun k => match k with
    | Sum.inr s => s
    | Sum.inl _ => "") = M := fun M => by
    rw [keyL, List.map_map]
    exact (List.map_congr_left fun x _ => rfl).trans (List.map_id M)
  rw [← e L, h, e L']
def KeptAt (H : Hp) (kd : Addr) (F : Addr → Prop) (c : Ch) (al : Bool) : Prop := ∃ kvs : List (List Key × V), H kd = some (.dT kvs) ∧ (kvs.map Prod.fst).Nodup ∧ ∀ q ∈ kvs, ∃ L p, q.1 = keyL L ∧ L ∈ looksL ∧ q.2 = .ref p ∧ H p = some (.lst (tabL c (c.M al L c.hi))) ∧ ¬ F p
theorem nodup_le {α : Type} [DecidableEq α] : ∀ {l l' : List α}, l.Nodup → (∀ x ∈ l, x ∈ l') → l.length ≤ l'.length
  | [], _, _, _ => Nat.zero_le _
  | x :: l, l', hn, hs => by
    obtain ⟨h1, h2⟩ := List.nodup_cons.mp hn
    have hx : x ∈ l' := hs x List.mem_cons_self
    have := nodup_le (l' := l'.erase x) h2 fun y hy => (List.mem_erase_of_ne fun (e : y = x) => h1 (e ▸ hy)).mpr (hs y (List.mem_cons_of_mem _ hy))
    rw [List.length_erase_of_mem hx] at this
    have := List.length_pos_of_mem hx
    show l.length + 1 ≤ _
    omega
theorem fst_putK {kvs : List (List Key × V)} {k : List Key} {v : V} : (putK kvs k v).map Prod.fst = if (kvs.any fun kv => decide (kv.1 = k)) = true then kvs.map Prod.fst else kvs.map Prod.fst ++ [k] := by
  unfold putK
  split
  · rw [List.map_map]
    refine List.map_congr_left fun q _ => ?_
    show (if q.1 = k then (q.1, v) else q).1 = q.1
    split <;> rfl
  · rw [List.map_append] <;> rfl
theorem mem_putK {kvs : List (List Key × V)} {k : List Key} {v : V} {q : List Key × V} (h : q ∈ putK kvs k v) : q ∈ kvs ∨ q = (k, v) := by
  unfold putK at h
  split at h
  · obtain ⟨r, hr, e⟩ := List.mem_map.mp h
    by_cases z : r.1 = k
    · rw [if_pos z] at e
      rw [z] at e
      exact Or.inr e.symm
    · rw [if_neg z] at e
      exact Or.inl (e ▸ hr)
  · rcases List.mem_append.mp h with h | h
    · exact Or.inl h
    · exact Or.inr (List.mem_singleton.mp h)
theorem nodup_putK {kvs : List (List Key × V)} {k : List Key} {v : V} (h : (kvs.map Prod.fst).Nodup) : ((putK kvs k v).map Prod.fst).Nodup := by
  rw [fst_putK]
  split
  · exact h
  · rename_i hn
    refine List.nodup_append.mpr ⟨h, List.pairwise_singleton _ k, fun a ha b hb e => hn ?_⟩
    obtain ⟨q, hq, rfl⟩ := List.mem_map.mp ha
    rw [List.mem_singleton.mp hb] at e
    exact List.any_eq_true.mpr ⟨q, hq, decide_eq_true e⟩
section
variable {H H1 : Hp} {kd p q : Addr} {F F' : Addr → Prop} {c : Ch} {al : Bool} {u : HO} {zs : List V} {L : List Str} {kvs : List (List Key × V)}
theorem KeptAt.mono (e : Ex H H1) (h : KeptAt H kd F c al) : KeptAt H1 kd F c al := by
  obtain ⟨kvs, h1, h2, h3⟩ := h
  refine ⟨kvs, e _ _ h1, h2, fun q hq => ?_⟩
  obtain ⟨L, p, a, b, d, f, g⟩ := h3 q hq
  exact ⟨L, p, a, b, d, e _ _ f, g⟩
theorem KeptAt.less (h : KeptAt H kd F' c al) (hf : ∀ b, F b → F' b) : KeptAt H kd F c al := by
  obtain ⟨kvs, h1, h2, h3⟩ := h
  refine ⟨kvs, h1, h2, fun q hq => ?_⟩
  obtain ⟨L, p, a, b, d, f, g⟩ := h3 q hq
  exact ⟨L, p, a, b, d, f, fun z => g (hf _ z)⟩
theorem KeptAt.upd (h : KeptAt H kd F c al) (hp : F p) (hl : H p = some (.lst zs)) : KeptAt (L2.upd H p u) kd F c al := by
  obtain ⟨kvs, h1, h2, h3⟩ := h
  refine ⟨kvs, ?_, h2, fun q hq => ?_⟩
  · rw [upd_ne fun z => by rw [← z, h1] at hl; cases hl]
    exact h1
  · obtain ⟨L, r, a, b, d, f, g⟩ := h3 q hq
    refine ⟨L, r, a, b, d, ?_, g⟩
    rw [upd_ne fun z => g (by rw [z]; exact hp)]
    exact f
theorem KeptAt.add (h : KeptAt H kd F c al) (hp : H p = none) : KeptAt (L2.upd H p u) kd (fun b => F b ∨ b = p) c al := by
  obtain ⟨kvs, h1, h2, h3⟩ := h
  refine ⟨kvs, ?_, h2, fun q hq => ?_⟩
  · rw [upd_ne (ne_of_none h1 hp)]
    exact h1
  · obtain ⟨L, r, a, b, d, f, g⟩ := h3 q hq
    refine ⟨L, r, a, b, d, ?_, fun z => ?_⟩
    · rw [upd_ne (ne_of_none f hp)]
      exact f
    · rcases z with z | z
      · exact g z
      · rw [z, hp] at f
        cases f
theorem KeptAt.len (h1 : H kd = some (.dT kvs)) (h : KeptAt H kd F c al) : kvs.length ≤ 7 := by
  obtain ⟨kvs', h1', h2, h3⟩ := h
  rw [h1] at h1'
  cases h1'
  have := nodup_le (l' := looksL.map keyL) h2 fun k hk => by
    obtain ⟨q, hq, rfl⟩ := List.mem_map.mp hk
    obtain ⟨L, p, a, b, _⟩ := h3 q hq
    rw [a]
    exact List.mem_map.mpr ⟨L, b, rfl⟩
  rw [List.length_map, List.length_map] at this
  exact this
theorem KeptAt.put (h1 : H kd = some (.dT kvs)) (h : KeptAt H kd F c al) (hL : L ∈ looksL) (hp : H p = some (.lst (tabL c (c.M al L c.hi)))) (hf : ¬ F p) : KeptAt (L2.upd H kd (.dT (putK kvs (keyL L) (.ref p)))) kd F c al := by
  obtain ⟨kvs', h1', h2, h3⟩ := h
  rw [h1] at h1'
  cases h1'
  have hne : ∀ r ys, H r = some (.lst ys) → r ≠ kd := fun r ys hr z => by rw [z, h1] at hr; cases hr
  refine ⟨_, upd_same, nodup_putK h2, fun q hq => ?_⟩
  rcases mem_putK hq with hq | rfl
  · obtain ⟨L', r, a, b, d, f, g⟩ := h3 q hq
    refine ⟨L', r, a, b, d, ?_, g⟩
    rw [upd_ne (hne _ _ f)]
    exact f
  · refine ⟨L, p, rfl, hL, rfl, ?_, hf⟩
    rw [upd_ne (hne _ _ hp)]
    exact hp
theorem valV_memT {k : List Key} {v : V} (h : valV kvs k = some v) : (k, v) ∈ kvs := by
  unfold valV at h
  cases hf : kvs.find? fun kv => decide (kv.1 = k) with
  | none => rw [hf] at h; cases h
  | some q =>
    rw [hf] at h
    cases h
    have h1 := List.find?_some hf
    have h2 := List.mem_of_find?_eq_some hf
    rw [← of_decide_eq_true h1]
    exact h2
theorem KeptAt.get {v : V} (h1 : H kd = some (.dT kvs)) (h : KeptAt H kd F c al) (hv : valV kvs (keyL L) = some v) : ∃ p, v = .ref p ∧ H p = some (.lst (tabL c (c.M al L c.hi))) := by
  obtain ⟨kvs', h1', h2, h3⟩ := h
  rw [h1] at h1'
  cases h1'
  obtain ⟨L', p, a, b, d, f, _⟩ := h3 _ (valV_memT hv)
  cases keyL_inj a
  exact ⟨p, d, f⟩
theorem ExD.mut (e : ExD H H1) (h : H p = none) : ExD H (L2.upd H1 p u) := ⟨fun b o n hb => by
  rw [upd_ne (ne_of_none hb h)]
  exact e.keep b o n hb, fun b hb => by
  by_cases z : b = p
  · rw [z]
    exact h
  · rw [upd_ne z] at hb
    exact e.back b hb⟩
theorem ExD.free (e : ExD H H1) (hF : ∀ b, F b → H b ≠ none) : ∀ b, F b → H1 b ≠ none := fun b hb z => hF b hb (e.back b z)
end
/-- a comprehension over a range, its value changing the tables kept -/
theorem lc_D {σ : L2.St} {H : Hp} {te : TE} {tas : TA} {j : Nat} {vs : List Nat} {n : Int} {Q : VK} (v : Nat → V) (I : Addr → Hp → Prop) (h : EvA tas σ H [.int n]) (hn : 0 ≤ n ∧ n ≤ 40000) (hw : ∀ x, wipe ((wipe σ vs).set j (some x)) vs = wipe σ vs)
    (h0 : ∀ Dl H1, Ex H H1 → H1 Dl = none → I Dl (upd H1 Dl (.lst []))) (hI : ∀ Dl H' zs u, I Dl H' → H' Dl = some (.lst zs) → I Dl (upd H' Dl u))
    (he : ∀ (i : Nat) Dl H' zs, (i : Int) < n → I Dl H' → H' Dl = some (.lst zs) → ExD H H' → ∀ Q' : VK, (∀ H4, I Dl H4 → ExD H' H4 → H4 Dl = some (.lst zs) → Q' (v i) H4) → te ((wipe σ vs).set j (some (.int (i : Int)))) H' Q')
    (q : ∀ Dl H', H Dl = none → ExD H H' → I Dl H' → H' Dl = some (.lst ((List.range n.toNat).map v)) → Q (.ref Dl) H') : tLc (iRng1 tas) (gName j) tYes te vs σ H Q := h H (Ex.refl H) _ fun H1 e1 => ⟨n, rfl, by omega, by omega, fun Dl hD => by
  have hD0 := fresh_back e1 hD
  refine lc_range (lo := 0) (n := n.toNat) (fun i H' => ExD H H' ∧ I Dl H' ∧ H' Dl = some (.lst ((List.range i).map v))) ⟨(ExD.of e1).mut hD0, h0 Dl H1 e1 hD, upd_same⟩ (fun i H' hi p => ?_) fun H' p => q Dl H' hD0 p.1 p.2.1 p.2.2
  have e0 : (0 : Int) + (i : Int) = (i : Int) := Int.zero_add _
  show wipe ((wipe σ vs).set j (some (.int ((0 : Int) + (i : Int))))) vs = wipe σ vs ∧ tYes ((wipe σ vs).set j (some (.int ((0 : Int) + (i : Int))))) H' fun b H3 => if b = true then te ((wipe σ vs).set j (some (.int ((0 : Int) + (i : Int))))) H3 fun y H4 => ∃ acc, H4 Dl = some (.lst acc) ∧ acc.length < sizeLine ∧ (ExD H (upd H4 Dl (.lst (acc ++ [y]))) ∧ I Dl (upd H4 Dl (.lst (acc ++ [y]))) ∧ (upd H4 Dl (.lst (acc ++ [y]))) Dl = some (.lst ((List.range (i + 1)).map v))) else (ExD H H3 ∧ I Dl H3 ∧ H3 Dl = some (.lst ((List.range (i + 1)).map v)))
  rw [e0]
  refine ⟨hw _, ?_⟩
  refine he i Dl H' _ (by omega) p.2.1 p.2.2 p.1 (fun y H4 => ∃ acc, H4 Dl = some (.lst acc) ∧ acc.length < sizeLine ∧ (ExD H (upd H4 Dl (.lst (acc ++ [y]))) ∧ I Dl (upd H4 Dl (.lst (acc ++ [y]))) ∧ (upd H4 Dl (.lst (acc ++ [y]))) Dl = some (.lst ((List.range (i + 1)).map v)))) fun H4 hI4 e4 h4 => ⟨_, h4, sz_lt (by rw [List.length_map, List.length_range]; omega), (p.1.trans e4).mut hD0, hI Dl H4 _ _ hI4 h4, by rw [upd_same, range_snoc]⟩⟩
end K57
-- part D9
/-! The tables. -/
namespace K57
open PySem PySem.Spec PyProof.Rows L2 He Evl
local macro_rules | `(tactic| walk_at "hp") => `(tactic| first | assumption | exact SqT.of (by assumption) | exact SqL.of (by assumption) | exact Txt.t_PLAIN (by assumption) _ | exact Txt.t_MARKS (by assumption) _ | exact Txt.t_WORDS (by assumption) _ | exact Txt.t_PARTS (by assumption) _)
local macro_rules | `(tactic| walk_at "kit") => `(tactic| first | exact kit_ii | exact kit_ib | exact kit_bb | exact kit_tt | exact kit_ss | exact kit_ll)
local macro_rules | `(tactic| walk_at "ty") => `(tactic| first | exact ty_int _ | exact ty_bl _ | exact ty_str _ | exact ty_tup (by assumption) | exact ty_lst (by assumption))
local macro_rules | `(tactic| walk_at "rv") => `(tactic| first | exact rv_I0 | exact rv_I (by decide) | exact rv_I (by assumption) | exact rv_eq rfl | exact rv_ne rfl | exact rv_isN | exact rv_notN | exact rv_ixT (by walk_at "hp") rfl | exact rv_ixL (by walk_at "hp") rfl | exact rv_ixT (by walk_at "hp") (by assumption) | exact rv_ixL (by walk_at "hp") (by assumption) | exact rv_isT (by walk_at "hp") rfl rfl)
local macro_rules | `(tactic| walk_at "ea") => `(tactic| first | exact ea_nil | (refine' ea_cons ?a ?b; (case a => walk_at "ev"); (case b => walk_at "ea")))
local macro_rules | `(tactic| walk_at "eu") => `(tactic| (refine' eu_tup ?a ?b; (case a => walk_at "ea"); (case b => (show List.length _ ≤ 100000; simp only [List.length_cons, List.length_nil]; decide))))
local macro_rules | `(tactic| walk_at "ev") => `(tactic| first
  | exact ev_var rfl
  | exact ev_c
  | (refine' ev_andV ?a (fun _ => ?b); (case a => walk_at "ev"); (case b => walk_at "ev"))
  | (refine' ev_orV ?a (fun _ => ?b); (case a => walk_at "ev"); (case b => walk_at "ev"))
  | (refine' ev_notV ?a; (case a => walk_at "ev"))
  | (refine' ev_chain ?a ?b ?c ?d ?e; (case a => walk_at "ev"); (case b => walk_at "ev"); (case c => walk_at "rv"); (case d => walk_at "ev"); (case e => walk_at "rv"))
  | (refine' ev_isi ?a ?c ?t ?e; (case a => walk_at "ea"); (case c => first | exact ClsV.ty _ | exact ClsV.own _); (case t => walk_at "ty"); (case e => walk_at "kit"))
  | (refine' ev_call ?a ?s; (case a => walk_at "ea"); (case s => walk_at "sv"))
  | (refine' ev_inU ?a ?b ?c ?d; (case a => walk_at "ev"); (case b => walk_at "eu"); (case c => rfl); (case d => rfl))
  | (refine' ev_niU ?a ?b ?c ?d; (case a => walk_at "ev"); (case b => walk_at "eu"); (case c => rfl); (case d => rfl))
  | (refine' ev_op ?a ?b ?r; (case a => walk_at "ev"); (case b => walk_at "ev"); (case r => walk_at "rv"))
  | (refine' ev_un ?a ru_neg; (case a => walk_at "ev"))
  | (refine' ev_len2 ?a ?b; (case a => walk_at "ev"); (case b => first | exact Or.inl (by walk_at "hp") | exact Or.inr (by walk_at "hp")))
  | (refine' ev_int1 ?a; (case a => walk_at "ev"))
  | (refine' ev_intB ?a; (case a => walk_at "ev")))
local macro_rules | `(tactic| walk_at "evr") => `(tactic| (refine' ev_is ?h ?e; (case h => walk_at "ev"); (case e => first | kernel_rfl | rfl)))
local macro_rules | `(tactic| walk_at "et") => `(tactic| first
  | (refine' et_and ?a (fun _ => ?b); (case a => walk_at "et"); (case b => walk_at "et"))
  | (refine' et_or ?a (fun _ => ?b); (case a => walk_at "et"); (case b => walk_at "et"))
  | (refine' et_not ?a; (case a => walk_at "et"))
  | (refine' et_test ?a; (case a => walk_at "ev"))
  | (refine' et_B ?a; (case a => walk_at "ev")))
local macro_rules | `(tactic| walk_at "etr") => `(tactic| (refine' et_is ?h ?e; (case h => walk_at "et"); (case e => first | kernel_rfl | rfl)))
local macro_rules | `(tactic| walk_at "eps") => `(tactic| first | exact EvPs.nil | (refine' EvPs.cons (k := Sum.inr _) ?a ?b ?c; (case a => walk_at "ev"); (case b => walk_at "ev"); (case c => walk_at "eps")))
local macro_rules | `(tactic| walk_at "en") => `(tactic| first | exact en_dnew | (refine' en_disp ?a ?b ?c; (case a => walk_at "eps"); (case b => (show List.length _ ≤ 15; simp only [List.length_cons, List.length_nil]; decide)); (case c => rfl)))
local macro_rules | `(tactic| walk_at "sv") => `(tactic| exact sv_is_whole)
local macro_rules | `(tactic| walk_at "sv") => `(tactic| exact sv_is_between)
local macro_rules | `(tactic| walk_at "sv") => `(tactic| exact sv_is_listed (by assumption))
local macro_rules | `(tactic| walk_at "sv") => `(tactic| exact sv_is_part_of (by walk_at "hp") rfl)
local macro_rules | `(tactic| walk_at "sv") => `(tactic| exact sv_is_time)
local macro_rules | `(tactic| walk_at "sv") => `(tactic| exact sv_is_deed (by assumption))
local macro_rules | `(tactic| walk_at "sv") => `(tactic| exact sv_makes (by assumption))
local macro_rules | `(tactic| walk_at "sv") => `(tactic| exact sv_is_looks (by assumption) (by assumption))
local macro_rules | `(tactic| walk_at "sv") => `(tactic| exact sv_check_rule (by assumption))
local macro_rules | `(tactic| walk_at "sv") => `(tactic| exact sv_is_more)
local macro_rules | `(tactic| walk_at "sv") => `(tactic| exact sv_is_between_t (by omega))
local macro_rules | `(tactic| walk_at "sv") => `(tactic| exact sv_is_between_t (by assumption))
local macro_rules | `(tactic| walk_at "sv") => `(tactic| exact sv_is_time_t (by omega))
local macro_rules | `(tactic| walk_at "sv") => `(tactic| exact sv_is_time_t (by assumption))
local macro_rules | `(tactic| walk_at "sv") => `(tactic| exact sv_check_way (by assumption))
local macro_rules | `(tactic| walk_at "sv") => `(tactic| exact sv_check_node (by assumption) (by assumption))
local macro_rules | `(tactic| walk_at "sv") => `(tactic| exact sv_rule_word (by assumption))
section
variable {P : Program} {w : World} {K : PySem.W.Frag} {mg : Str → Option Value} {base : Heap} {H : Hp}
local macro_rules | `(tactic| walk_at "ev") => `(tactic| assumption)
theorem q_raw {te : TE} {i : Nat} {tz : TS} {D : Ends} {σ : L2.St} {H : Hp} (h : te σ H fun v H1 => tz D (σ.set i (some v)) H1) : tSeq (tAsg te (gName i)) tz D σ H := h
def SpD (R : List V → Hp → (V → Hp → Prop) → Prop) : Sp := fun vs H Q _ => ∃ P, R vs H P ∧ ∀ v H', ExD H H' → P v H' → Q v H'
def sp_table (K : PySem.W.Frag) (m : Nat) : Sp := SpD fun vs H P => ∃ (g w r kd a : Addr) (c : Ch) (al : Bool) (L : List Str) (F : Addr → Prop), vs = [.ref g, .ref a] ∧ AgesD K H g w r kd c al ∧ KeptAt H kd F c al ∧ (∀ b, F b → H b ≠ none) ∧ LooksAt H a L ∧ L ∈ looksL ∧ L.length ≤ m ∧ P = fun v H' => KeptAt H' kd F c al ∧ ∃ p, v = .ref p ∧ H' p = some (.lst (tabL c (c.M al L c.hi)))
def sp_walked (K : PySem.W.Frag) (m : Nat) : Sp := SpD fun vs H P => ∃ (g w r kd a : Addr) (c : Ch) (al : Bool) (L : List Str) (F : Addr → Prop), vs = [.ref g, .ref a] ∧ AgesD K H g w r kd c al ∧ KeptAt H kd F c al ∧ (∀ b, F b → H b ≠ none) ∧ LooksAt H a L ∧ L ∈ looksL ∧ L.length ≤ m + 1 ∧ P = fun v H' => KeptAt H' kd F c al ∧ ∃ p, v = .ref p ∧ H p = none ∧ H' p = some (.lst (tabL c (c.M al L c.hi)))
def sp_settled (K : PySem.W.Frag) (m : Nat) : Sp := SpD fun vs H P => ∃ (g w r kd a : Addr) (c : Ch) (al : Bool) (L : List Str) (F : Addr → Prop) (i : Nat), vs = [.ref g, .ref a, .int (i : Int)] ∧ AgesD K H g w r kd c al ∧ KeptAt H kd F c al ∧ (∀ b, F b → H b ≠ none) ∧ LooksAt H a L ∧ L ∈ looksL ∧ L.length ≤ m + 1 ∧ i < c.n ∧ P = fun v H' => KeptAt H' kd F c al ∧ v = .int (c.St al L i)
theorem free_mono {F : Addr → Prop} {H1 : Hp} (e : Ex H H1) (hF : ∀ b, F b → H b ≠ none) : ∀ b, F b → H1 b ≠ none := (ExD.of e).free hF
theorem WayAt.hi0 {w : Addr} {c : Ch} (h : WayAt K H w c) : ∀ i, i + 1 < c.n → 0 ≤ c.hi i := fun i hi => by
  obtain ⟨_, _, _, _, _, h⟩ := h
  have := h.ok.len
  have := h.ok.tok i (by omega)
  omega
theorem WayAt.dok {w : Addr} {c : Ch} (h : WayAt K H w c) : c.Dok := by
  obtain ⟨_, _, _, _, _, h⟩ := h
  exact h.nodes.dok
theorem WayAt.ok {w : Addr} {c : Ch} (h : WayAt K H w c) : c.Ok := by
  obtain ⟨_, _, _, _, _, h⟩ := h
  exact h.ok
theorem rest_shaped {L : List Str} (h : L = [] ∨ L ∈ looksL) : SeqAt.shaped (lookD L) = true := by
  rcases h with rfl | h
  · decide +kernel
  · exact looks_shaped L h
theorem look_empty (L : List Str) : PyData.eqv (lookD L) (.tuple []) = L.isEmpty := by
  cases L <;> kernel_rfl
-- slots of Ages.settled: 0 self 1 looks 2 node 3 near 4 rest 5 old
theorem sc_Ages_settled : FnScope ["self", "looks", "node", "near", "rest", "old"] ["self", "looks", "node"] (defScope (inClass (top 65) 5)) := ⟨rfl, rfl, rfl, by decide +kernel, rfl, by decide +kernel, by decide +kernel⟩
theorem k_Ages_settled {m : Nat} (T : Txt K mg) (c_is_told : Met P w K mg base 5 (ga K "Ages") "is_told" (sp_is_told K)) (c_nearest : Met P w K mg base 7 (ga K "Ages") "nearest" (sp_nearest K)) (c_rest_of : Met P w K mg base 7 (ga K "Ages") "rest_of" (sp_rest_of K)) (c_makes : Cal P w K mg base 5 "makes" sp_makes) (c_getitem : Ixo P w K mg base 3 (ga K "Way") (sp_way_get K)) (c_arriving : Met P w K mg base 2 (ga K "Ages") "arriving" (sp_arriving K)) (c_table : Met P w K mg base (3 * m + 7) (ga K "Ages") "table" (sp_table K m)) : Met P w K mg base (3 * m + 8) (ga K "Ages") "settled" (sp_settled K m) := by
  refine At.met (sp := (sp_settled K m)) ?_ T.c_Ages T.me_Ages_settled
  refine at_ok T.d_Ages_settled sc_Ages_settled (fun _ _ _ _ _ _ us hl => match us, hl with | [_, _, _], _ => rfl) (fun vs H Q E h => ?_) (fun cdv A outer s H vs Q E hr h => ?_)
  · obtain ⟨P0, ⟨g, w, r, kd, a, c, al, L, F, i, rfl, h, hk, hF, ha, hL, hm, hi, rfl⟩, k⟩ := h
    rfl
  · obtain ⟨P0, ⟨g, w, r, kd, a, c, al, L, F, i, rfl, h, hk, hF, ha, hL, hm, hi, rfl⟩, k⟩ := h
    have hu := hu_of hr
    have hr7 := hr.mono (show 7 ≤ 3 * m + 7 by omega)
    refine ⟨_, (pss_cons (ps_if (pt_val (pmet c_is_told hr7 (pv 0) (pa_cons (pv 1) (pa_cons (pv 2) pa_nil)))) pss_never pss_nil)
      (pss_cons (ps_set (i := 3) sc_Ages_settled.nd rfl (by first | exact Or.inl rfl | exact Or.inr rfl) (pmet c_nearest hr7 (pv 0) (pa_cons (pv 1) (pa_cons (pv 2) pa_nil))))
      (pss_cons (ps_if (pt_cmpR op_isN (pv 3) pe_non (by rfl)) (pss_one (ps_ret (pe_un un_neg pe_int))) pss_nil)
      (pss_cons (ps_set (i := 4) sc_Ages_settled.nd rfl (by first | exact Or.inl rfl | exact Or.inr rfl) (pmet c_rest_of hr7 (pv 0) (pa_cons (pv 1) (pa_cons (pv 2) pa_nil))))
      (pss_cons (ps_if (PW.pt (pw_or (pt_val (pcal c_makes hr7 (pa_cons (pixo c_getitem hr7 (pfld K (pv 0)) (pv 2)) pa_nil))) (pw_or1 (pt_cmpR (oeqD K hr7.units) (pv 4) (pe_tup pa_nil) (by rfl))))) (pss_one (ps_ret (pv 3))) pss_nil)
      (pss_cons (ps_set (i := 5) sc_Ages_settled.nd rfl (by first | exact Or.inl rfl | exact Or.inr rfl) (pmet c_arriving hr7 (pv 0) (pa_cons (pmet c_table hr (pv 0) (pa_cons (pv 4) pa_nil) (hk := Nat.le_refl _)) (pa_cons (pv 2) pa_nil))))
      (pss_one (ps_ret (pe_ifExp (PW.pt (pw_or (pt_cmpR op_isN (pv 5) pe_non (by rfl)) (pw_or1 (pt_cmpR op_gt (pv 5) (pv 3) (by rfl))))) (pv 3) (pv 5)))))))))), ?_⟩
    have hLp := looks_pos L hL
    have hok := h.way.ok
    obtain ⟨dx, ra, hg⟩ := h.ins
    refine q_not (et_is (et_test (ev_meth (ev_var rfl) hg rfl (ea_cons (ev_var rfl) (ea_cons (ev_var rfl) ea_nil)) (sv_is_told h))) rfl) fun H1 e1 => ?_
    refine q_asg (ev_meth (ev_var rfl) (e1 _ _ hg) rfl (ea_cons (ev_var rfl) (ea_cons (ev_var rfl) ea_nil)) (sv_nearest (h.mono e1) (e1 _ _ ha) hL hi)) fun H2 e2 => ?_
    have e12 := e1.trans e2
    by_cases hE : (c.near al i L).isEmpty = true
    · rw [if_pos hE]
      refine q_yes (et_is (et_test (ev_op (ev_var rfl) ev_c rv_isN)) (by kernel_rfl)) fun H3 e3 => ?_
      exact s_ret (ev_un ev_c ru_neg) fun H4 e4 => k _ H4 (.of ((e12.trans e3).trans e4)) ⟨hk.mono ((e12.trans e3).trans e4), by rw [Ch.St, if_pos hE]⟩
    · rw [if_neg hE]
      refine q_not (et_is (et_test (ev_op (ev_var rfl) ev_c rv_isN)) (by kernel_rfl)) fun H3 e3 => ?_
      have e13 := e12.trans e3
      refine q_asgN (en_meth (ev_var rfl) (e13 _ _ hg) rfl (ea_cons (ev_var rfl) (ea_cons (ev_var rfl) ea_nil)) (sn_rest_of (h.mono e13) (e13 _ _ ha) hL hi)) fun rp H4 hrp e4 h4 => ?_
      have e14 := e13.trans e4
      have h4a := h.mono e14
      have hrl := rest_looks (c := c) (al := al) (i := i) hL
      obtain ⟨dxw, n0, l0, as, bs, hW⟩ := h4a.way
      obtain ⟨da, hda, hdd⟩ := hW.deed hi
      have hmk : EvT (tTest (tCall sp_makes [] E0 (tCons (tOp (KX.rIxO (ga K "Way") (sp_way_get K)) (tFld K (tVar 0) "way") (tVar 2)) tNil))) [some (.ref g), some (.ref a), some (.int (i : Int)), some (.int (minOf (c.near al i L))), some (.ref rp), none] H4 (c.d i).makes := et_test (ev_call (ea_cons (ev_way_get hW hda (h4a.fw T (ev_var rfl)) (ev_var rfl)) ea_nil) (sv_makes hdd))
      have hre : EvT (tTest (tOp (rEqD K) (tVar 4) (tTup tNil))) [some (.ref g), some (.ref a), some (.int (i : Int)), some (.int (minOf (c.near al i L))), some (.ref rp), none] H4 (c.rest al i L).isEmpty := et_test (ev_eqU (ev_var rfl) (SqT.of h4) (flat_strs _) (by walk_at "eu") rfl (by rw [dat_strs]; exact rest_shaped hrl) (by decide +kernel) (by rw [dat_strs]; exact look_empty _))
      by_cases hret : ((c.d i).makes || (c.rest al i L).isEmpty) = true
      · have hR0 : c.rest al i L = [] := by
          rcases Bool.or_eq_true_iff.mp hret with z | z
          · cases i with
            | zero => exact rest_first hok hL
            | succ i =>
              rw [hok.rest (i + 1) (by omega) hi] at z
              cases z
          · exact List.isEmpty_iff.mp z
        refine q_yes (et_is (et_or hmk fun _ => hre) hret) fun H5 e5 => ?_
        exact s_ret (ev_var rfl) fun H6 e6 => k _ H6 (.of ((e14.trans e5).trans e6)) ⟨hk.mono ((e14.trans e5).trans e6), by rw [Ch.St, if_neg hE, M_near hLp hR0]⟩
      · refine q_not (et_is (et_or hmk fun _ => hre) (Bool.eq_false_iff.mpr hret)) fun H5 e5 => ?_
        have hi0 : i ≠ 0 := fun z => by
          subst z
          rw [hok.first] at hret
          exact hret rfl
        obtain ⟨j, rfl⟩ : ∃ j, i = j + 1 := ⟨i - 1, by omega⟩
        have hRne : c.rest al (j + 1) L ≠ [] := fun z => hret (by rw [z]; exact Bool.or_true _)
        have hRL : c.rest al (j + 1) L ∈ looksL := hrl.resolve_left hRne
        have hNne : c.near al (j + 1) L ≠ [] := fun z => hE (by rw [z]; rfl)
        have hlt := rest_lt hNne
        have hbo := M_both (c := c) (al := al) (L := L) (w := c.hi) (j := j) (List.length_pos_iff.mpr hNne) (List.length_pos_iff.mpr hRne)
        have e15 := e14.trans e5
        refine q_raw ?_
        refine ⟨_, rfl, g, dx, _, rfl, e15 _ _ hg, rfl, _, rfl, g, dx, _, rfl, e15 _ _ hg, rfl, _, rfl, _, ⟨g, w, r, kd, rp, c, al, c.rest al (j + 1) L, F, rfl, h.mono e15, hk.mono e15, free_mono e15 hF, e5 _ _ h4, hRL, by omega, rfl⟩, fun v H6 e6 hv => ?_⟩
        obtain ⟨hk6, p, rfl, hp⟩ := hv
        refine ⟨_, rfl, _, ⟨g, w, r, kd, p, c, al, j + 1, _, c.M al (c.rest al (j + 1) L) c.hi j, rfl, (h.mono e15).mond e6, hp, by omega, hi, map_at (f := fun i => V.int (c.M al (c.rest al (j + 1) L) c.hi i)) (by omega), M_nn h.way.dok h.way.hi0 (List.length_pos_iff.mpr hRne) (by omega), rfl⟩, fun H7 e7 => ?_⟩
        refine s_ret (v := .int (c.M al L c.hi (j + 1))) ?_ fun H8 e8 => k _ H8 ((ExD.of e15).trans (e6.trans (.of (e7.trans e8)))) ⟨hk6.mono (e7.trans e8), by rw [Ch.St, if_neg hE]⟩
        refine ev_if (b := decide (c.M al (c.rest al (j + 1) L) c.hi j + c.hi j > minOf (c.near al (j + 1) L))) (et_is (et_or (a := false) (b := decide (c.M al (c.rest al (j + 1) L) c.hi j + c.hi j > minOf (c.near al (j + 1) L))) (et_is (et_test (ev_op (ev_var rfl) ev_c rv_isN)) (by kernel_rfl)) fun _ => et_test (ev_op (ev_var rfl) (ev_var rfl) rv_I0)) rfl) (fun z => ?_) (fun z => ?_)
        · rw [← hbo, if_pos (of_decide_eq_true z)]
          exact ev_var rfl
        · rw [← hbo, if_neg (of_decide_eq_false z)]
          exact ev_var rfl
end
end K57
-- part D10
/-! The tables, all. -/
namespace K57
open PySem PySem.Spec PyProof.Rows L2 He Evl
local macro_rules | `(tactic| walk_at "hp") => `(tactic| first | assumption | exact SqT.of (by assumption) | exact SqL.of (by assumption) | exact Txt.t_PLAIN (by assumption) _ | exact Txt.t_MARKS (by assumption) _ | exact Txt.t_WORDS (by assumption) _ | exact Txt.t_PARTS (by assumption) _)
local macro_rules | `(tactic| walk_at "kit") => `(tactic| first | exact kit_ii | exact kit_ib | exact kit_bb | exact kit_tt | exact kit_ss | exact kit_ll)
local macro_rules | `(tactic| walk_at "ty") => `(tactic| first | exact ty_int _ | exact ty_bl _ | exact ty_str _ | exact ty_tup (by assumption) | exact ty_lst (by assumption))
local macro_rules | `(tactic| walk_at "rv") => `(tactic| first | exact rv_I0 | exact rv_I (by decide) | exact rv_I (by assumption) | exact rv_eq rfl | exact rv_ne rfl | exact rv_isN | exact rv_notN | exact rv_ixT (by walk_at "hp") rfl | exact rv_ixL (by walk_at "hp") rfl | exact rv_ixT (by walk_at "hp") (by assumption) | exact rv_ixL (by walk_at "hp") (by assumption) | exact rv_isT (by walk_at "hp") rfl rfl)
local macro_rules | `(tactic| walk_at "ea") => `(tactic| first | exact ea_nil | (refine' ea_cons ?a ?b; (case a => walk_at "ev"); (case b => walk_at "ea")))
local macro_rules | `(tactic| walk_at "eu") => `(tactic| (refine' eu_tup ?a ?b; (case a => walk_at "ea"); (case b => (show List.length _ ≤ 100000; simp only [List.length_cons, List.length_nil]; decide))))
local macro_rules | `(tactic| walk_at "ev") => `(tactic| first
  | exact ev_var rfl
  | exact ev_c
  | (refine' ev_andV ?a (fun _ => ?b); (case a => walk_at "ev"); (case b => walk_at "ev"))
  | (refine' ev_orV ?a (fun _ => ?b); (case a => walk_at "ev"); (case b => walk_at "ev"))
  | (refine' ev_notV ?a; (case a => walk_at "ev"))
  | (refine' ev_chain ?a ?b ?c ?d ?e; (case a => walk_at "ev"); (case b => walk_at "ev"); (case c => walk_at "rv"); (case d => walk_at "ev"); (case e => walk_at "rv"))
  | (refine' ev_isi ?a ?c ?t ?e; (case a => walk_at "ea"); (case c => first | exact ClsV.ty _ | exact ClsV.own _); (case t => walk_at "ty"); (case e => walk_at "kit"))
  | (refine' ev_call ?a ?s; (case a => walk_at "ea"); (case s => walk_at "sv"))
  | (refine' ev_inU ?a ?b ?c ?d; (case a => walk_at "ev"); (case b => walk_at "eu"); (case c => rfl); (case d => rfl))
  | (refine' ev_niU ?a ?b ?c ?d; (case a => walk_at "ev"); (case b => walk_at "eu"); (case c => rfl); (case d => rfl))
  | (refine' ev_op ?a ?b ?r; (case a => walk_at "ev"); (case b => walk_at "ev"); (case r => walk_at "rv"))
  | (refine' ev_un ?a ru_neg; (case a => walk_at "ev"))
  | (refine' ev_len2 ?a ?b; (case a => walk_at "ev"); (case b => first | exact Or.inl (by walk_at "hp") | exact Or.inr (by walk_at "hp")))
  | (refine' ev_int1 ?a; (case a => walk_at "ev"))
  | (refine' ev_intB ?a; (case a => walk_at "ev")))
local macro_rules | `(tactic| walk_at "evr") => `(tactic| (refine' ev_is ?h ?e; (case h => walk_at "ev"); (case e => first | kernel_rfl | rfl)))
local macro_rules | `(tactic| walk_at "et") => `(tactic| first
  | (refine' et_and ?a (fun _ => ?b); (case a => walk_at "et"); (case b => walk_at "et"))
  | (refine' et_or ?a (fun _ => ?b); (case a => walk_at "et"); (case b => walk_at "et"))
  | (refine' et_not ?a; (case a => walk_at "et"))
  | (refine' et_test ?a; (case a => walk_at "ev"))
  | (refine' et_B ?a; (case a => walk_at "ev")))
local macro_rules | `(tactic| walk_at "etr") => `(tactic| (refine' et_is ?h ?e; (case h => walk_at "et"); (case e => first | kernel_rfl | rfl)))
local macro_rules | `(tactic| walk_at "eps") => `(tactic| first | exact EvPs.nil | (refine' EvPs.cons (k := Sum.inr _) ?a ?b ?c; (case a => walk_at "ev"); (case b => walk_at "ev"); (case c => walk_at "eps")))
local macro_rules | `(tactic| walk_at "en") => `(tactic| first | exact en_dnew | (refine' en_disp ?a ?b ?c; (case a => walk_at "eps"); (case b => (show List.length _ ≤ 15; simp only [List.length_cons, List.length_nil]; decide)); (case c => rfl)))
local macro_rules | `(tactic| walk_at "sv") => `(tactic| exact sv_is_whole)
local macro_rules | `(tactic| walk_at "sv") => `(tactic| exact sv_is_between)
local macro_rules | `(tactic| walk_at "sv") => `(tactic| exact sv_is_listed (by assumption))
local macro_rules | `(tactic| walk_at "sv") => `(tactic| exact sv_is_part_of (by walk_at "hp") rfl)
local macro_rules | `(tactic| walk_at "sv") => `(tactic| exact sv_is_time)
local macro_rules | `(tactic| walk_at "sv") => `(tactic| exact sv_is_deed (by assumption))
local macro_rules | `(tactic| walk_at "sv") => `(tactic| exact sv_makes (by assumption))
local macro_rules | `(tactic| walk_at "sv") => `(tactic| exact sv_is_looks (by assumption) (by assumption))
local macro_rules | `(tactic| walk_at "sv") => `(tactic| exact sv_check_rule (by assumption))
local macro_rules | `(tactic| walk_at "sv") => `(tactic| exact sv_is_more)
local macro_rules | `(tactic| walk_at "sv") => `(tactic| exact sv_is_between_t (by omega))
local macro_rules | `(tactic| walk_at "sv") => `(tactic| exact sv_is_between_t (by assumption))
local macro_rules | `(tactic| walk_at "sv") => `(tactic| exact sv_is_time_t (by omega))
local macro_rules | `(tactic| walk_at "sv") => `(tactic| exact sv_is_time_t (by assumption))
local macro_rules | `(tactic| walk_at "sv") => `(tactic| exact sv_check_way (by assumption))
local macro_rules | `(tactic| walk_at "sv") => `(tactic| exact sv_check_node (by assumption) (by assumption))
local macro_rules | `(tactic| walk_at "sv") => `(tactic| exact sv_rule_word (by assumption))
section
variable {P : Program} {w : World} {K : PySem.W.Frag} {mg : Str → Option Value} {base : Heap} {H : Hp}
local macro_rules | `(tactic| walk_at "ev") => `(tactic| assumption)
theorem cmul_n {n : Int} : CMul 2 n := Or.inl ⟨by decide, by decide⟩
theorem ev_dgetT {σ : L2.St} {ta tb : TE} {d b : Addr} {kvs : List (List Key × V)} {k : List Key} {v : V} (ha : Ev ta σ H (.ref d)) (hb : Ev tb σ H (.ref b)) (hd : H d = some (.dT kvs)) (hk : H b = some (.tup (k.map kV))) (hv : valV kvs k = some v) : Ev (tDGet ta tb) σ H v := fun H1 e Q q =>
  ha H1 e _ fun H2 e2 => hb H2 (e.trans e2) _ fun H3 e3 => ⟨d, v, rfl, by rw [← hv]; exact DGet.t (((e.trans e2).trans e3) _ _ hd) (((e.trans e2).trans e3) _ _ hk), q H3 (e2.trans e3)⟩
theorem St_open {c : Ch} {al : Bool} {L : List Str} {i : Nat} (h : 0 ≤ c.M al L c.hi i) : decide (V.int (c.St al L i) = V.int (-1)) = (c.near al i L).isEmpty := by
  unfold Ch.St
  by_cases e : (c.near al i L).isEmpty = true
  · rw [if_pos e, e]
    exact decide_eq_true rfl
  · rw [if_neg e, Bool.eq_false_iff.mpr e]
    refine decide_eq_false fun z => ?_
    injection z with z
    omega
def WaI (g a n f pa : Addr) (many : Nat) (xs : List V) (H0 : Hp) (F : Addr → Prop) (kd : Addr) (c : Ch) (al : Bool) (Q : List V → Prop) (σ : L2.St) (H' : Hp) : Prop := ∃ (v4 v6 v7 : Option V) (fs : List V), σ = [some (.ref g), some (.ref a), some (.int (many : Int)), some (.ref f), v4, some (.ref pa), v6, v7] ∧ ExD H0 H' ∧ KeptAt H' kd F c al ∧ H' pa = some (.lst xs) ∧ H' f = some (.lst fs) ∧ Q fs
def WaI_t (g a n f pa : Addr) (many : Nat) (xs : List V) (H0 : Hp) (F : Addr → Prop) (kd : Addr) (c : Ch) (al : Bool) (t : Nat) (Q : List V → Prop) (σ : L2.St) (H' : Hp) : Prop := ∃ (v4 v7 : Option V) (fs : List V), σ = [some (.ref g), some (.ref a), some (.int (many : Int)), some (.ref f), v4, some (.ref pa), some (.int (t : Int)), v7] ∧ ExD H0 H' ∧ KeptAt H' kd F c al ∧ H' pa = some (.lst xs) ∧ H' f = some (.lst fs) ∧ Q fs
-- slots of Ages.walked: 0 self 1 looks 2 many 3 found 4 node 5 passing 6 turn 7 old
theorem sc_Ages_walked : FnScope ["self", "looks", "many", "found", "node", "passing", "turn", "old"] ["self", "looks"] (defScope (inClass (top 65) 7)) := ⟨rfl, rfl, rfl, by decide +kernel, rfl, by decide +kernel, by decide +kernel⟩
theorem k_Ages_walked {m : Nat} (T : Txt K mg) (c_len : Lno P w K mg base 1 (ga K "Way") (sp_way_len K)) (c_settled : Met P w K mg base (3 * m + 8) (ga K "Ages") "settled" (sp_settled K m)) (c_arriving : Met P w K mg base 2 (ga K "Ages") "arriving" (sp_arriving K)) (c_is_more : Cal P w K mg base 1 "is_more" sp_is_more) : Met P w K mg base (3 * m + 9) (ga K "Ages") "walked" (sp_walked K m) := by
  refine At.met (sp := (sp_walked K m)) ?_ T.c_Ages T.me_Ages_walked
  refine at_ok T.d_Ages_walked sc_Ages_walked (fun _ _ _ _ _ _ us hl => match us, hl with | [_, _], _ => rfl) (fun vs H Q E h => ?_) (fun cdv A outer s H vs Q E hr h => ?_)
  · obtain ⟨P0, ⟨g, w, r, kd, a, c, al, L, F, rfl, h, hk, hF, ha, hL, hm, rfl⟩, k⟩ := h
    rfl
  · obtain ⟨P0, ⟨g, w, r, kd, a, c, al, L, F, rfl, h, hk, hF, ha, hL, hm, rfl⟩, k⟩ := h
    have hu := hu_of hr
    have hr7 := hr.mono (show 7 ≤ 3 * m + 8 by omega)
    refine ⟨_, (pss_cons (ps_set (i := 2) sc_Ages_walked.nd rfl (by first | exact Or.inl rfl | exact Or.inr rfl) (plen c_len hr7 T.b_len (pa_cons (pfld K (pv 0)) pa_nil)))
      (pss_cons (ps_set (i := 3) sc_Ages_walked.nd rfl (by first | exact Or.inl rfl | exact Or.inr rfl) (pe_lc rfl sc_Ages_walked.nd (pi_range1 (by rfl) T.b_range (pa_cons (pv 2) pa_nil)) (blkOk_by (own := [("node", 4)]) (N := ["self", "looks", "many", "found", "node", "passing", "turn", "old"]) (sc := defScope (inClass (top 65) 7)) (by decide +kernel)) (fun _ _ _ _ _ => pg_name (i := 4) sc_Ages_walked.nd rfl (by first | exact Or.inl rfl | exact Or.inr rfl)) (fun _ _ _ _ _ => pts_nil) (fun _ _ _ _ _ => (pmet c_settled hr (pv 0) (pa_cons (pv 1) (pa_cons (pv 4) pa_nil)) (hk := Nat.le_refl _)))))
      (pss_cons (ps_setLc (i := 5) rfl sc_Ages_walked.nd rfl rfl (sw_true rfl rfl rfl (by decide +kernel)) (pi_range1 (by rfl) T.b_range (pa_cons (pv 2) pa_nil)) (blkOk_by (own := [("node", 4)]) (N := ["self", "looks", "many", "found", "node", "passing", "turn", "old"]) (sc := defScope (inClass (top 65) 7)) (by decide +kernel)) (fun _ _ _ _ _ => pg_name (i := 4) sc_Ages_walked.nd rfl (by first | exact Or.inl rfl | exact Or.inr rfl)) (fun _ _ _ _ _ => pts_one (pt_cmpR op_eq (pe_ix (ixL K) (pv 3) (pv 4) (fun _ _ => rfl)) (pe_un un_neg pe_int) (by rfl))) (fun _ _ _ _ _ => (pv 4)))
      (pss_cons (ps_for PassesOwn.never rfl (pi_range1 (by rfl) T.b_range (pa_cons (pe_op op_add (pe_op op_mul pe_int (pv 2)) pe_int) pa_nil)) (pg_name (i := 6) sc_Ages_walked.nd rfl (by first | exact Or.inl rfl | exact Or.inr rfl))
      (pss_one (ps_for PassesOwn.never rfl (piL K (pv 5)) (pg_name (i := 4) sc_Ages_walked.nd rfl (by first | exact Or.inl rfl | exact Or.inr rfl))
      (pss_cons (ps_set (i := 7) sc_Ages_walked.nd rfl (by first | exact Or.inl rfl | exact Or.inr rfl) (pmet c_arriving hr7 (pv 0) (pa_cons (pv 3) (pa_cons (pv 4) pa_nil))))
      (pss_one (ps_if (pt_val (pcal c_is_more hr7 (pa_cons (pv 7) (pa_cons (pe_ix (ixL K) (pv 3) (pv 4) (fun _ _ => rfl)) pa_nil)))) (pss_one (ps_asg (pe_ifExp (pt_cmpR op_gt (pv 6) (pv 2) (by rfl)) pe_non (pv 7)) (pg_sub (pv 3) (pv 4) set_list))) pss_nil))))))
      (pss_one (ps_ret (pv 3))))))), ?_⟩
    obtain ⟨b1, b2⟩ := h.way.bound
    have hLp := looks_pos L hL
    have hok := h.way.ok
    have hnn : ∀ i, i < c.n → 0 ≤ c.M al L c.hi i := fun i hi => M_nn h.way.dok h.way.hi0 hLp hi
    refine q_asg (ev_way_len h.way (h.fw T (ev_var rfl))) fun H1 e1 => ?_
    refine q_raw ?_
    refine lc_D (n := (c.n : Int)) (fun i => .int (c.St al L i)) (fun f H' => KeptAt H' kd (fun b => F b ∨ b = f) c al) (ea_cons (ev_var rfl) ea_nil) (by omega) (fun _ => rfl) (fun Dl H2 e2 hD => ((hk.mono (e1.trans e2)).add hD)) (fun Dl H' zs u hI hl => hI.upd (Or.inr rfl) hl) (fun i Dl H' zs hi hI hl e' Q' q' => ?_) (fun f H2 hf e2 hI h2 => ?_)
    · have hA := (h.mono e1).mond e'
      obtain ⟨dx, ra, hg⟩ := hA.ins
      refine ⟨_, rfl, g, dx, _, rfl, hg, rfl, _, rfl, _, rfl, _, ⟨g, w, r, kd, a, c, al, L, fun b => F b ∨ b = Dl, i, rfl, hA, hI, fun b hb => ?_, e'.tup (e1 _ _ ha), hL, hm, by omega, rfl⟩, fun v H4 e4 hv => ?_⟩
      · rcases hb with hb | hb
        · exact e'.free (free_mono e1 hF) b hb
        · rw [hb, hl]
          exact fun z => nomatch z
      · obtain ⟨hk4, rfl⟩ := hv
        exact q' H4 hk4 e4 (e4.lst hl)
    · rw [Int.toNat_natCast] at h2
      have e02 := (ExD.of e1).trans e2
      have hf0 := fresh_back e1 hf
      refine q_asgL (xs := given c.n (fun i => (c.near al i L).isEmpty) fun i => .int (i : Int)) ?_ fun pa H3 hpa e3 h3 => ?_
      · refine el_lcR1 (n := (c.n : Int)) (fun i => (c.near al i L).isEmpty) (fun i => .int (i : Int)) (ea_cons (ev_var rfl) ea_nil) (by omega) (fun _ => rfl) (fun i H3 e3 hi => ?_) (fun i H3 e3 hi _ => ev_var rfl)
        exact et_is (et_test (ev_op (ev_op (ev_var rfl) (ev_var rfl) (rv_ixL (SqL.of (e3 _ _ h2)) (atI_nat (map_at (f := fun i => V.int (c.St al L i)) (by omega))))) (ev_un ev_c ru_neg) (rv_eq rfl))) (St_open (hnn i (by omega)))
      have hop0 : ∀ i, (c.near al i L).isEmpty = true → 1 ≤ i := fun i hi => by
        cases i with
        | zero => exact absurd (List.isEmpty_iff.mp hi) (near_first hok hL)
        | succ i => omega
      have hP0 : Part c.n (c.M al L c.hi) (.int (-1)) (opens c.n fun i => (c.near al i L).isEmpty) ((List.range c.n).map fun i => V.int (c.St al L i)) := ⟨by rw [List.length_map, List.length_range], fun i hi => by
        rw [map_at (f := fun i => V.int (c.St al L i)) hi, Ch.St]
        by_cases hE : (c.near al i L).isEmpty = true
        · rw [if_pos hE]
          exact Or.inr ⟨rfl, mem_opens hi hE⟩
        · rw [if_neg hE]
          exact Or.inl rfl⟩
      refine q_forR1 (n := 2 * (c.n : Int) + 1) (ea_cons (ev_op (ev_op ev_c (ev_var rfl) (rv_I cmul_n)) ev_c rv_I0) ea_nil) (by omega) (fun t => WaI g a c.n f pa c.n (given c.n (fun i => (c.near al i L).isEmpty) fun i => .int (i : Int)) H (fun b => F b ∨ b = f) kd c al fun fs => Part c.n (c.M al L c.hi) (.int (-1)) (opens c.n fun i => (c.near al i L).isEmpty) fs ∧ (1 ≤ t → Part c.n (c.M al L c.hi) (.int (-1)) [] fs)) (fun H4 e4 => ⟨_, _, _, _, rfl, e02.trans (.of (e3.trans e4)), hI.mono (e3.trans e4), e4 _ _ h3, e4 _ _ (e3 _ _ h2), hP0, fun z => by omega⟩) ?_ ?_
      · rintro t σ H4 _ ⟨v4, v6, v7, fs, rfl, e4, hk4, h4, h5, hP, hT⟩
        refine s_forLn (ev_var rfl) (SqL.of h4) (fun j => WaI_t g a c.n f pa c.n (given c.n (fun i => (c.near al i L).isEmpty) fun i => .int (i : Int)) H (fun b => F b ∨ b = f) kd c al t fun fs => Part c.n (c.M al L c.hi) (.int (-1)) ((opens c.n fun i => (c.near al i L).isEmpty).drop j) fs ∧ (1 ≤ t → Part c.n (c.M al L c.hi) (.int (-1)) [] fs)) (fun H5 e5 => ⟨_, _, _, rfl, e4.trans (.of e5), hk4.mono e5, e5 _ _ h4, e5 _ _ h5, hP, hT⟩) (fun _ σ H' _ q => ?_) (fun j x σ H' hj q => ?_) (fun σ H' q => ?_)
        · obtain ⟨_, _, _, _, _, _, q, _⟩ := q
          exact SqL.of q
        · obtain ⟨v4, v7, fs, rfl, e6, hk6, h6, h7, hQ, hT⟩ := q
          obtain ⟨i, rfl, hi, hfi, hd, hs⟩ := opens_drop hj
          rw [hd] at hQ
          have hi1 := hop0 i hfi
          have hA := h.mond e6
          obtain ⟨dx, ra, hg⟩ := hA.ins
          obtain ⟨i', rfl⟩ : ∃ i', i = i' + 1 := ⟨i - 1, by omega⟩
          have hSn : c.M al L c.hi (i' + 1) = c.M al L c.hi i' + c.hi i' := M_open hLp (List.isEmpty_iff.mp hfi)
          have hpaf : pa ≠ f := fun z => by rw [z, h2] at hpa; cases hpa
          refine q_asg (v := .int (c.M al L c.hi (i' + 1))) (ev_is (ev_meth (ev_var rfl) hg rfl (ea_cons (ev_var rfl) (ea_cons (ev_var rfl) ea_nil)) (sv_arriving hA h7 hi1 hi (hQ.pred hs hi1 hi) (hnn _ (by omega)))) (by rw [hSn] <;> rfl)) fun H7 e7 => ?_
          have h77 := e7 _ _ h7
          have ev2 : ∀ x, fs[i' + 1]? = some (.int x) → EvT (tTest (tCall sp_is_more [] E0 (tCons (tVar 7) (tCons (tOp (rIxL K) (tVar 3) (tVar 4)) tNil)))) [some (.ref g), some (.ref a), some (.int (c.n : Int)), some (.ref f), some (.int ((i' + 1 : Nat) : Int)), some (.ref pa), some (.int (t : Int)), some (.int (c.M al L c.hi (i' + 1)))] H7 (decide (c.M al L c.hi (i' + 1) > x)) := fun x hx => et_test (ev_call (ea_cons (ev_var rfl) (ea_cons (ev_op (ev_var rfl) (ev_var rfl) (rv_ixL (SqL.of h77) (atI_nat hx))) ea_nil)) sv_is_more)
          rcases hQ.get (i' + 1) hi with hx | ⟨hx, _⟩
          · refine s_not (et_is (ev2 _ hx) (decide_eq_false (by omega))) fun H8 e8 => ?_
            exact ⟨_, _, fs, rfl, e6.trans (.of (e7.trans e8)), hk6.mono (e7.trans e8), (e7.trans e8) _ _ h6, (e7.trans e8) _ _ h7, hQ.skip hx, hT⟩
          · have ht0 : t = 0 := by
              cases t with
              | zero => rfl
              | succ t =>
                have z := (hT (by omega)).full hi
                rw [hx] at z
                have := hnn _ hi
                have z2 := V.int.inj (Option.some.inj z)
                omega
            subst ht0
            refine s_yes (et_is (ev2 _ hx) (decide_eq_true (by have := hnn _ hi; omega))) fun H8 e8 => ?_
            refine s_setL (xs := fs) (j := i' + 1) (v := .int (c.M al L c.hi (i' + 1))) (e8 _ _ h77) (ev_if (b := false) (et_is (et_test (ev_op (ev_var rfl) (ev_var rfl) rv_I0)) (decide_eq_false (by omega))) (fun z => nomatch z) fun _ => ev_var rfl) (ev_var rfl) (ev_var rfl) (by rw [hQ.len]; exact hi) fun H9 e9 => ?_
            have e79 := (e7.trans e8).trans e9
            refine ⟨_, _, fs.set (i' + 1) _, rfl, ((e6.trans (.of e79)).mut hf0), (hk6.mono e79).upd (Or.inr rfl) (e79 _ _ h7), ?_, upd_same, hQ.put hi, fun z => by omega⟩
            rw [upd_ne hpaf]
            exact e79 _ _ h6
        · obtain ⟨v4, v7, fs, rfl, e6, hk6, h6, h7, hQ, hT⟩ := q
          rw [opens_end] at hQ
          exact ⟨_, _, _, fs, rfl, e6, hk6, h6, h7, hQ.any, fun _ => hQ⟩
      · rintro σ H4 ⟨v4, v6, v7, fs, rfl, e4, hk4, h4, h5, hP, hT⟩
        have hQ := hT (by omega)
        rw [hQ.eq] at h5
        exact s_ret (ev_var rfl) fun H5 e5 => k _ H5 (e4.trans (.of e5)) ⟨(hk4.mono e5).less fun b hb => Or.inl hb, f, rfl, hf0, e5 _ _ h5⟩
-- slots of Ages.table: 0 self 1 looks
theorem sc_Ages_table : FnScope ["self", "looks"] ["self", "looks"] (defScope (inClass (top 65) 6)) := ⟨rfl, rfl, rfl, by decide +kernel, rfl, by decide +kernel, by decide +kernel⟩
theorem k_Ages_table {m : Nat} (T : Txt K mg) (c_walked : Met P w K mg base (3 * m + 9) (ga K "Ages") "walked" (sp_walked K m)) : Met P w K mg base (3 * m + 10) (ga K "Ages") "table" (sp_table K (m + 1)) := by
  refine At.met (sp := (sp_table K (m + 1))) ?_ T.c_Ages T.me_Ages_table
  refine at_ok T.d_Ages_table sc_Ages_table (fun _ _ _ _ _ _ us hl => match us, hl with | [_, _], _ => rfl) (fun vs H Q E h => ?_) (fun cdv A outer s H vs Q E hr h => ?_)
  · obtain ⟨P0, ⟨g, w, r, kd, a, c, al, L, F, rfl, h, hk, hF, ha, hL, hm, rfl⟩, k⟩ := h
    rfl
  · obtain ⟨P0, ⟨g, w, r, kd, a, c, al, L, F, rfl, h, hk, hF, ha, hL, hm, rfl⟩, k⟩ := h
    have hu := hu_of hr
    refine ⟨_, (pss_cons (ps_if (pt_cmp (pc_dnotin hu (pv 1) (pfld K (pv 0)))) (pss_one (ps_dput hu (pfld K (pv 0)) (pv 1) (pmet c_walked hr (pv 0) (pa_cons (pv 1) pa_nil) (hk := Nat.le_refl _)) rfl)) pss_nil)
      (pss_one (ps_ret (pe_dget hu (pfld K (pv 0)) (pv 1) (fun _ _ => rfl))))), ?_⟩
    have hk' := hk
    obtain ⟨kvs, h1, h2, h3⟩ := hk'
    obtain ⟨dx, ra, hg⟩ := h.ins
    have hak : H a = some (.tup ((keyL L).map kV)) := by
      rw [keyL_kV]
      exact ha
    have tst : EvT (tB (tDNotIn (tVar 1) (tFld K (tVar 0) "kept"))) (start ["self", "looks"] [.ref g, .ref a]) H (!(valV kvs (keyL L)).isSome) := et_B fun H1 e Q q => ⟨_, rfl, h.fk T (ev_var rfl) H1 e _ fun H2 e2 => ⟨kd, _, rfl, DGet.t ((e.trans e2) _ _ h1) ((e.trans e2) _ _ hak), q H2 e2⟩⟩
    have fin : ∀ H1 kvs1, ExD H H1 → KeptAt H1 kd F c al → H1 kd = some (.dT kvs1) → (∃ v, valV kvs1 (keyL L) = some v) → tRet (tDGet (tFld K (tVar 0) "kept") (tVar 1)) { nx := fun _ H' => Q .non H', rt := Q } (start ["self", "looks"] [.ref g, .ref a]) H1 := fun H1 kvs1 e1 hk1 hkv ⟨v, hv⟩ => by
      obtain ⟨p, rfl, hp⟩ := hk1.get hkv hv
      exact s_ret (ev_dgetT ((h.mond e1).fk T (ev_var rfl)) (ev_var rfl) hkv (e1.tup hak) hv) fun H2 e2 => k _ H2 (e1.trans (.of e2)) ⟨hk1.mono e2, p, rfl, e2 _ _ hp⟩
    cases hv : valV kvs (keyL L) with
    | some v =>
      rw [hv] at tst
      exact q_not tst fun H1 e1 => fin H1 kvs (.of e1) (hk.mono e1) (e1 _ _ h1) ⟨v, hv⟩
    | none =>
      rw [hv] at tst
      refine q_yes tst fun H1 e1 => ?_
      refine ⟨_, rfl, g, dx, _, rfl, e1 _ _ hg, rfl, _, rfl, _, ⟨g, w, r, kd, a, c, al, L, F, rfl, h.mono e1, hk.mono e1, free_mono e1 hF, e1 _ _ ha, hL, by omega, rfl⟩, fun v H2 e2 hv2 => ?_⟩
      obtain ⟨hk2, p, rfl, hpn, hp⟩ := hv2
      have e02 := (ExD.of e1).trans e2
      refine (h.mond e02).fk T (ev_var rfl) H2 (Ex.refl H2) _ fun H3 e3 => ?_
      have hk3 := hk2.mono e3
      have hk3' := hk3
      obtain ⟨kvs3, h3k, _, _⟩ := hk3'
      have e03 := e02.trans (.of e3)
      have hak3 : H3 a = some (.tup ((keyL L).map kV)) := e03.tup hak
      have hpF : ¬ F p := fun z => hF p z (fresh_back e1 hpn)
      have hlen := hk3.len h3k
      refine ⟨_, rfl, kd, _, rfl, DPut.t h3k hak3 (Nat.lt_of_le_of_lt hlen (by decide)), ?_⟩
      exact fin _ _ (e03.put h3k) (hk3.put h3k hL (e3 _ _ hp) hpF) upd_same ⟨.ref p, by rw [valV_put, if_pos rfl]⟩
theorem q_table0 (T : Txt K mg) : Met P w K mg base 7 (ga K "Ages") "table" (sp_table K 0) := by
  refine At.met (sp := (sp_table K 0)) ?_ T.c_Ages T.me_Ages_table
  refine at_ok T.d_Ages_table sc_Ages_table (fun _ _ _ _ _ _ us hl => match us, hl with | [_, _], _ => rfl) (fun vs H Q E h => ?_) (fun cdv A outer s H vs Q E hr h => ?_)
  · obtain ⟨P0, ⟨g, w, r, kd, a, c, al, L, F, rfl, _⟩, k⟩ := h
    rfl
  · obtain ⟨P0, ⟨g, w, r, kd, a, c, al, L, F, rfl, h, hk, hF, ha, hL, hm, rfl⟩, k⟩ := h
    have := looks_pos L hL
    omega
theorem k_tables (T : Txt K mg) (c_len : Lno P w K mg base 1 (ga K "Way") (sp_way_len K)) (c_is_told : Met P w K mg base 5 (ga K "Ages") "is_told" (sp_is_told K)) (c_nearest : Met P w K mg base 7 (ga K "Ages") "nearest" (sp_nearest K)) (c_rest_of : Met P w K mg base 7 (ga K "Ages") "rest_of" (sp_rest_of K)) (c_makes : Cal P w K mg base 5 "makes" sp_makes) (c_getitem : Ixo P w K mg base 3 (ga K "Way") (sp_way_get K)) (c_arriving : Met P w K mg base 2 (ga K "Ages") "arriving" (sp_arriving K)) (c_is_more : Cal P w K mg base 1 "is_more" sp_is_more) : ∀ m, Met P w K mg base (3 * m + 7) (ga K "Ages") "table" (sp_table K m)
  | 0 => q_table0 T
  | m + 1 => k_Ages_table T (k_Ages_walked T c_len (k_Ages_settled T c_is_told c_nearest c_rest_of c_makes c_getitem c_arriving (k_tables T c_len c_is_told c_nearest c_rest_of c_makes c_getitem c_arriving c_is_more m)) c_arriving c_is_more)
end
end K57
-- part D11
/-! Ages made; the greatest age. -/
namespace K57
open PySem PySem.Spec PyProof.Rows L2 He Evl
local macro_rules | `(tactic| walk_at "hp") => `(tactic| first | assumption | exact SqT.of (by assumption) | exact SqL.of (by assumption) | exact Txt.t_PLAIN (by assumption) _ | exact Txt.t_MARKS (by assumption) _ | exact Txt.t_WORDS (by assumption) _ | exact Txt.t_PARTS (by assumption) _)
local macro_rules | `(tactic| walk_at "kit") => `(tactic| first | exact kit_ii | exact kit_ib | exact kit_bb | exact kit_tt | exact kit_ss | exact kit_ll)
local macro_rules | `(tactic| walk_at "ty") => `(tactic| first | exact ty_int _ | exact ty_bl _ | exact ty_str _ | exact ty_tup (by assumption) | exact ty_lst (by assumption))
local macro_rules | `(tactic| walk_at "rv") => `(tactic| first | exact rv_I0 | exact rv_I (by decide) | exact rv_I (by assumption) | exact rv_eq rfl | exact rv_ne rfl | exact rv_isN | exact rv_notN | exact rv_ixT (by walk_at "hp") rfl | exact rv_ixL (by walk_at "hp") rfl | exact rv_ixT (by walk_at "hp") (by assumption) | exact rv_ixL (by walk_at "hp") (by assumption) | exact rv_isT (by walk_at "hp") rfl rfl)
local macro_rules | `(tactic| walk_at "ea") => `(tactic| first | exact ea_nil | (refine' ea_cons ?a ?b; (case a => walk_at "ev"); (case b => walk_at "ea")))
local macro_rules | `(tactic| walk_at "eu") => `(tactic| (refine' eu_tup ?a ?b; (case a => walk_at "ea"); (case b => (show List.length _ ≤ 100000; simp only [List.length_cons, List.length_nil]; decide))))
local macro_rules | `(tactic| walk_at "ev") => `(tactic| first
  | exact ev_var rfl
  | exact ev_c
  | (refine' ev_andV ?a (fun _ => ?b); (case a => walk_at "ev"); (case b => walk_at "ev"))
  | (refine' ev_orV ?a (fun _ => ?b); (case a => walk_at "ev"); (case b => walk_at "ev"))
  | (refine' ev_notV ?a; (case a => walk_at "ev"))
  | (refine' ev_chain ?a ?b ?c ?d ?e; (case a => walk_at "ev"); (case b => walk_at "ev"); (case c => walk_at "rv"); (case d => walk_at "ev"); (case e => walk_at "rv"))
  | (refine' ev_isi ?a ?c ?t ?e; (case a => walk_at "ea"); (case c => first | exact ClsV.ty _ | exact ClsV.own _); (case t => walk_at "ty"); (case e => walk_at "kit"))
  | (refine' ev_call ?a ?s; (case a => walk_at "ea"); (case s => walk_at "sv"))
  | (refine' ev_inU ?a ?b ?c ?d; (case a => walk_at "ev"); (case b => walk_at "eu"); (case c => rfl); (case d => rfl))
  | (refine' ev_niU ?a ?b ?c ?d; (case a => walk_at "ev"); (case b => walk_at "eu"); (case c => rfl); (case d => rfl))
  | (refine' ev_op ?a ?b ?r; (case a => walk_at "ev"); (case b => walk_at "ev"); (case r => walk_at "rv"))
  | (refine' ev_un ?a ru_neg; (case a => walk_at "ev"))
  | (refine' ev_len2 ?a ?b; (case a => walk_at "ev"); (case b => first | exact Or.inl (by walk_at "hp") | exact Or.inr (by walk_at "hp")))
  | (refine' ev_int1 ?a; (case a => walk_at "ev"))
  | (refine' ev_intB ?a; (case a => walk_at "ev")))
local macro_rules | `(tactic| walk_at "evr") => `(tactic| (refine' ev_is ?h ?e; (case h => walk_at "ev"); (case e => first | kernel_rfl | rfl)))
local macro_rules | `(tactic| walk_at "et") => `(tactic| first
  | (refine' et_and ?a (fun _ => ?b); (case a => walk_at "et"); (case b => walk_at "et"))
  | (refine' et_or ?a (fun _ => ?b); (case a => walk_at "et"); (case b => walk_at "et"))
  | (refine' et_not ?a; (case a => walk_at "et"))
  | (refine' et_test ?a; (case a => walk_at "ev"))
  | (refine' et_B ?a; (case a => walk_at "ev")))
local macro_rules | `(tactic| walk_at "etr") => `(tactic| (refine' et_is ?h ?e; (case h => walk_at "et"); (case e => first | kernel_rfl | rfl)))
local macro_rules | `(tactic| walk_at "eps") => `(tactic| first | exact EvPs.nil | (refine' EvPs.cons (k := Sum.inr _) ?a ?b ?c; (case a => walk_at "ev"); (case b => walk_at "ev"); (case c => walk_at "eps")))
local macro_rules | `(tactic| walk_at "en") => `(tactic| first | exact en_dnew | (refine' en_disp ?a ?b ?c; (case a => walk_at "eps"); (case b => (show List.length _ ≤ 15; simp only [List.length_cons, List.length_nil]; decide)); (case c => rfl)))
local macro_rules | `(tactic| walk_at "sv") => `(tactic| exact sv_is_whole)
local macro_rules | `(tactic| walk_at "sv") => `(tactic| exact sv_is_between)
local macro_rules | `(tactic| walk_at "sv") => `(tactic| exact sv_is_listed (by assumption))
local macro_rules | `(tactic| walk_at "sv") => `(tactic| exact sv_is_part_of (by walk_at "hp") rfl)
local macro_rules | `(tactic| walk_at "sv") => `(tactic| exact sv_is_time)
local macro_rules | `(tactic| walk_at "sv") => `(tactic| exact sv_is_deed (by assumption))
local macro_rules | `(tactic| walk_at "sv") => `(tactic| exact sv_makes (by assumption))
local macro_rules | `(tactic| walk_at "sv") => `(tactic| exact sv_is_looks (by assumption) (by assumption))
local macro_rules | `(tactic| walk_at "sv") => `(tactic| exact sv_check_rule (by assumption))
local macro_rules | `(tactic| walk_at "sv") => `(tactic| exact sv_is_more)
local macro_rules | `(tactic| walk_at "sv") => `(tactic| exact sv_is_between_t (by omega))
local macro_rules | `(tactic| walk_at "sv") => `(tactic| exact sv_is_between_t (by assumption))
local macro_rules | `(tactic| walk_at "sv") => `(tactic| exact sv_is_time_t (by omega))
local macro_rules | `(tactic| walk_at "sv") => `(tactic| exact sv_is_time_t (by assumption))
local macro_rules | `(tactic| walk_at "sv") => `(tactic| exact sv_check_way (by assumption))
local macro_rules | `(tactic| walk_at "sv") => `(tactic| exact sv_check_node (by assumption) (by assumption))
local macro_rules | `(tactic| walk_at "sv") => `(tactic| exact sv_rule_word (by assumption))
section
variable {P : Program} {w : World} {K : PySem.W.Frag} {mg : Str → Option Value} {base : Heap} {H : Hp}
local macro_rules | `(tactic| walk_at "ev") => `(tactic| assumption)
theorem pe_never {X : Cx} {e : Expr} : PE X e (fun _ _ _ => False) := ⟨fun _ _ _ _ _ _ h => h.elim⟩
/-- an object that is no instance of Ages stands while one is filled -/
theorem ExB.off {H H1 : Hp} {p dx : Addr} {fs : List (Str × V)} {C b : Addr} {o : HO} (e : ExB p H H1) (hp : H p = some (.ins C dx fs)) (h : H b = some o) (hn : o ≠ .ins C dx fs) : H1 b = some o := e b o (fun z => by
  rw [z, hp] at h
  exact hn (Option.some.inj h).symm) h
theorem WayAt.monB {H H1 : Hp} {p dx C w : Addr} {c : Ch} (e : ExB p H H1) (hp : H p = some (.ins C dx [])) (h : WayAt K H w c) : WayAt K H1 w c := by
  obtain ⟨dxw, n, l, as, bs, h1, h2, h3, h4⟩ := h
  refine ⟨dxw, n, l, as, bs, e.off hp h1 (fun z => nomatch z), ⟨e.off hp h2.1 (fun z => nomatch z), h2.2.1, fun i hi => ?_⟩, ⟨e.off hp h3.1 (fun z => nomatch z), h3.2.1, fun i hi => ?_⟩, h4⟩
  · obtain ⟨a, ha, hd⟩ := h2.2.2 i hi
    exact ⟨a, ha, e.off hp hd.1 (fun z => nomatch z), hd.2⟩
  · obtain ⟨b, hb, hbt⟩ := h3.2.2 i hi
    exact ⟨b, hb, e.off hp hbt (fun z => nomatch z)⟩
theorem RuleAt.monB {H H1 : Hp} {p dx C r : Addr} {al : Bool} (e : ExB p H H1) (hp : H p = some (.ins C dx [])) (h : RuleAt K H r al) : RuleAt K H1 r al := by
  obtain ⟨dxr, h1⟩ := h
  exact ⟨dxr, e.off hp h1 (fun z => nomatch z)⟩
def sp_ages_init (K : PySem.W.Frag) : Sp := SpInit (ga K "Ages") fun args H P => ∃ (w r : Addr) (c : Ch) (al : Bool), args = [.ref w, .ref r] ∧ WayAt K H w c ∧ RuleAt K H r al ∧ P = fun p dx H' => ∃ kd, AgesD K H' p w r kd c al ∧ H' kd = some (.dT [])
-- slots of Ages.__init__: 0 self 1 way 2 rule
theorem sc_Ages_init : FnScope ["self", "way", "rule"] ["self", "way", "rule"] (defScope (inClass (top 65) 0)) := ⟨rfl, rfl, rfl, by decide +kernel, rfl, by decide +kernel, by decide +kernel⟩
theorem k_Ages_init (T : Txt K mg) (c_all_ages : Cal P w K mg base 5 "all_ages" (sp_all_ages K)) : Mak P w K mg base 6 "Ages" (ga K "Ages") (sp_ages_init K) := by
  refine At.mak (sp := (sp_ages_init K)) ?_ T.m_Ages T.g_Ages
  refine at_ok T.d_Ages_init sc_Ages_init (fun _ _ _ _ _ _ us hl => match us, hl with | [_, _, _], _ => rfl) (fun vs H Q E h => ?_) (fun cdv A outer s H vs Q E hr h => ?_)
  · obtain ⟨g, dx, args, P0, rfl, hg, ⟨w, r, c, al, rfl, hw, hrl, rfl⟩, k⟩ := h
    rfl
  · obtain ⟨g, dx, args, P0, rfl, hg, ⟨w, r, c, al, rfl, hw, hrl, rfl⟩, k⟩ := h
    have hu := hu_of hr
    refine ⟨_, (pss_cons (ps_fld (pv 0) (pv 1) rfl)
      (pss_cons (ps_fld (pv 0) (pv 2) rfl)
      (pss_cons (ps_fld (pv 0) (pcal c_all_ages hr (pa_cons (pv 1) (pa_cons (pv 2) pa_nil))) rfl)
      (pss_one (ps_fld (pv 0) pe_dnewT rfl))))), ?_⟩
    refine q_fld T.c_Ages T.n_Ages_way (ev_var rfl) (ev_var rfl) hg (by decide) fun H1 e1 => ?_
    refine q_fld T.c_Ages T.n_Ages_rule (ev_var rfl) (ev_var rfl) upd_same (by show 1 < 1000; decide) fun H2 e2 => ?_
    have b2 : ExB g H (upd H2 g (.ins (ga K "Ages") dx (putF "rule" (.ref r) (putF "way" (.ref w) [])))) := ExB.upd (ExB.ex (ExB.upd (Ex.exB e1)) e2)
    refine q_fldP T.c_Ages T.n_Ages_read_ages (evp_call (ea_cons (ev_var rfl) (ea_cons (ev_var rfl) ea_nil)) (spp_all_ages (hw.monB b2 hg) (hrl.monB b2 hg))) (ev_var rfl) upd_same (by show 2 < 1000; decide) fun v H3 H4 e3 hv e4 => ?_
    obtain ⟨ra, rfl⟩ := hv
    have b4 : ExB g H (upd H4 g (.ins (ga K "Ages") dx (putF "read_ages" (.ref ra) (putF "rule" (.ref r) (putF "way" (.ref w) []))))) := ExB.upd (ExB.ex b2 (e3.trans e4))
    refine s_fldP T.c_Ages T.n_Ages_kept (P := fun v H' => ∃ kd, v = .ref kd ∧ H' kd = some (.dT [])) (fun H5 e5 Q q => en_dnewT (σ := []) (H := H5) H5 (Ex.refl H5) Q fun p H6 hp e6 h6 => q _ H6 e6 ⟨p, rfl, h6⟩) (ev_var rfl) upd_same (by show 3 < 1000; decide) fun v H5 H6 e5 hv e6 => ?_
    obtain ⟨kd, rfl, hkd⟩ := hv
    have b6 := ExB.upd (u := .ins (ga K "Ages") dx (putF "kept" (.ref kd) (putF "read_ages" (.ref ra) (putF "rule" (.ref r) (putF "way" (.ref w) []))))) (ExB.ex b4 (e5.trans e6))
    refine k _ b6 ⟨kd, ⟨⟨dx, .ref ra, upd_same⟩, hw.monB b6 hg, hrl.monB b6 hg⟩, ?_⟩
    have hk6 := e6 _ _ hkd
    have hg6 := (e5.trans e6) _ _ (upd_same (H := H4) (a := g) (o := .ins (ga K "Ages") dx (putF "read_ages" (.ref ra) (putF "rule" (.ref r) (putF "way" (.ref w) [])))))
    rw [upd_ne fun z => by rw [z, hg6] at hk6; cases hk6]
    exact hk6
theorem kept0 {H : Hp} {kd : Addr} {F : Addr → Prop} {c : Ch} {al : Bool} (h : H kd = some (.dT [])) : KeptAt H kd F c al := ⟨[], h, List.Pairwise.nil, fun q hq => nomatch hq⟩
def sp_greatest_age (K : PySem.W.Frag) : Sp := SpD fun vs H P => ∃ (w r a : Addr) (c : Ch) (al : Bool) (L : List Str) (i : Nat), vs = [.ref w, .ref r, .ref a, .int (i : Int)] ∧ WayAt K H w c ∧ RuleAt K H r al ∧ LooksAt H a L ∧ L ∈ looksL ∧ i < c.n ∧ P = fun v _ => v = .int (c.M al L c.hi i)
theorem ages_table {σ : L2.St} {tb : TE} {m : Nat} {H : Hp} {w r a : Addr} {c : Ch} {al : Bool} {L : List Str} {Q : VK} {E E' : XK} {targs : TA} (hw : WayAt K H w c) (hr : RuleAt K H r al) (ha : LooksAt H a L) (hL : L ∈ looksL) (hm : L.length ≤ m) (hargs : EvA targs σ H [.ref w, .ref r]) (hb : Ev tb σ H (.ref a))
    (q : ∀ p H', ExD H H' → H' p = some (.lst (tabL c (c.M al L c.hi))) → Q (.ref p) H') : tMeth (ga K "Ages") "table" (sp_table K m) [] E (tMake (ga K "Ages") (sp_ages_init K) [] E' targs) (tCons tb tNil) σ H Q :=
  ep_make (PI := fun p dx H' => ∃ kd, AgesD K H' p w r kd c al ∧ H' kd = some (.dT [])) hargs (fun H1 e1 => ⟨w, r, c, al, rfl, hw.mono e1, hr.mono e1, rfl⟩) H (Ex.refl H) _ fun v H1 e1 ⟨g, dx, hv, _, kd, hA, hk⟩ => by
    subst hv
    obtain ⟨dxg, ra, hg⟩ := hA.ins
    exact ⟨g, dxg, _, rfl, hg, rfl, hb H1 e1 _ fun H2 e2 => ⟨_, ⟨g, w, r, kd, a, c, al, L, fun _ => False, rfl, hA.mono e2, kept0 (e2 _ _ hk), fun _ z => z.elim, e2 _ _ (e1 _ _ ha), hL, hm, rfl⟩, fun v H3 e3 ⟨_, p, hv, hp⟩ => by
      subst hv
      exact q p H3 ((ExD.of (e1.trans e2)).trans e3) hp⟩⟩
-- slots of greatest_age: 0 way 1 rule 2 looks 3 node
theorem sc_greatest_age : FnScope ["way", "rule", "looks", "node"] ["way", "rule", "looks", "node"] (defScope (top 69)) := ⟨rfl, rfl, rfl, by decide +kernel, rfl, by decide +kernel, by decide +kernel⟩
theorem k_greatest_age (T : Txt K mg) (c_check_looks : Cal P w K mg base 4 "check_looks" (sp_check_looks K)) (c_Ages : Mak P w K mg base 6 "Ages" (ga K "Ages") (sp_ages_init K)) (c_table : Met P w K mg base 16 (ga K "Ages") "table" (sp_table K 3)) : Cal P w K mg base 17 "greatest_age" (sp_greatest_age K) := by
  refine cal_of T.d_greatest_age T.g_greatest_age sc_greatest_age (fun _ _ _ _ _ _ us hl => match us, hl with | [_, _, _, _], _ => rfl) (fun vs H Q E h => ?_) (fun cdv A outer s H vs Q E hr h => ?_)
  · obtain ⟨P0, ⟨w, r, a, c, al, L, i, rfl, hw, hrl, ha, hL, hi, rfl⟩, k⟩ := h
    rfl
  · obtain ⟨P0, ⟨w, r, a, c, al, L, i, rfl, hw, hrl, ha, hL, hi, rfl⟩, k⟩ := h
    have hu := hu_of hr
    refine ⟨_, (pss_cons (ps_expr (pcal c_check_looks hr (pa_cons (pv 0) (pa_cons (pv 1) (pa_cons (pv 2) (pa_cons (pv 3) pa_nil))))))
      (pss_one (ps_ret (pe_ix (ixL K) (pmet c_table hr (pmak c_Ages hr (pa_cons (pv 0) (pa_cons (pv 1) pa_nil))) (pa_cons (pv 2) pa_nil)) (pv 3) (fun _ _ => rfl))))), ?_⟩
    refine q_drop (ev_call (ea_cons (ev_var rfl) (ea_cons (ev_var rfl) (ea_cons (ev_var rfl) (ea_cons (ev_var rfl) ea_nil)))) (sv_check_looks hw hrl ha hL hi)) fun H1 e1 => ?_
    refine ages_table (hw.mono e1) (hrl.mono e1) (e1 _ _ ha) hL (looks_le L hL) (ea_cons (ev_var rfl) (ea_cons (ev_var rfl) ea_nil)) (ev_var rfl) fun p H2 e2 hp => ?_
    exact ⟨_, rfl, p, _, _, _, rfl, rfl, SqL.of hp, atI_nat (map_at (f := fun i => V.int (c.M al L c.hi i)) hi), k _ H2 ((ExD.of e1).trans e2) rfl⟩
end
end K57
-- part D12
/-! Books; the greatest seen. -/
namespace K57
open PySem PySem.Spec PyProof.Rows L2 He Evl
local macro_rules | `(tactic| walk_at "hp") => `(tactic| first | assumption | exact SqT.of (by assumption) | exact SqL.of (by assumption) | exact Txt.t_PLAIN (by assumption) _ | exact Txt.t_MARKS (by assumption) _ | exact Txt.t_WORDS (by assumption) _ | exact Txt.t_PARTS (by assumption) _)
local macro_rules | `(tactic| walk_at "kit") => `(tactic| first | exact kit_ii | exact kit_ib | exact kit_bb | exact kit_tt | exact kit_ss | exact kit_ll)
local macro_rules | `(tactic| walk_at "ty") => `(tactic| first | exact ty_int _ | exact ty_bl _ | exact ty_str _ | exact ty_tup (by assumption) | exact ty_lst (by assumption))
local macro_rules | `(tactic| walk_at "rv") => `(tactic| first | exact rv_I0 | exact rv_I (by decide) | exact rv_I (by assumption) | exact rv_eq rfl | exact rv_ne rfl | exact rv_isN | exact rv_notN | exact rv_ixT (by walk_at "hp") rfl | exact rv_ixL (by walk_at "hp") rfl | exact rv_ixT (by walk_at "hp") (by assumption) | exact rv_ixL (by walk_at "hp") (by assumption) | exact rv_isT (by walk_at "hp") rfl rfl)
local macro_rules | `(tactic| walk_at "ea") => `(tactic| first | exact ea_nil | (refine' ea_cons ?a ?b; (case a => walk_at "ev"); (case b => walk_at "ea")))
local macro_rules | `(tactic| walk_at "eu") => `(tactic| (refine' eu_tup ?a ?b; (case a => walk_at "ea"); (case b => (show List.length _ ≤ 100000; simp only [List.length_cons, List.length_nil]; decide))))
local macro_rules | `(tactic| walk_at "ev") => `(tactic| first
  | exact ev_var rfl
  | exact ev_c
  | (refine' ev_andV ?a (fun _ => ?b); (case a => walk_at "ev"); (case b => walk_at "ev"))
  | (refine' ev_orV ?a (fun _ => ?b); (case a => walk_at "ev"); (case b => walk_at "ev"))
  | (refine' ev_notV ?a; (case a => walk_at "ev"))
  | (refine' ev_chain ?a ?b ?c ?d ?e; (case a => walk_at "ev"); (case b => walk_at "ev"); (case c => walk_at "rv"); (case d => walk_at "ev"); (case e => walk_at "rv"))
  | (refine' ev_isi ?a ?c ?t ?e; (case a => walk_at "ea"); (case c => first | exact ClsV.ty _ | exact ClsV.own _); (case t => walk_at "ty"); (case e => walk_at "kit"))
  | (refine' ev_call ?a ?s; (case a => walk_at "ea"); (case s => walk_at "sv"))
  | (refine' ev_inU ?a ?b ?c ?d; (case a => walk_at "ev"); (case b => walk_at "eu"); (case c => rfl); (case d => rfl))
  | (refine' ev_niU ?a ?b ?c ?d; (case a => walk_at "ev"); (case b => walk_at "eu"); (case c => rfl); (case d => rfl))
  | (refine' ev_op ?a ?b ?r; (case a => walk_at "ev"); (case b => walk_at "ev"); (case r => walk_at "rv"))
  | (refine' ev_un ?a ru_neg; (case a => walk_at "ev"))
  | (refine' ev_len2 ?a ?b; (case a => walk_at "ev"); (case b => first | exact Or.inl (by walk_at "hp") | exact Or.inr (by walk_at "hp")))
  | (refine' ev_int1 ?a; (case a => walk_at "ev"))
  | (refine' ev_intB ?a; (case a => walk_at "ev")))
local macro_rules | `(tactic| walk_at "evr") => `(tactic| (refine' ev_is ?h ?e; (case h => walk_at "ev"); (case e => first | kernel_rfl | rfl)))
local macro_rules | `(tactic| walk_at "et") => `(tactic| first
  | (refine' et_and ?a (fun _ => ?b); (case a => walk_at "et"); (case b => walk_at "et"))
  | (refine' et_or ?a (fun _ => ?b); (case a => walk_at "et"); (case b => walk_at "et"))
  | (refine' et_not ?a; (case a => walk_at "et"))
  | (refine' et_test ?a; (case a => walk_at "ev"))
  | (refine' et_B ?a; (case a => walk_at "ev")))
local macro_rules | `(tactic| walk_at "etr") => `(tactic| (refine' et_is ?h ?e; (case h => walk_at "et"); (case e => first | kernel_rfl | rfl)))
local macro_rules | `(tactic| walk_at "eps") => `(tactic| first | exact EvPs.nil | (refine' EvPs.cons (k := Sum.inr _) ?a ?b ?c; (case a => walk_at "ev"); (case b => walk_at "ev"); (case c => walk_at "eps")))
local macro_rules | `(tactic| walk_at "en") => `(tactic| first | exact en_dnew | (refine' en_disp ?a ?b ?c; (case a => walk_at "eps"); (case b => (show List.length _ ≤ 15; simp only [List.length_cons, List.length_nil]; decide)); (case c => rfl)))
local macro_rules | `(tactic| walk_at "sv") => `(tactic| exact sv_is_whole)
local macro_rules | `(tactic| walk_at "sv") => `(tactic| exact sv_is_between)
local macro_rules | `(tactic| walk_at "sv") => `(tactic| exact sv_is_listed (by assumption))
local macro_rules | `(tactic| walk_at "sv") => `(tactic| exact sv_is_part_of (by walk_at "hp") rfl)
local macro_rules | `(tactic| walk_at "sv") => `(tactic| exact sv_is_time)
local macro_rules | `(tactic| walk_at "sv") => `(tactic| exact sv_is_deed (by assumption))
local macro_rules | `(tactic| walk_at "sv") => `(tactic| exact sv_makes (by assumption))
local macro_rules | `(tactic| walk_at "sv") => `(tactic| exact sv_is_looks (by assumption) (by assumption))
local macro_rules | `(tactic| walk_at "sv") => `(tactic| exact sv_check_rule (by assumption))
local macro_rules | `(tactic| walk_at "sv") => `(tactic| exact sv_is_more)
local macro_rules | `(tactic| walk_at "sv") => `(tactic| exact sv_is_between_t (by omega))
local macro_rules | `(tactic| walk_at "sv") => `(tactic| exact sv_is_between_t (by assumption))
local macro_rules | `(tactic| walk_at "sv") => `(tactic| exact sv_is_time_t (by omega))
local macro_rules | `(tactic| walk_at "sv") => `(tactic| exact sv_is_time_t (by assumption))
local macro_rules | `(tactic| walk_at "sv") => `(tactic| exact sv_check_way (by assumption))
local macro_rules | `(tactic| walk_at "sv") => `(tactic| exact sv_check_node (by assumption) (by assumption))
local macro_rules | `(tactic| walk_at "sv") => `(tactic| exact sv_rule_word (by assumption))
section
variable {P : Program} {w : World} {K : PySem.W.Frag} {mg : Str → Option Value} {base : Heap} {H : Hp}
local macro_rules | `(tactic| walk_at "ev") => `(tactic| assumption)
theorem q_par {i j : Nat} {ta : TA} {x y : V} {σ : L2.St} {D : Ends} {tz : TS} (h : EvA ta σ H [x, y]) (k : ∀ H1, Ex H H1 → tz D ((σ.set i (some x)).set j (some y)) H1) : tSeq (tPar i j ta) tz D σ H := h H (Ex.refl H) _ fun H1 e => ⟨x, y, rfl, k H1 e⟩
def PartOk (H : Hp) (part : Str) (v : V) : Prop := (part = "bound" ∧ v = .int 1) ∨ (part = "looks" ∧ ∃ a L, v = .ref a ∧ LooksAt H a L ∧ L ∈ looksL) ∨ (part = "how" ∧ v = .str "above") ∨ (part = "day" ∧ v = .int 1) ∨ (part = "grain" ∧ v = .int 1) ∨ (part = "spares" ∧ v = .bl false) ∨ (part = "late" ∧ v = .int 0) ∨ (part = "again" ∧ v = .bl true) ∨ (part = "period" ∧ v = .int 1)
theorem PartOk.mono {H H1 : Hp} {part : Str} {v : V} (e : Ex H H1) (h : PartOk H part v) : PartOk H1 part v := by
  unfold PartOk at h ⊢
  rcases h with h | ⟨h1, a, L, h2, h3, h4⟩ | h
  · exact Or.inl h
  · exact Or.inr (Or.inl ⟨h1, a, L, h2, e _ _ h3, h4⟩)
  · exact Or.inr (Or.inr h)
def sp_is_value : Sp := SpVal fun vs H z => ∃ (part : Str) (v : V), vs = [.str part, v] ∧ PartOk H part v ∧ z = .bl true
theorem sv_is_value {part : Str} {v : V} (h : PartOk H part v) : SpV sp_is_value [.str part, v] H (.bl true) := sv_of fun _ e => ⟨part, v, rfl, h.mono e, rfl⟩
theorem ev_callU {σ : L2.St} {ta tb : TE} {x z : V} {xs : List V} {sp : Sp} {E : XK} (ha : Ev ta σ H x) (hb : EvU tb σ H xs) (hs : ∀ p H1, H1 p = some (.tup xs) → Ex H H1 → SpV sp [x, .ref p] H1 z) : Ev (tCall sp [] E (tCons ta (tCons tb tNil))) σ H z := fun H1 e Q q =>
  ha H1 e _ fun H2 e2 => hb H2 (e.trans e2) _ fun p H3 hp e3 h3 => hs p H3 h3 ((e.trans e2).trans e3) H3 (Ex.refl H3) Q (fun H4 e4 => q H4 ((e2.trans e3).trans e4)) E
local macro_rules | `(tactic| walk_at "et") => `(tactic| exact et_is (et_test (ev_op (ev_var rfl) ev_c (rv_eq rfl))) (by decide +kernel))
-- slots of is_value: 0 part 1 value
theorem sc_is_value : FnScope ["part", "value"] ["part", "value"] (defScope (top 78)) := ⟨rfl, rfl, rfl, by decide +kernel, rfl, by decide +kernel, by decide +kernel⟩
theorem k_is_value (T : Txt K mg) (c_is_between : Cal P w K mg base 2 "is_between" sp_is_between) (c_is_looks : Cal P w K mg base 2 "is_looks" sp_is_looks) (c_is_part_of : Cal P w K mg base 1 "is_part_of" (sp_is_part_of K)) (c_is_time : Cal P w K mg base 3 "is_time" sp_is_time) : Cal P w K mg base 4 "is_value" sp_is_value := by
  refine cal_of T.d_is_value T.g_is_value sc_is_value (fun _ _ _ _ _ _ us hl => match us, hl with | [_, _], _ => rfl) (fun vs H Q E h => ?_) (fun cdv A outer s H vs Q E hr h => ?_)
  · obtain ⟨z, ⟨part, v, rfl, h, rfl⟩, k⟩ := h
    rfl
  · obtain ⟨z, ⟨part, v, rfl, h, rfl⟩, k⟩ := h
    have hu := hu_of hr
    refine ⟨_, (pss_cons (ps_if (pt_cmpR op_eq (pv 0) pe_str (by rfl)) (pss_one (ps_ret (pcal c_is_between hr (pa_cons (pv 1) (pa_cons pe_int (pa_cons (pgi T.i_LARGEST_BOUND) pa_nil)))))) pss_nil)
      (pss_cons (ps_if (pt_cmpR op_eq (pv 0) pe_str (by rfl)) (pss_one (ps_ret (pcal c_is_looks hr (pa_cons (pv 1) pa_nil)))) pss_nil)
      (pss_cons (ps_if (pt_cmpR op_eq (pv 0) pe_str (by rfl)) (pss_one (ps_ret (pcal c_is_part_of hr (pa_cons (pv 1) (pa_cons (pe_tup (pa_cons pe_str (pa_cons pe_str pa_nil))) pa_nil))))) pss_nil)
      (pss_cons (ps_if (pt_cmpR (oinS K) (pv 0) (pe_tup (pa_cons pe_str (pa_cons pe_str pa_nil))) (by rfl)) (pss_one (ps_ret (pcal c_is_time hr (pa_cons (pv 1) pa_nil)))) pss_nil)
      (pss_cons (ps_if (pt_cmpR op_eq (pv 0) pe_str (by rfl)) (pss_one (ps_ret (pcal c_is_between hr (pa_cons (pv 1) (pa_cons pe_int (pa_cons (pgi T.i_LARGEST_GRAIN) pa_nil)))))) pss_nil)
      (pss_cons (ps_if (pt_cmpR op_eq (pv 0) pe_str (by rfl)) (pss_one (ps_ret (pcal c_is_between hr (pa_cons (pv 1) (pa_cons pe_int (pa_cons (pgi T.i_LATEST) pa_nil)))))) pss_nil)
      (pss_one (ps_ret (pe_callB (cisi K) (by rfl) T.b_isinstance boot_isinstance (pa_cons (pv 1) (pa_cons (pty T.b_bool boot_bool) pa_nil))))))))))), ?_⟩
    rcases h with ⟨rfl, rfl⟩ | ⟨rfl, a, L, rfl, ha, hL⟩ | ⟨rfl, rfl⟩ | ⟨rfl, rfl⟩ | ⟨rfl, rfl⟩ | ⟨rfl, rfl⟩ | ⟨rfl, rfl⟩ | ⟨rfl, rfl⟩ | ⟨rfl, rfl⟩
    · refine q_yes (et_is (et_test (ev_op (ev_var rfl) ev_c (rv_eq rfl))) (by decide +kernel)) fun H1 e1 => ?_
      exact s_ret (ev_call (ea_cons (ev_var rfl) (ea_cons ev_c (ea_cons ev_c ea_nil))) (sv_is_between_t (by decide))) fun H9 e9 => k H9 (e1.trans e9)
    · refine q_not (et_is (et_test (ev_op (ev_var rfl) ev_c (rv_eq rfl))) (by decide +kernel)) fun H1 e1 => ?_
      refine q_yes (et_is (et_test (ev_op (ev_var rfl) ev_c (rv_eq rfl))) (by decide +kernel)) fun H2 e2 => ?_
      exact s_ret (ev_call (ea_cons (ev_var rfl) ea_nil) (sv_is_looks ((e1.trans e2) _ _ ha) hL)) fun H9 e9 => k H9 ((e1.trans e2).trans e9)
    · refine q_not (et_is (et_test (ev_op (ev_var rfl) ev_c (rv_eq rfl))) (by decide +kernel)) fun H1 e1 => ?_
      refine q_not (et_is (et_test (ev_op (ev_var rfl) ev_c (rv_eq rfl))) (by decide +kernel)) fun H2 e2 => ?_
      refine q_yes (et_is (et_test (ev_op (ev_var rfl) ev_c (rv_eq rfl))) (by decide +kernel)) fun H3 e3 => ?_
      exact s_ret (ev_is (ev_callU (ev_var rfl) (by walk_at "eu") fun p H1 hp _ => sv_is_part_of (SqT.of hp) rfl) (by decide +kernel)) fun H9 e9 => k H9 (((e1.trans e2).trans e3).trans e9)
    · refine q_not (et_is (et_test (ev_op (ev_var rfl) ev_c (rv_eq rfl))) (by decide +kernel)) fun H1 e1 => ?_
      refine q_not (et_is (et_test (ev_op (ev_var rfl) ev_c (rv_eq rfl))) (by decide +kernel)) fun H2 e2 => ?_
      refine q_not (et_is (et_test (ev_op (ev_var rfl) ev_c (rv_eq rfl))) (by decide +kernel)) fun H3 e3 => ?_
      refine q_yes (et_is (et_test (ev_inU (ev_var rfl) (by walk_at "eu") rfl rfl)) (by decide +kernel)) fun H4 e4 => ?_
      exact s_ret (ev_call (ea_cons (ev_var rfl) ea_nil) (sv_is_time_t (by decide))) fun H9 e9 => k H9 ((((e1.trans e2).trans e3).trans e4).trans e9)
    · refine q_not (et_is (et_test (ev_op (ev_var rfl) ev_c (rv_eq rfl))) (by decide +kernel)) fun H1 e1 => ?_
      refine q_not (et_is (et_test (ev_op (ev_var rfl) ev_c (rv_eq rfl))) (by decide +kernel)) fun H2 e2 => ?_
      refine q_not (et_is (et_test (ev_op (ev_var rfl) ev_c (rv_eq rfl))) (by decide +kernel)) fun H3 e3 => ?_
      refine q_not (et_is (et_test (ev_inU (ev_var rfl) (by walk_at "eu") rfl rfl)) (by decide +kernel)) fun H4 e4 => ?_
      refine q_yes (et_is (et_test (ev_op (ev_var rfl) ev_c (rv_eq rfl))) (by decide +kernel)) fun H5 e5 => ?_
      exact s_ret (ev_call (ea_cons (ev_var rfl) (ea_cons ev_c (ea_cons ev_c ea_nil))) (sv_is_between_t (by decide))) fun H9 e9 => k H9 (((((e1.trans e2).trans e3).trans e4).trans e5).trans e9)
    · refine q_not (et_is (et_test (ev_op (ev_var rfl) ev_c (rv_eq rfl))) (by decide +kernel)) fun H1 e1 => ?_
      refine q_not (et_is (et_test (ev_op (ev_var rfl) ev_c (rv_eq rfl))) (by decide +kernel)) fun H2 e2 => ?_
      refine q_not (et_is (et_test (ev_op (ev_var rfl) ev_c (rv_eq rfl))) (by decide +kernel)) fun H3 e3 => ?_
      refine q_not (et_is (et_test (ev_inU (ev_var rfl) (by walk_at "eu") rfl rfl)) (by decide +kernel)) fun H4 e4 => ?_
      refine q_not (et_is (et_test (ev_op (ev_var rfl) ev_c (rv_eq rfl))) (by decide +kernel)) fun H5 e5 => ?_
      refine q_not (et_is (et_test (ev_op (ev_var rfl) ev_c (rv_eq rfl))) (by decide +kernel)) fun H6 e6 => ?_
      exact s_ret (ev_isi (ea_cons (ev_var rfl) (ea_cons ev_c ea_nil)) (ClsV.ty _) (ty_bl _) kit_bb) fun H9 e9 => k H9 ((((((e1.trans e2).trans e3).trans e4).trans e5).trans e6).trans e9)
    · refine q_not (et_is (et_test (ev_op (ev_var rfl) ev_c (rv_eq rfl))) (by decide +kernel)) fun H1 e1 => ?_
      refine q_not (et_is (et_test (ev_op (ev_var rfl) ev_c (rv_eq rfl))) (by decide +kernel)) fun H2 e2 => ?_
      refine q_not (et_is (et_test (ev_op (ev_var rfl) ev_c (rv_eq rfl))) (by decide +kernel)) fun H3 e3 => ?_
      refine q_not (et_is (et_test (ev_inU (ev_var rfl) (by walk_at "eu") rfl rfl)) (by decide +kernel)) fun H4 e4 => ?_
      refine q_not (et_is (et_test (ev_op (ev_var rfl) ev_c (rv_eq rfl))) (by decide +kernel)) fun H5 e5 => ?_
      refine q_yes (et_is (et_test (ev_op (ev_var rfl) ev_c (rv_eq rfl))) (by decide +kernel)) fun H6 e6 => ?_
      exact s_ret (ev_call (ea_cons (ev_var rfl) (ea_cons ev_c (ea_cons ev_c ea_nil))) (sv_is_between_t (by decide))) fun H9 e9 => k H9 ((((((e1.trans e2).trans e3).trans e4).trans e5).trans e6).trans e9)
    · refine q_not (et_is (et_test (ev_op (ev_var rfl) ev_c (rv_eq rfl))) (by decide +kernel)) fun H1 e1 => ?_
      refine q_not (et_is (et_test (ev_op (ev_var rfl) ev_c (rv_eq rfl))) (by decide +kernel)) fun H2 e2 => ?_
      refine q_not (et_is (et_test (ev_op (ev_var rfl) ev_c (rv_eq rfl))) (by decide +kernel)) fun H3 e3 => ?_
      refine q_not (et_is (et_test (ev_inU (ev_var rfl) (by walk_at "eu") rfl rfl)) (by decide +kernel)) fun H4 e4 => ?_
      refine q_not (et_is (et_test (ev_op (ev_var rfl) ev_c (rv_eq rfl))) (by decide +kernel)) fun H5 e5 => ?_
      refine q_not (et_is (et_test (ev_op (ev_var rfl) ev_c (rv_eq rfl))) (by decide +kernel)) fun H6 e6 => ?_
      exact s_ret (ev_isi (ea_cons (ev_var rfl) (ea_cons ev_c ea_nil)) (ClsV.ty _) (ty_bl _) kit_bb) fun H9 e9 => k H9 ((((((e1.trans e2).trans e3).trans e4).trans e5).trans e6).trans e9)
    · refine q_not (et_is (et_test (ev_op (ev_var rfl) ev_c (rv_eq rfl))) (by decide +kernel)) fun H1 e1 => ?_
      refine q_not (et_is (et_test (ev_op (ev_var rfl) ev_c (rv_eq rfl))) (by decide +kernel)) fun H2 e2 => ?_
      refine q_not (et_is (et_test (ev_op (ev_var rfl) ev_c (rv_eq rfl))) (by decide +kernel)) fun H3 e3 => ?_
      refine q_yes (et_is (et_test (ev_inU (ev_var rfl) (by walk_at "eu") rfl rfl)) (by decide +kernel)) fun H4 e4 => ?_
      exact s_ret (ev_call (ea_cons (ev_var rfl) ea_nil) (sv_is_time_t (by decide))) fun H9 e9 => k H9 ((((e1.trans e2).trans e3).trans e4).trans e9)
def bkKvs (a : Addr) : List (Key × V) := [(Sum.inr "bound", .int 1), (Sum.inr "looks", .ref a), (Sum.inr "how", .str "above"), (Sum.inr "day", .int 1), (Sum.inr "grain", .int 1), (Sum.inr "spares", .bl false), (Sum.inr "late", .int 0), (Sum.inr "again", .bl true), (Sum.inr "period", .int 1)]
def sp_check_parts : Sp := SpVal fun vs H z => ∃ (d a : Addr) (L : List Str), vs = [.ref d] ∧ H d = some (.dK (bkKvs a)) ∧ LooksAt H a L ∧ L ∈ looksL ∧ z = .non
theorem sv_check_parts {d a : Addr} {L : List Str} (h : H d = some (.dK (bkKvs a))) (ha : LooksAt H a L) (hL : L ∈ looksL) : SpV sp_check_parts [.ref d] H .non := sv_of fun _ e => ⟨d, a, L, rfl, e _ _ h, e _ _ ha, hL, rfl⟩
theorem parts_at {i : Nat} {x : V} {a : Addr} {L : List Str} (h : [V.str "bound", V.str "looks", V.str "how", V.str "day", V.str "grain", V.str "spares", V.str "late", V.str "again", V.str "period"][i]? = some x) (ha : LooksAt H a L) (hL : L ∈ looksL) : ∃ part v, x = .str part ∧ valV (bkKvs a) (Sum.inr part) = some v ∧ PartOk H part v := by
  have hi : i < 9 := (List.getElem?_eq_some_iff.mp h).1
  match i, hi, h with
  | 0, _, h => cases h; exact ⟨_, _, rfl, rfl, Or.inl ⟨rfl, rfl⟩⟩
  | 1, _, h => cases h; exact ⟨_, _, rfl, rfl, Or.inr (Or.inl ⟨rfl, a, L, rfl, ha, hL⟩)⟩
  | 2, _, h => cases h; exact ⟨_, _, rfl, rfl, Or.inr (Or.inr (Or.inl ⟨rfl, rfl⟩))⟩
  | 3, _, h => cases h; exact ⟨_, _, rfl, rfl, Or.inr (Or.inr (Or.inr (Or.inl ⟨rfl, rfl⟩)))⟩
  | 4, _, h => cases h; exact ⟨_, _, rfl, rfl, Or.inr (Or.inr (Or.inr (Or.inr (Or.inl ⟨rfl, rfl⟩))))⟩
  | 5, _, h => cases h; exact ⟨_, _, rfl, rfl, Or.inr (Or.inr (Or.inr (Or.inr (Or.inr (Or.inl ⟨rfl, rfl⟩)))))⟩
  | 6, _, h => cases h; exact ⟨_, _, rfl, rfl, Or.inr (Or.inr (Or.inr (Or.inr (Or.inr (Or.inr (Or.inl ⟨rfl, rfl⟩))))))⟩
  | 7, _, h => cases h; exact ⟨_, _, rfl, rfl, Or.inr (Or.inr (Or.inr (Or.inr (Or.inr (Or.inr (Or.inr (Or.inl ⟨rfl, rfl⟩)))))))⟩
  | 8, _, h => cases h; exact ⟨_, _, rfl, rfl, Or.inr (Or.inr (Or.inr (Or.inr (Or.inr (Or.inr (Or.inr (Or.inr ⟨rfl, rfl⟩)))))))⟩
-- slots of check_parts: 0 parts 1 part
theorem sc_check_parts : FnScope ["parts", "part"] ["parts"] (defScope (top 79)) := ⟨rfl, rfl, rfl, by decide +kernel, rfl, by decide +kernel, by decide +kernel⟩
theorem k_check_parts (T : Txt K mg) (c_is_value : Cal P w K mg base 4 "is_value" sp_is_value) : Cal P w K mg base 5 "check_parts" sp_check_parts := by
  refine cal_of T.d_check_parts T.g_check_parts sc_check_parts (fun _ _ _ _ _ _ us hl => match us, hl with | [_], _ => rfl) (fun vs H Q E h => ?_) (fun cdv A outer s H vs Q E hr h => ?_)
  · obtain ⟨z, ⟨d, a, L, rfl, hd, ha, hL, rfl⟩, k⟩ := h
    rfl
  · obtain ⟨z, ⟨d, a, L, rfl, hd, ha, hL, rfl⟩, k⟩ := h
    have hu := hu_of hr
    refine ⟨_, (pss_one (ps_for PassesOwn.never rfl (piT K (pgo T.g_PARTS)) (pg_name (i := 1) sc_check_parts.nd rfl (by first | exact Or.inl rfl | exact Or.inr rfl))
      (pss_one (ps_if (pt_not (pt_val (pcal c_is_value hr (pa_cons (pv 1) (pa_cons (pe_dget hu (pv 0) (pv 1) (fun _ _ => rfl)) pa_nil))))) (pss_one ps_never) pss_nil)))), ?_⟩
    refine s_forT (K := K) ev_c (T.t_PARTS _) (fun _ σ H' => ∃ v1, σ = [some (.ref d), v1] ∧ Ex H H') (fun H1 e1 => ⟨none, rfl, e1⟩) (fun _ σ H' _ _ => T.t_PARTS H') (fun i x σ H' hi ⟨v1, hσ, e⟩ => ?_) (fun σ H' ⟨v1, hσ, e⟩ => k H' e)
    subst hσ
    obtain ⟨part, v, rfl, hv, hp⟩ := parts_at (H := H') hi (e _ _ ha) hL
    exact s_not (et_is (et_not (et_test (ev_call (ea_cons (ev_var rfl) (ea_cons (ev_dget (k := Sum.inr part) (ev_var rfl) (ev_var rfl) (e _ _ hd) hv) ea_nil)) (sv_is_value hp)))) rfl) fun H1 e1 => ⟨_, rfl, e.trans e1⟩
def BookAt (K : PySem.W.Frag) (H : Hp) (b a : Addr) (L : List Str) : Prop := ∃ dx pd, H b = some (.ins (ga K "Book") dx [("own_parts", .ref pd)]) ∧ H pd = some (.dK (bkKvs a)) ∧ LooksAt H a L ∧ L ∈ looksL
theorem BookAt.mono {H H1 : Hp} {b a : Addr} {L : List Str} (e : Ex H H1) (h : BookAt K H b a L) : BookAt K H1 b a L := by
  obtain ⟨dx, pd, h1, h2, h3, h4⟩ := h
  exact ⟨dx, pd, e _ _ h1, e _ _ h2, e _ _ h3, h4⟩
abbrev bkDef : List (Str × V) := [("how", .str "above"), ("day", .int 1), ("grain", .int 1), ("spares", .bl false), ("late", .int 0), ("again", .bl true), ("period", .int 1)]
abbrev bkPs : List Str := ["self", "bound", "looks", "how", "day", "grain", "spares", "late", "again", "period"]
theorem book_binds {fd : FuncData} (F : FunD K "__init__" "Book.__init__" (defArgs (inClass (top 81) 0)) (defBody (inClass (top 81) 0)) (defScope (inClass (top 81) 0)) [] [("looks", V.ref (ga K "MARKS")), ("how", .str "above"), ("day", .int 1), ("grain", .int 1), ("spares", .bl false), ("late", .int 0), ("again", .bl true), ("period", .int 1)] (ma K (ga K "Book") "__init__") fd) :
    ∃ mv : List Value, KBn K fd bkPs 1 ["bound", "looks"] (fun us ws => us ++ (ws ++ mv)) (fun vs zs => vs ++ (zs ++ bkDef.map (·.2))) := by
  refine F.kbinds0 1 ["bound", "looks"] bkDef (fun us mv ws => us ++ (ws ++ mv)) (fun z => nomatch z) (fun q hq => List.mem_cons_of_mem _ hq) (fun r1 r2 r3 => r1.append (r3.append r2)) ?_
  intro D doc pm an cdv ct us mv ws h1 h2 h3
  match us, mv, ws, h1, h2, h3 with
  | [u], [m1, m2, m3, m4, m5, m6, m7], [w1, w2], _, _, _ =>
    refine ⟨_, _, _, _, _, _, rfl, rfl, ?_⟩
    refine ⟨_, _, _, _, _, _, rfl, rfl, ?_⟩
    refine ⟨_, _, _, _, _, _, rfl, rfl, ?_⟩
    refine ⟨_, _, _, _, _, _, rfl, rfl, ?_⟩
    refine ⟨_, _, _, _, _, _, rfl, rfl, ?_⟩
    refine ⟨_, _, _, _, _, _, rfl, rfl, ?_⟩
    refine ⟨_, _, _, _, _, _, rfl, rfl, ?_⟩
    rfl
def sp_book_init (K : PySem.W.Frag) : Sp := SpInit (ga K "Book") fun args H P => ∃ (a : Addr) (L : List Str), args = [.int 1, .ref a, .str "above", .int 1, .int 1, .bl false, .int 0, .bl true, .int 1] ∧ LooksAt H a L ∧ L ∈ looksL ∧ P = fun p dx H' => BookAt K H' p a L
/-- Book(bound=1, looks=..) -/
structure BkMk (P : Program) (w : World) (K : PySem.W.Frag) (mg : Str → Option Value) (base : Heap) (k : Nat) : Prop where
  ex : ∃ (fd : FuncData) (mv : List Value), FnOk P w K mg base CX0 k (ma K (ga K "Book") "__init__") fd bkPs (sp_book_init K) ∧ KBn K fd bkPs 1 ["bound", "looks"] (fun us ws => us ++ (ws ++ mv)) (fun vs zs => vs ++ (zs ++ bkDef.map (·.2)))
theorem sc_Book_init : FnScope ["self", "bound", "looks", "how", "day", "grain", "spares", "late", "again", "period", "parts"] ["self", "bound", "looks", "how", "day", "grain", "spares", "late", "again", "period"] (defScope (inClass (top 81) 0)) := ⟨rfl, rfl, rfl, by decide +kernel, rfl, by decide +kernel, by decide +kernel⟩
theorem k_Book_init (T : Txt K mg) (c_check_parts : Cal P w K mg base 5 "check_parts" sp_check_parts) : BkMk P w K mg base 6 := by
  obtain ⟨fd, F⟩ := T.d_Book_init
  obtain ⟨mv, B⟩ := book_binds F
  refine ⟨fd, mv, fn_ok F sc_Book_init (fun vs H Q E h => ?_) (fun cdv A outer s H vs Q E hr h => ?_), B⟩
  · obtain ⟨p, dx, args, P0, rfl, hp, ⟨a, L, rfl, ha, hL, rfl⟩, k⟩ := h
    rfl
  · obtain ⟨p, dx, args, P0, rfl, hp, ⟨a, L, rfl, ha, hL, rfl⟩, k⟩ := h
    have hu := hu_of hr
    refine ⟨_, (pss_cons (ps_set (i := 10) sc_Book_init.nd rfl (by first | exact Or.inl rfl | exact Or.inr rfl) (pe_disp (pps_cons pe_str (pv 1) (pps_cons pe_str (pv 2) (pps_cons pe_str (pv 3) (pps_cons pe_str (pv 4) (pps_cons pe_str (pv 5) (pps_cons pe_str (pv 6) pps_nil)))))) (by rfl) (by rfl) (fun z => by cases z) (by decide)))
      (pss_cons (ps_expr (pe_bm PySem.F.plainAttrs_dict PySem.F.slot_dict_update PySem.F.type_dict_update KX.mt_updK (pv 10) (pa_cons (pe_disp (pps_cons pe_str (pv 7) (pps_cons pe_str (pv 8) (pps_cons pe_str (pv 9) pps_nil))) (by rfl) (by rfl) (fun z => by cases z) (by decide)) pa_nil)))
      (pss_cons (ps_expr (pcal c_check_parts hr (pa_cons (pv 10) pa_nil)))
      (pss_one (ps_fld (pv 0) (pv 10) rfl))))), ?_⟩
    refine q_asgN (o := .dK [(Sum.inr "bound", .int 1), (Sum.inr "looks", .ref a), (Sum.inr "how", .str "above"), (Sum.inr "day", .int 1), (Sum.inr "grain", .int 1), (Sum.inr "spares", .bl false)]) (by walk_at "en") fun d H1 hd e1 h1 => ?_
    have u1 : EvN (tDisp [(tC (.str "late"), tVar 7), (tC (.str "again"), tVar 8), (tC (.str "period"), tVar 9)]) [some (.ref p), some (.int 1), some (.ref a), some (.str "above"), some (.int 1), some (.int 1), some (.bl false), some (.int 0), some (.bl true), some (.int 1), some (.ref d)] H1 (.dK [(Sum.inr "late", .int 0), (Sum.inr "again", .bl true), (Sum.inr "period", .int 1)]) := by walk_at "en"
    refine ⟨_, rfl, Or.inr (Or.inr (Or.inl ⟨rfl, Or.inl ⟨_, h1⟩⟩)), u1 H1 (Ex.refl H1) _ fun d2 H2 hd2 e2 h2 => ⟨d, d2, _, _, rfl, rfl, (fun z => by rw [← z, h1] at hd2; cases hd2), e2 _ _ h1, h2, (by show 9 ≤ sizeLine; decide), ?_⟩⟩
    rw [show mergeK [(Sum.inr "bound", V.int 1), (Sum.inr "looks", .ref a), (Sum.inr "how", .str "above"), (Sum.inr "day", .int 1), (Sum.inr "grain", .int 1), (Sum.inr "spares", .bl false)] [(Sum.inr "late", .int 0), (Sum.inr "again", .bl true), (Sum.inr "period", .int 1)] = bkKvs a from by kernel_rfl]
    have x2 : Ex H (upd H2 d (.dK (bkKvs a))) := Ex.mut (e1.trans e2) hd
    refine q_drop (ev_call (ea_cons (ev_var rfl) ea_nil) (sv_check_parts upd_same (x2 _ _ ha) hL)) fun H3 e3 => ?_
    have x3 := x2.trans e3
    refine s_fld T.c_Book T.n_Book_own_parts (ev_var rfl) (ev_var rfl) (x3 _ _ hp) (by decide) fun H4 e4 => ?_
    have h4 := (e3.trans e4) _ _ (upd_same (H := H2) (a := d) (o := .dK (bkKvs a)))
    have x4 := x3.trans e4
    refine k _ (ExB.upd (Ex.exB x4)) ⟨dx, d, upd_same, ?_, ?_, hL⟩
    · rw [upd_ne fun z => by rw [z, x4 _ _ hp] at h4; cases h4]
      exact h4
    · have ha4 := x4 _ _ ha
      show upd H4 p _ a = _
      rw [upd_ne fun z => by rw [z, x4 _ _ hp] at ha4; cases ha4]
      exact ha4
def sp_book_looks (K : PySem.W.Frag) : Sp := SpVal fun vs H z => ∃ (b a : Addr) (L : List Str), vs = [.ref b] ∧ BookAt K H b a L ∧ z = .ref a
theorem sv_book_looks {b a : Addr} {L : List Str} (h : BookAt K H b a L) : SpV (sp_book_looks K) [.ref b] H (.ref a) := sv_of fun _ e => ⟨b, a, L, rfl, h.mono e, rfl⟩
theorem ev_book_looks {σ : L2.St} {ta : TE} {b a : Addr} {L : List Str} (h : BookAt K H b a L) (ha : Ev ta σ H (.ref b)) : Ev (tProp (ga K "Book") (sp_book_looks K) [] E0 ta) σ H (.ref a) := by
  have h' := h
  obtain ⟨dx, pd, h1, _⟩ := h'
  exact ev_prop ha h1 (sv_book_looks h)
-- slots of Book.looks: 0 self
theorem sc_Book_looks : FnScope ["self"] ["self"] (defScope (inClass (top 81) 4)) := ⟨rfl, rfl, rfl, by decide +kernel, rfl, by decide +kernel, by decide +kernel⟩
theorem k_Book_looks (T : Txt K mg)  : Prp P w K mg base 1 (ga K "Book") "looks" (sp_book_looks K) := by
  refine At.prp (sp := (sp_book_looks K)) ?_ T.c_Book T.p_Book_looks
  refine at_ok T.d_Book_looks sc_Book_looks (fun _ _ _ _ _ _ us hl => match us, hl with | [_], _ => rfl) (fun vs H Q E h => ?_) (fun cdv A outer s H vs Q E hr h => ?_)
  · obtain ⟨z, ⟨b, a, L, rfl, ⟨dx, pd, h1, h2, h3, h4⟩, rfl⟩, k⟩ := h
    rfl
  · obtain ⟨z, ⟨b, a, L, rfl, ⟨dx, pd, h1, h2, h3, h4⟩, rfl⟩, k⟩ := h
    have hu := hu_of hr
    refine ⟨_, (pss_one (ps_ret (pe_dget hu (pfld K (pv 0)) pe_str (fun _ _ => rfl)))), ?_⟩
    exact s_ret (ev_dget (k := Sum.inr "looks") (ev_fld (ev_var rfl) h1 T.c_Book T.n_Book_own_parts rfl) ev_c h2 rfl) k
def sp_book_grain (K : PySem.W.Frag) : Sp := SpVal fun vs H z => ∃ (b a : Addr) (L : List Str), vs = [.ref b] ∧ BookAt K H b a L ∧ z = .int 1
theorem sv_book_grain {b a : Addr} {L : List Str} (h : BookAt K H b a L) : SpV (sp_book_grain K) [.ref b] H (.int 1) := sv_of fun _ e => ⟨b, a, L, rfl, h.mono e, rfl⟩
theorem ev_book_grain {σ : L2.St} {ta : TE} {b a : Addr} {L : List Str} (h : BookAt K H b a L) (ha : Ev ta σ H (.ref b)) : Ev (tProp (ga K "Book") (sp_book_grain K) [] E0 ta) σ H (.int 1) := by
  have h' := h
  obtain ⟨dx, pd, h1, _⟩ := h'
  exact ev_prop ha h1 (sv_book_grain h)
-- slots of Book.grain: 0 self
theorem sc_Book_grain : FnScope ["self"] ["self"] (defScope (inClass (top 81) 10)) := ⟨rfl, rfl, rfl, by decide +kernel, rfl, by decide +kernel, by decide +kernel⟩
theorem k_Book_grain (T : Txt K mg)  : Prp P w K mg base 1 (ga K "Book") "grain" (sp_book_grain K) := by
  refine At.prp (sp := (sp_book_grain K)) ?_ T.c_Book T.p_Book_grain
  refine at_ok T.d_Book_grain sc_Book_grain (fun _ _ _ _ _ _ us hl => match us, hl with | [_], _ => rfl) (fun vs H Q E h => ?_) (fun cdv A outer s H vs Q E hr h => ?_)
  · obtain ⟨z, ⟨b, a, L, rfl, ⟨dx, pd, h1, h2, h3, h4⟩, rfl⟩, k⟩ := h
    rfl
  · obtain ⟨z, ⟨b, a, L, rfl, ⟨dx, pd, h1, h2, h3, h4⟩, rfl⟩, k⟩ := h
    have hu := hu_of hr
    refine ⟨_, (pss_one (ps_ret (pe_dget hu (pfld K (pv 0)) pe_str (fun _ _ => rfl)))), ?_⟩
    exact s_ret (ev_dget (k := Sum.inr "grain") (ev_fld (ev_var rfl) h1 T.c_Book T.n_Book_own_parts rfl) ev_c h2 rfl) k
def sp_check_book (K : PySem.W.Frag) : Sp := SpVal fun vs H z => ∃ (b a : Addr) (L : List Str), vs = [.ref b] ∧ BookAt K H b a L ∧ z = .non
theorem sv_check_book {b a : Addr} {L : List Str} (h : BookAt K H b a L) : SpV (sp_check_book K) [.ref b] H .non := sv_of fun _ e => ⟨b, a, L, rfl, h.mono e, rfl⟩
-- slots of check_book: 0 value
theorem sc_check_book : FnScope ["value"] ["value"] (defScope (top 82)) := ⟨rfl, rfl, rfl, by decide +kernel, rfl, by decide +kernel, by decide +kernel⟩
theorem k_check_book (T : Txt K mg)  : Cal P w K mg base 1 "check_book" (sp_check_book K) := by
  refine cal_of T.d_check_book T.g_check_book sc_check_book (fun _ _ _ _ _ _ us hl => match us, hl with | [_], _ => rfl) (fun vs H Q E h => ?_) (fun cdv A outer s H vs Q E hr h => ?_)
  · obtain ⟨z, ⟨b, a, L, rfl, ⟨dx, pd, h1, h2, h3, h4⟩, rfl⟩, k⟩ := h
    rfl
  · obtain ⟨z, ⟨b, a, L, rfl, ⟨dx, pd, h1, h2, h3, h4⟩, rfl⟩, k⟩ := h
    have hu := hu_of hr
    refine ⟨_, (pss_one (ps_if (pt_not (pt_val (pe_callB (C8.call_isC T.is_Book) (by rfl) T.b_isinstance boot_isinstance (pa_cons (pv 0) (pa_cons (pgo T.g_Book) pa_nil))))) (pss_one ps_never) pss_nil)), ?_⟩
    exact s_not (et_is (et_not (et_B (ev_isC (ea_cons (ev_var rfl) (ea_cons ev_c ea_nil)) h1))) rfl) k
def sp_check_all (K : PySem.W.Frag) : Sp := SpVal fun vs H z => ∃ (w r b a : Addr) (c : Ch) (al : Bool) (L : List Str), vs = [.ref w, .ref r, .ref b] ∧ WayAt K H w c ∧ RuleAt K H r al ∧ BookAt K H b a L ∧ z = .non
theorem sv_check_all {w r b a : Addr} {c : Ch} {al : Bool} {L : List Str} (hw : WayAt K H w c) (hr : RuleAt K H r al) (h : BookAt K H b a L) : SpV (sp_check_all K) [.ref w, .ref r, .ref b] H .non := sv_of fun _ e => ⟨w, r, b, a, c, al, L, rfl, hw.mono e, hr.mono e, h.mono e, rfl⟩
-- slots of check_all: 0 way 1 rule 2 book
theorem sc_check_all : FnScope ["way", "rule", "book"] ["way", "rule", "book"] (defScope (top 85)) := ⟨rfl, rfl, rfl, by decide +kernel, rfl, by decide +kernel, by decide +kernel⟩
theorem k_check_all (T : Txt K mg) (c_check_way : Cal P w K mg base 1 "check_way" (sp_check_way K)) (c_check_rule : Cal P w K mg base 1 "check_rule" (sp_check_rule K)) (c_check_book : Cal P w K mg base 1 "check_book" (sp_check_book K)) : Cal P w K mg base 2 "check_all" (sp_check_all K) := by
  refine cal_of T.d_check_all T.g_check_all sc_check_all (fun _ _ _ _ _ _ us hl => match us, hl with | [_, _, _], _ => rfl) (fun vs H Q E h => ?_) (fun cdv A outer s H vs Q E hr h => ?_)
  · obtain ⟨z, ⟨w, r, b, a, c, al, L, rfl, hw, hrl, hb, rfl⟩, k⟩ := h
    rfl
  · obtain ⟨z, ⟨w, r, b, a, c, al, L, rfl, hw, hrl, hb, rfl⟩, k⟩ := h
    have hu := hu_of hr
    refine ⟨_, (pss_cons (ps_expr (pcal c_check_way hr (pa_cons (pv 0) pa_nil)))
      (pss_cons (ps_expr (pcal c_check_rule hr (pa_cons (pv 1) pa_nil)))
      (pss_one (ps_expr (pcal c_check_book hr (pa_cons (pv 2) pa_nil)))))), ?_⟩
    refine q_drop (ev_call (ea_cons (ev_var rfl) ea_nil) (sv_check_way hw)) fun H1 e1 => ?_
    refine q_drop (ev_call (ea_cons (ev_var rfl) ea_nil) (sv_check_rule (hrl.mono e1))) fun H2 e2 => ?_
    exact s_drop (ev_call (ea_cons (ev_var rfl) ea_nil) (sv_check_book (hb.mono (e1.trans e2)))) fun H3 e3 => k H3 ((e1.trans e2).trans e3)
def sp_counts : Sp := SpVal fun vs H z => ∃ (b t : Addr) (c : Ch) (i : Nat), vs = [.ref b, .ref t] ∧ H t = some (.tup (arrV c i ++ [.str ""])) ∧ z = .bl true
theorem sv_counts {b t : Addr} {c : Ch} {i : Nat} (h : H t = some (.tup (arrV c i ++ [.str ""]))) : SpV sp_counts [.ref b, .ref t] H (.bl true) := sv_of fun _ e => ⟨b, t, c, i, rfl, e _ _ h, rfl⟩
theorem ev_orT {σ : L2.St} {ta tb : TE} (h : Ev ta σ H (.bl true)) : Ev (tOrV ta tb) σ H (.bl true) := fun H1 e Q q => h H1 e _ fun H2 e2 => ⟨true, rfl, q H2 e2⟩
-- slots of counts: 0 book 1 arrow 2 word
theorem sc_counts : FnScope ["book", "arrow", "word"] ["book", "arrow"] (defScope (top 87)) := ⟨rfl, rfl, rfl, by decide +kernel, rfl, by decide +kernel, by decide +kernel⟩
theorem k_counts (T : Txt K mg)  : Cal P w K mg base 1 "counts" sp_counts := by
  refine cal_of T.d_counts T.g_counts sc_counts (fun _ _ _ _ _ _ us hl => match us, hl with | [_, _], _ => rfl) (fun vs H Q E h => ?_) (fun cdv A outer s H vs Q E hr h => ?_)
  · obtain ⟨z, ⟨b, t, c, i, rfl, ht, rfl⟩, k⟩ := h
    rfl
  · obtain ⟨z, ⟨b, t, c, i, rfl, ht, rfl⟩, k⟩ := h
    have hu := hu_of hr
    refine ⟨_, (pss_cons (ps_set (i := 2) sc_counts.nd rfl (by first | exact Or.inl rfl | exact Or.inr rfl) (pe_ix (ixT K) (pv 1) pe_int (fun _ _ => rfl)))
      (pss_cons (ps_if (pt_cmpR op_eq (pv 2) pe_str (by rfl)) pss_never pss_nil)
      (pss_one (ps_ret (pe_or (pe_cmpR op_eq (pv 2) pe_str (by rfl)) (pe_one pe_never)))))), ?_⟩
    refine q_asg (v := .str "") (ev_op (ev_var rfl) ev_c (rv_ixT (SqT.of ht) rfl)) fun H1 e1 => ?_
    refine q_not (et_is (et_test (ev_op (ev_var rfl) ev_c (rv_eq rfl))) (by decide +kernel)) fun H2 e2 => ?_
    exact s_ret (ev_orT (ev_is (ev_op (ev_var rfl) ev_c (rv_eq rfl)) (by decide +kernel))) fun H3 e3 => k H3 ((e1.trans e2).trans e3)
/-- the greatest that is seen, by the first arrows -/
def Ch.seen (c : Ch) (al : Bool) (L : List Str) : Nat → Int
  | 0 => -1
  | k + 1 => if c.M al L c.hi k + c.hi k - 1 > Ch.seen c al L k then c.M al L c.hi k + c.hi k - 1 else Ch.seen c al L k
def sp_seen_most (K : PySem.W.Frag) : Sp := SpD fun vs H P => ∃ (g w r kd b a : Addr) (c : Ch) (al : Bool) (L : List Str) (F : Addr → Prop), vs = [.ref w, .ref b, .ref g] ∧ AgesD K H g w r kd c al ∧ KeptAt H kd F c al ∧ (∀ b, F b → H b ≠ none) ∧ BookAt K H b a L ∧ P = fun v _ => v = .int (c.seen al L c.ts.length)
theorem BookAt.mond {H H1 : Hp} {b a : Addr} {L : List Str} (e : ExD H H1) (h : BookAt K H b a L) : BookAt K H1 b a L := by
  obtain ⟨dx, pd, h1, h2, h3, h4⟩ := h
  exact ⟨dx, pd, e.ins h1, e.dk h2, e.tup h3, h4⟩
theorem seen_step (c : Ch) (al : Bool) (L : List Str) (k : Nat) : c.seen al L (k + 1) = if c.M al L c.hi k + c.hi k - 1 > c.seen al L k then c.M al L c.hi k + c.hi k - 1 else c.seen al L k := rfl
-- slots of seen_most: 0 way 1 book 2 ages 3 table 4 found 5 arrow 6 age 7 most 8 seen
theorem sc_seen_most : FnScope ["way", "book", "ages", "table", "found", "arrow", "age", "most", "seen"] ["way", "book", "ages"] (defScope (top 88)) := ⟨rfl, rfl, rfl, by decide +kernel, rfl, by decide +kernel, by decide +kernel⟩
theorem k_seen_most (T : Txt K mg) (c_table : Met P w K mg base 16 (ga K "Ages") "table" (sp_table K 3)) (c_looks : Prp P w K mg base 1 (ga K "Book") "looks" (sp_book_looks K)) (c_arrows : Met P w K mg base 1 (ga K "Way") "arrows" (sp_way_arrows K)) (c_counts : Cal P w K mg base 1 "counts" sp_counts) (c_grain : Prp P w K mg base 1 (ga K "Book") "grain" (sp_book_grain K)) (c_is_more : Cal P w K mg base 1 "is_more" sp_is_more) : Cal P w K mg base 18 "seen_most" (sp_seen_most K) := by
  refine cal_of T.d_seen_most T.g_seen_most sc_seen_most (fun _ _ _ _ _ _ us hl => match us, hl with | [_, _, _], _ => rfl) (fun vs H Q E h => ?_) (fun cdv A outer s H vs Q E hr h => ?_)
  · obtain ⟨P0, ⟨g, w, r, kd, b, a, c, al, L, F, rfl, h, hk, hF, hb, rfl⟩, k⟩ := h
    rfl
  · obtain ⟨P0, ⟨g, w, r, kd, b, a, c, al, L, F, rfl, h, hk, hF, hb, rfl⟩, k⟩ := h
    have hu := hu_of hr
    refine ⟨_, (pss_cons (ps_set (i := 3) sc_seen_most.nd rfl (by first | exact Or.inl rfl | exact Or.inr rfl) (pmet c_table hr (pv 2) (pa_cons (pprop c_looks hr (pv 1)) pa_nil)))
      (pss_cons (ps_set (i := 4) sc_seen_most.nd rfl (by first | exact Or.inl rfl | exact Or.inr rfl) (pe_un un_neg pe_int))
      (pss_cons (ps_for PassesOwn.never rfl (piL K (pmet0 c_arrows hr (pv 0))) (pg_name (i := 5) sc_seen_most.nd rfl (by first | exact Or.inl rfl | exact Or.inr rfl))
      (pss_one (ps_if (pt_val (pcal c_counts hr (pa_cons (pv 1) (pa_cons (pv 5) pa_nil)))) (pss_cons (ps_par (i := 6) (j := 7) rfl sc_seen_most.nd rfl rfl (by decide) rfl rfl (pa_cons (pe_ix (ixL K) (pv 3) (pe_ix (ixT K) (pv 5) pe_int (fun _ _ => rfl)) (fun _ _ => rfl)) (pa_cons (pe_ix (ixT K) (pv 5) pe_int (fun _ _ => rfl)) pa_nil)) (by rfl))
      (pss_cons (ps_set (i := 8) sc_seen_most.nd rfl (by first | exact Or.inl rfl | exact Or.inr rfl) (pe_ifExp (PW.pt (pw_or (pt_cmpR op_isN (pv 6) pe_non (by rfl)) (pw_or1 (pt_cmpR op_isN (pv 7) pe_non (by rfl))))) pe_non (pe_op op_sub (pe_op op_add (pe_op op_sub (pe_op op_add (pv 6) (pv 7)) pe_int) (pprop c_grain hr (pv 1))) pe_int)))
      (pss_one (ps_set (i := 4) sc_seen_most.nd rfl (by first | exact Or.inl rfl | exact Or.inr rfl) (pe_ifExp (pt_val (pcal c_is_more hr (pa_cons (pv 8) (pa_cons (pv 4) pa_nil)))) (pv 8) (pv 4)))))) pss_nil)))
      (pss_one (ps_ret (pv 4)))))), ?_⟩
    have hb' := hb
    obtain ⟨_, _, _, _, ha, hL⟩ := hb'
    obtain ⟨dx, ra, hg⟩ := h.ins
    refine q_raw ?_
    refine ⟨_, rfl, g, dx, _, rfl, hg, rfl, ev_book_looks hb (ev_var rfl) H (Ex.refl H) _ fun H1 e1 => ⟨_, ⟨g, w, r, kd, a, c, al, L, F, rfl, h.mono e1, hk.mono e1, free_mono e1 hF, e1 _ _ ha, hL, looks_le L hL, rfl⟩, fun v H2 e2 hv => ?_⟩⟩
    obtain ⟨hk2, t, rfl, ht⟩ := hv
    have e02 := (ExD.of e1).trans e2
    obtain ⟨dxw, n0, l0, as, bs, hW⟩ := h.way.mond e02
    have hbl := hW.arrs.2.1
    have hts := hW.ok.len
    have hle := hW.ok.le
    refine q_asg (v := .int (-1)) (ev_un ev_c ru_neg) fun H3 e3 => ?_
    refine q_forNLn (K := K) (xs := bs) (en_meth (m := "arrows") (dvs := []) (E := E0) (ev_var rfl) (e3 _ _ hW.ins) rfl ea_nil (sn_way_arrows (hW.mono e3))) (fun p i σ H' => ∃ v5 v6 v7 v8, σ = [some (.ref w), some (.ref b), some (.ref g), some (.ref t), some (.int (c.seen al L i)), v5, v6, v7, v8] ∧ Ex H3 H' ∧ H' p = some (.lst bs)) (fun p H4 hp e4 h4 => ⟨_, _, _, _, rfl, e4, h4⟩) (fun p i σ H' _ ⟨_, _, _, _, _, _, q⟩ => SqL.of q) (fun p i x σ H' hi q => ?_) (fun p σ H' q => ?_)
    · obtain ⟨v5, v6, v7, v8, rfl, e4, hp⟩ := q
      have hi' : i < c.ts.length := by
        rw [← hbl]
        exact (List.getElem?_eq_some_iff.mp hi).1
      obtain ⟨q, hq1, hq2⟩ := hW.arrs.2.2 i hi'
      rw [hi] at hq1
      cases hq1
      have e34 := e3.trans e4
      have hq4 := e34 _ _ hq2
      refine s_yes (et_test (ev_call (ea_cons (ev_var rfl) (ea_cons (ev_var rfl) ea_nil)) (sv_counts hq4))) fun H5 e5 => ?_
      have hq5 := e5 _ _ hq4
      have ht5 := (e34.trans e5) _ _ ht
      have pr : EvA (tCons (tOp (rIxL K) (tVar 3) (tOp (rIxT K) (tVar 5) (tC (.int 0)))) (tCons (tOp (rIxT K) (tVar 5) (tC (.int 3))) tNil)) [some (.ref w), some (.ref b), some (.ref g), some (.ref t), some (.int (c.seen al L i)), some (.ref q), v6, v7, v8] H5 [.int (c.M al L c.hi i), .int (c.hi i)] := ea_cons (ev_op (ev_var rfl) (ev_op (ev_var rfl) ev_c (rv_ixT (SqT.of hq5) rfl)) (rv_ixL (SqL.of ht5) (atI_nat (map_at (f := fun i => V.int (c.M al L c.hi i)) (by omega))))) (ea_cons (ev_op (ev_var rfl) ev_c (rv_ixT (SqT.of hq5) rfl)) ea_nil)
      refine q_par pr fun H6 e6 => ?_
      have hb6 := ((hb.mond e02).mono (e34.trans e5)).mono e6
      refine q_asg (v := .int (c.M al L c.hi i + c.hi i - 1 + 1 - 1)) (ev_if (b := false) (et_is (et_or (a := false) (b := false) (et_is (et_test (ev_op (ev_var rfl) ev_c rv_isN)) (by kernel_rfl)) fun _ => et_is (et_test (ev_op (ev_var rfl) ev_c rv_isN)) (by kernel_rfl)) rfl) (fun z => nomatch z) fun _ => ev_op (ev_op (ev_op (ev_op (ev_var rfl) (ev_var rfl) rv_I0) ev_c rv_I0) (ev_book_grain hb6 (ev_var rfl)) rv_I0) ev_c rv_I0) fun H7 e7 => ?_
      rw [show c.M al L c.hi i + c.hi i - 1 + 1 - 1 = c.M al L c.hi i + c.hi i - 1 by omega]
      refine s_asg (v := .int (c.seen al L (i + 1))) (ev_if (b := decide (c.M al L c.hi i + c.hi i - 1 > c.seen al L i)) (et_test (ev_call (ea_cons (ev_var rfl) (ea_cons (ev_var rfl) ea_nil)) sv_is_more)) (fun z => ?_) (fun z => ?_)) fun H8 e8 => ?_
      · rw [seen_step, if_pos (of_decide_eq_true z)]
        exact ev_var rfl
      · rw [seen_step, if_neg (of_decide_eq_false z)]
        exact ev_var rfl
      · have e48 := (((e5.trans e6).trans e7).trans e8)
        exact ⟨_, _, _, _, rfl, e4.trans e48, e48 _ _ hp⟩
    · obtain ⟨v5, v6, v7, v8, rfl, e4, hp⟩ := q
      rw [hbl]
      exact s_ret (ev_var rfl) fun H5 e5 => k _ H5 (e02.trans (.of ((e3.trans e4).trans e5))) rfl
def sp_greatest_seen (K : PySem.W.Frag) : Sp := SpD fun vs H P => ∃ (w r b a : Addr) (c : Ch) (al : Bool) (L : List Str), vs = [.ref w, .ref r, .ref b] ∧ WayAt K H w c ∧ RuleAt K H r al ∧ BookAt K H b a L ∧ P = fun v _ => v = .int (c.seen al L c.ts.length)
-- slots of greatest_seen: 0 way 1 rule 2 book
theorem sc_greatest_seen : FnScope ["way", "rule", "book"] ["way", "rule", "book"] (defScope (top 89)) := ⟨rfl, rfl, rfl, by decide +kernel, rfl, by decide +kernel, by decide +kernel⟩
theorem k_greatest_seen (T : Txt K mg) (c_check_all : Cal P w K mg base 2 "check_all" (sp_check_all K)) (c_seen_most : Cal P w K mg base 18 "seen_most" (sp_seen_most K)) (c_Ages : Mak P w K mg base 6 "Ages" (ga K "Ages") (sp_ages_init K)) : Cal P w K mg base 19 "greatest_seen" (sp_greatest_seen K) := by
  refine cal_of T.d_greatest_seen T.g_greatest_seen sc_greatest_seen (fun _ _ _ _ _ _ us hl => match us, hl with | [_, _, _], _ => rfl) (fun vs H Q E h => ?_) (fun cdv A outer s H vs Q E hr h => ?_)
  · obtain ⟨P0, ⟨w, r, b, a, c, al, L, rfl, hw, hrl, hb, rfl⟩, k⟩ := h
    rfl
  · obtain ⟨P0, ⟨w, r, b, a, c, al, L, rfl, hw, hrl, hb, rfl⟩, k⟩ := h
    have hu := hu_of hr
    refine ⟨_, (pss_cons (ps_expr (pcal c_check_all hr (pa_cons (pv 0) (pa_cons (pv 1) (pa_cons (pv 2) pa_nil)))))
      (pss_one (ps_ret (pcal c_seen_most hr (pa_cons (pv 0) (pa_cons (pv 2) (pa_cons (pmak c_Ages hr (pa_cons (pv 0) (pa_cons (pv 1) pa_nil))) pa_nil))))))), ?_⟩
    refine q_drop (ev_call (ea_cons (ev_var rfl) (ea_cons (ev_var rfl) (ea_cons (ev_var rfl) ea_nil))) (sv_check_all hw hrl hb)) fun H1 e1 => ?_
    refine ⟨_, rfl, _, rfl, ep_make (PI := fun p dx H' => ∃ kd, AgesD K H' p w r kd c al ∧ H' kd = some (.dT [])) (ea_cons (ev_var rfl) (ea_cons (ev_var rfl) ea_nil)) (fun H2 e2 => ⟨w, r, c, al, rfl, (hw.mono e1).mono e2, (hrl.mono e1).mono e2, rfl⟩) H1 (Ex.refl H1) _ fun v H2 e2 hv => ?_⟩
    obtain ⟨g, dx, rfl, _, kd, hA, hkd⟩ := hv
    exact ⟨_, ⟨g, w, r, kd, b, a, c, al, L, fun _ => False, rfl, hA, kept0 hkd, fun _ z => z.elim, hb.mono (e1.trans e2), rfl⟩, fun v H3 e3 hv => k v H3 ((ExD.of (e1.trans e2)).trans e3) hv⟩
end
end K57
-- part C4
/-! What draws from a source: all stands but the source. -/
namespace K57
open PySem PySem.Spec PyProof.Rows L2 He Evl
def SrcAt (H : Hp) (s : Addr) : Prop := ∃ a b : Int, H s = some (.lst [.int a, .int b]) ∧ 0 ≤ a ∧ 0 ≤ b ∧ b < 2147483648
structure ExS (s : Addr) (H H' : Hp) : Prop where
  src : SrcAt H s
  src' : SrcAt H' s
  off : ExB s H H'
section
variable {s : Addr} {H H1 H2 : Hp}
theorem SrcAt.mono (e : Ex H H1) (h : SrcAt H s) : SrcAt H1 s := by
  obtain ⟨a, b, h1, h2⟩ := h
  exact ⟨a, b, e _ _ h1, h2⟩
theorem ExS.refl (h : SrcAt H s) : ExS s H H := ⟨h, h, ExB.refl s H⟩
theorem ExS.trans (a : ExS s H H1) (b : ExS s H1 H2) : ExS s H H2 := ⟨a.src, b.src', a.off.trans b.off⟩
theorem ExS.of (h : SrcAt H s) (e : Ex H H1) : ExS s H H1 := ⟨h, h.mono e, Ex.exB e⟩
theorem ExS.ne (e : ExS s H H1) : H1 s ≠ none := by
  obtain ⟨a, b, h, _⟩ := e.src'
  rw [h]
  exact fun z => nomatch z
theorem ExS.back (e : ExS s H H1) {p : Addr} (h : H1 p = none) : H p = none := e.off.fresh e.ne h
theorem ExS.tup (e : ExS s H H1) {a : Addr} {xs : List V} (h : H a = some (.tup xs)) : H1 a = some (.tup xs) := e.off a _ (fun z => by
  obtain ⟨x, y, h1, _⟩ := e.src
  rw [z, h1] at h
  cases h) h
theorem ExS.exd (e : ExS s H1 H2) {H0 : Hp} (d : ExD H0 H1) (h : H0 s = none) : ExD H0 H2 := ⟨fun b o n hb => e.off b o (ne_of_none hb h) (d.keep b o n hb), fun b hb => d.back b (e.back hb)⟩
theorem ExS.keep (e : ExS s H H1) {a : Addr} {o : HO} (h : H a = some o) (hn : a ≠ s) : H1 a = some o := e.off a o hn h
theorem ExS.new {p : Addr} {o : HO} (h : SrcAt H s) (hp : H p = none) : ExS s H (upd H p o) := .of h (Ex.new hp)
/-- at addresses that were free ahead of H0 all may change -/
theorem ExS.mut {p : Addr} {o : HO} (e : ExS s H H1) (hp : H p = none) : ExS s H (upd H1 p o) := by
  have hps : p ≠ s := fun z => by
    obtain ⟨x, y, h1, _⟩ := e.src
    rw [z, h1] at hp
    cases hp
  obtain ⟨x, y, h1, h2⟩ := e.src'
  refine ⟨e.src, ⟨x, y, by rw [upd_ne (fun z => hps z.symm)]; exact h1, h2⟩, fun b q hb hq => ?_⟩
  rw [upd_ne (ne_of_none hq hp)]
  exact e.off b q hb hq
end
def EvS (s : Addr) (te : TE) (σ : L2.St) (P : V → Hp → Prop) : Prop := ∀ H, SrcAt H s → ∀ Q : VK, (∀ v H2, ExS s H H2 → P v H2 → Q v H2) → te σ H Q
def EvSA (s : Addr) (tas : TA) (σ : L2.St) (P : List V → Hp → Prop) : Prop := ∀ H, SrcAt H s → ∀ Q : List V → Hp → Prop, (∀ vs H2, ExS s H H2 → P vs H2 → Q vs H2) → tas σ H Q
abbrev MonoS (s : Addr) (P : V → Hp → Prop) : Prop := ∀ v H H1, ExS s H H1 → P v H → P v H1
def AllS (P : V → Hp → Prop) (n : Nat) (vs : List V) (H : Hp) : Prop := vs.length = n ∧ ∀ v ∈ vs, P v H
/-- an int in bounds -/
def Rg (lo hi : Int) : V → Hp → Prop := fun v _ => ∃ x, v = .int x ∧ lo ≤ x ∧ x < hi
theorem rg_mono (s : Addr) (lo hi : Int) : MonoS s (Rg lo hi) := fun _ _ _ _ h => h
def DeedP (b : Bool) : V → Hp → Prop := fun v H => ∃ a d, v = .ref a ∧ DeedAt H a d ∧ d.makes = b
theorem deed_mono (s : Addr) (b : Bool) : MonoS s (DeedP b) := fun v H H1 e ⟨a, d, h1, h2, h3⟩ => ⟨a, d, h1, ⟨e.tup h2.1, h2.2⟩, h3⟩
/-! the promises -/
def sp_draw : Sp := fun vs H Q _ => ∃ (s : Addr) (n : Int), vs = [.ref s, .int n] ∧ 1 ≤ n ∧ n ≤ 1000000000 ∧ SrcAt H s ∧ ∀ v H', ExS s H H' → Rg 0 n v H' → Q v H'
def sp_pick : Sp := fun vs H Q _ => ∃ (s it : Addr) (xs : List V), vs = [.ref s, .ref it] ∧ H it = some (.lst xs) ∧ it ≠ s ∧ 1 ≤ xs.length ∧ xs.length ≤ 1000 ∧ SrcAt H s ∧ ∀ v H', ExS s H H' → v ∈ xs → Q v H'
def sp_deed (b : Bool) : Sp := fun vs H Q _ => ∃ (s : Addr) (n : Int), vs = [.ref s, .int n] ∧ 1 ≤ n ∧ n ≤ 1000000000 ∧ SrcAt H s ∧ ∀ v H', ExS s H H' → DeedP b v H' → Q v H'
section
variable {s : Addr} {te ta tb : TE} {tas : TA} {σ : L2.St} {P P' : V → Hp → Prop} {n : Nat} {i : Nat} {E : XK} {K : PySem.W.Frag}
theorem EvS.imp (h : EvS s te σ P) (hp : ∀ v H, P v H → P' v H) : EvS s te σ P' := fun H hs Q q => h H hs Q fun v H2 e p => q v H2 e (hp v H2 p)
theorem es_var {v : V} (h : σ[i]? = some (some v)) (hp : ∀ H, P v H) : EvS s (tVar i) σ P := fun H hs Q q => ⟨v, h, q v H (.refl hs) (hp H)⟩
theorem es_c {v : V} (hp : ∀ H, P v H) : EvS s (tC v) σ P := fun H hs Q q => q v H (.refl hs) (hp H)
theorem es_pow {k : Int} {N : Int} (hk : 0 ≤ k ∧ k ≤ 1000000) (h : (10 : Int) ^ k.toNat = N) (hp : ∀ H, P (.int N) H) : EvS s (tOp (rI CPow fun i j => .int (i ^ j.toNat)) (tC (.int 10)) (tC (.int k))) σ P := fun H hs Q q => ⟨10, k, rfl, rfl, ⟨hk.1, hk.2, by decide⟩, by show Q (.int (10 ^ k.toNat)) H; rw [h]; exact q _ H (.refl hs) (hp H)⟩
theorem es_add {a lo hi : Int} (ha : ∀ H, Ev ta σ H (.int a)) (hb : EvS s tb σ (Rg lo hi)) : EvS s (tOp (rI0 fun i j => .int (i + j)) ta tb) σ (Rg (a + lo) (a + hi)) := fun H hs Q q =>
  ha H H (Ex.refl H) _ fun H1 e1 => hb H1 (hs.mono e1) _ fun v H2 e2 ⟨x, hv, h1, h2⟩ => ⟨a, x, rfl, hv, q _ H2 ((ExS.of hs e1).trans e2) ⟨_, rfl, by omega, by omega⟩⟩
theorem esa_nil : EvSA s tNil σ (AllS P 0) := fun H hs Q q => q [] H (.refl hs) ⟨rfl, fun v hv => nomatch hv⟩
theorem esa_cons (hm : MonoS s P) (h : EvS s te σ P) (hr : EvSA s tas σ (AllS P n)) : EvSA s (tCons te tas) σ (AllS P (n + 1)) := fun H hs Q q => h H hs _ fun v H1 e1 p => hr H1 e1.src' _ fun vs H2 e2 p2 => q _ H2 (e1.trans e2) ⟨by rw [List.length_cons, p2.1], fun y hy => by
  rcases List.mem_cons.mp hy with hy | hy
  · rw [hy]
    exact hm _ _ _ e2 p
  · exact p2.2 y hy⟩
theorem es_lst (hm : MonoS s P) (h : EvSA s tas σ (AllS P n)) (hn : n ≤ 1000) : EvS s (tLst tas) σ (fun v H => ∃ it xs, v = .ref it ∧ it ≠ s ∧ H it = some (.lst xs) ∧ AllS P n xs H) := fun H hs Q q => h H hs _ fun vs H1 e1 p => ⟨sz_of (by rw [p.1]; omega), fun it hit => by
  have e2 := ExS.new (o := .lst vs) e1.src' hit
  exact q _ _ (e1.trans e2) ⟨it, vs, rfl, fun z => e1.ne (by rw [← z]; exact hit), upd_same, p.1, fun v hv => hm _ _ _ e2 (p.2 v hv)⟩⟩
theorem es_draw {N : Int} (hs : σ[i]? = some (some (.ref s))) (h : EvS s te σ (Rg 1 (N + 1))) (hN : N ≤ 1000000000) : EvS s (tCall sp_draw [] E (tCons (tVar i) (tCons te tNil))) σ (Rg 0 N) := fun H h0 Q q =>
  ⟨_, hs, h H h0 _ fun v H1 e1 ⟨n, hv, h1, h2⟩ => ⟨s, n, by rw [hv]; rfl, h1, by omega, e1.src', fun v2 H2 e2 ⟨x, hx, h3, h4⟩ => q v2 H2 (e1.trans e2) ⟨x, hx, h3, by omega⟩⟩⟩
/-- [..][e], an item -/
theorem es_ixN (hm : MonoS s P) (h : EvSA s tas σ (AllS P n)) (hn : n ≤ 1000) (he : EvS s te σ (Rg 0 n)) : EvS s (tOp (rIxL K) (tLst tas) te) σ P := fun H hs Q q =>
  es_lst hm h hn H hs _ fun v H1 e1 ⟨it, xs, hv, hit, h1, h2⟩ => he H1 e1.src' _ fun w H2 e2 ⟨x, hw, h3, h4⟩ => by
    obtain ⟨m, rfl⟩ : ∃ m : Nat, x = m := ⟨x.toNat, by omega⟩
    have hx : m < xs.length := by
      rw [h2.1]
      omega
    exact ⟨it, xs, m, xs[m], hv, hw, SqL.of (e2.keep h1 hit), atI_nat (List.getElem?_eq_getElem hx), q _ H2 (e1.trans e2) (hm _ _ _ e2 (h2.2 _ (List.getElem_mem hx)))⟩
theorem es_pick (hs : σ[i]? = some (some (.ref s))) (hm : MonoS s P) (h : EvSA s tas σ (AllS P n)) (hn : 1 ≤ n ∧ n ≤ 1000) : EvS s (tCall sp_pick [] E (tCons (tVar i) (tCons (tLst tas) tNil))) σ P := fun H h0 Q q =>
  ⟨_, hs, es_lst hm h hn.2 H h0 _ fun v H1 e1 ⟨it, xs, hv, hit, h1, h2⟩ => ⟨s, it, xs, by rw [hv]; rfl, h1, hit, by rw [h2.1]; exact hn.1, by rw [h2.1]; exact hn.2, e1.src', fun v2 H2 e2 hv2 => q v2 H2 (e1.trans e2) (hm _ _ _ e2 (h2.2 _ hv2))⟩⟩
theorem es_deed {b : Bool} (hs : σ[i]? = some (some (.ref s))) (h : EvS s te σ (Rg 1 1000000001)) : EvS s (tCall (sp_deed b) [] E (tCons (tVar i) (tCons te tNil))) σ (DeedP b) := fun H h0 Q q =>
  ⟨_, hs, h H h0 _ fun v H1 e1 ⟨n, hv, h1, h2⟩ => ⟨s, n, by rw [hv]; rfl, h1, by omega, e1.src', fun v2 H2 e2 p => q v2 H2 (e1.trans e2) p⟩⟩
theorem es_plain {w : Str} (d : Deed) (hv : d.vs = [.str w]) (ho : d.ok) : EvS s (tTup (tCons (tC (.str w)) tNil)) σ (DeedP d.makes) := fun H hs Q q => ⟨(by show 1 ≤ sizeLine; decide), fun p hp => q _ _ (.new hs hp) ⟨p, d, rfl, ⟨by rw [upd_same, hv], ho⟩, rfl⟩⟩
theorem es_num {w : Str} {b : Bool} (d : Int → Deed) (hv : ∀ x, (d x).vs = [.str w, .int x]) (ho : ∀ x, 1 ≤ x ∧ x ≤ 1000000000 → (d x).ok) (hb : ∀ x, (d x).makes = b) (h : EvS s te σ (Rg 1 1000000001)) : EvS s (tTup (tCons (tC (.str w)) (tCons te tNil))) σ (DeedP b) := fun H hs Q q =>
  h H hs _ fun v H1 e1 ⟨x, hx, h1, h2⟩ => ⟨(by show 2 ≤ sizeLine; decide), fun p hp => q _ _ (e1.trans (.new e1.src' hp)) ⟨p, d x, rfl, ⟨by rw [upd_same, hv, hx], ho x ⟨h1, by omega⟩⟩, hb x⟩⟩
end
end K57
-- part D13
/-! The law: what it draws. -/
namespace K57
open PySem PySem.Spec PyProof.Rows L2 He Evl
local macro_rules | `(tactic| walk_at "hp") => `(tactic| first | assumption | exact SqT.of (by assumption) | exact SqL.of (by assumption) | exact Txt.t_PLAIN (by assumption) _ | exact Txt.t_MARKS (by assumption) _ | exact Txt.t_WORDS (by assumption) _ | exact Txt.t_PARTS (by assumption) _)
local macro_rules | `(tactic| walk_at "kit") => `(tactic| first | exact kit_ii | exact kit_ib | exact kit_bb | exact kit_tt | exact kit_ss | exact kit_ll)
local macro_rules | `(tactic| walk_at "ty") => `(tactic| first | exact ty_int _ | exact ty_bl _ | exact ty_str _ | exact ty_tup (by assumption) | exact ty_lst (by assumption))
local macro_rules | `(tactic| walk_at "rv") => `(tactic| first | exact rv_I0 | exact rv_I (by decide) | exact rv_I (by assumption) | exact rv_eq rfl | exact rv_ne rfl | exact rv_isN | exact rv_notN | exact rv_ixT (by walk_at "hp") rfl | exact rv_ixL (by walk_at "hp") rfl | exact rv_ixT (by walk_at "hp") (by assumption) | exact rv_ixL (by walk_at "hp") (by assumption) | exact rv_isT (by walk_at "hp") rfl rfl)
local macro_rules | `(tactic| walk_at "ea") => `(tactic| first | exact ea_nil | (refine' ea_cons ?a ?b; (case a => walk_at "ev"); (case b => walk_at "ea")))
local macro_rules | `(tactic| walk_at "eu") => `(tactic| (refine' eu_tup ?a ?b; (case a => walk_at "ea"); (case b => (show List.length _ ≤ 100000; simp only [List.length_cons, List.length_nil]; decide))))
local macro_rules | `(tactic| walk_at "ev") => `(tactic| first
  | exact ev_var rfl
  | exact ev_c
  | (refine' ev_andV ?a (fun _ => ?b); (case a => walk_at "ev"); (case b => walk_at "ev"))
  | (refine' ev_orV ?a (fun _ => ?b); (case a => walk_at "ev"); (case b => walk_at "ev"))
  | (refine' ev_notV ?a; (case a => walk_at "ev"))
  | (refine' ev_chain ?a ?b ?c ?d ?e; (case a => walk_at "ev"); (case b => walk_at "ev"); (case c => walk_at "rv"); (case d => walk_at "ev"); (case e => walk_at "rv"))
  | (refine' ev_isi ?a ?c ?t ?e; (case a => walk_at "ea"); (case c => first | exact ClsV.ty _ | exact ClsV.own _); (case t => walk_at "ty"); (case e => walk_at "kit"))
  | (refine' ev_call ?a ?s; (case a => walk_at "ea"); (case s => walk_at "sv"))
  | (refine' ev_inU ?a ?b ?c ?d; (case a => walk_at "ev"); (case b => walk_at "eu"); (case c => rfl); (case d => rfl))
  | (refine' ev_niU ?a ?b ?c ?d; (case a => walk_at "ev"); (case b => walk_at "eu"); (case c => rfl); (case d => rfl))
  | (refine' ev_op ?a ?b ?r; (case a => walk_at "ev"); (case b => walk_at "ev"); (case r => walk_at "rv"))
  | (refine' ev_un ?a ru_neg; (case a => walk_at "ev"))
  | (refine' ev_len2 ?a ?b; (case a => walk_at "ev"); (case b => first | exact Or.inl (by walk_at "hp") | exact Or.inr (by walk_at "hp")))
  | (refine' ev_int1 ?a; (case a => walk_at "ev"))
  | (refine' ev_intB ?a; (case a => walk_at "ev")))
local macro_rules | `(tactic| walk_at "evr") => `(tactic| (refine' ev_is ?h ?e; (case h => walk_at "ev"); (case e => first | kernel_rfl | rfl)))
local macro_rules | `(tactic| walk_at "et") => `(tactic| first
  | (refine' et_and ?a (fun _ => ?b); (case a => walk_at "et"); (case b => walk_at "et"))
  | (refine' et_or ?a (fun _ => ?b); (case a => walk_at "et"); (case b => walk_at "et"))
  | (refine' et_not ?a; (case a => walk_at "et"))
  | (refine' et_test ?a; (case a => walk_at "ev"))
  | (refine' et_B ?a; (case a => walk_at "ev")))
local macro_rules | `(tactic| walk_at "etr") => `(tactic| (refine' et_is ?h ?e; (case h => walk_at "et"); (case e => first | kernel_rfl | rfl)))
local macro_rules | `(tactic| walk_at "eps") => `(tactic| first | exact EvPs.nil | (refine' EvPs.cons (k := Sum.inr _) ?a ?b ?c; (case a => walk_at "ev"); (case b => walk_at "ev"); (case c => walk_at "eps")))
local macro_rules | `(tactic| walk_at "en") => `(tactic| first | exact en_dnew | (refine' en_disp ?a ?b ?c; (case a => walk_at "eps"); (case b => (show List.length _ ≤ 15; simp only [List.length_cons, List.length_nil]; decide)); (case c => rfl)))
local macro_rules | `(tactic| walk_at "sv") => `(tactic| exact sv_is_whole)
local macro_rules | `(tactic| walk_at "sv") => `(tactic| exact sv_is_between)
local macro_rules | `(tactic| walk_at "sv") => `(tactic| exact sv_is_listed (by assumption))
local macro_rules | `(tactic| walk_at "sv") => `(tactic| exact sv_is_part_of (by walk_at "hp") rfl)
local macro_rules | `(tactic| walk_at "sv") => `(tactic| exact sv_is_time)
local macro_rules | `(tactic| walk_at "sv") => `(tactic| exact sv_is_deed (by assumption))
local macro_rules | `(tactic| walk_at "sv") => `(tactic| exact sv_makes (by assumption))
local macro_rules | `(tactic| walk_at "sv") => `(tactic| exact sv_is_looks (by assumption) (by assumption))
local macro_rules | `(tactic| walk_at "sv") => `(tactic| exact sv_check_rule (by assumption))
local macro_rules | `(tactic| walk_at "sv") => `(tactic| exact sv_is_more)
local macro_rules | `(tactic| walk_at "sv") => `(tactic| exact sv_is_between_t (by omega))
local macro_rules | `(tactic| walk_at "sv") => `(tactic| exact sv_is_between_t (by assumption))
local macro_rules | `(tactic| walk_at "sv") => `(tactic| exact sv_is_time_t (by omega))
local macro_rules | `(tactic| walk_at "sv") => `(tactic| exact sv_is_time_t (by assumption))
local macro_rules | `(tactic| walk_at "sv") => `(tactic| exact sv_check_way (by assumption))
local macro_rules | `(tactic| walk_at "sv") => `(tactic| exact sv_check_node (by assumption) (by assumption))
local macro_rules | `(tactic| walk_at "sv") => `(tactic| exact sv_rule_word (by assumption))
section
variable {P : Program} {w : World} {K : PySem.W.Frag} {mg : Str → Option Value} {base : Heap} {H : Hp}
local macro_rules | `(tactic| walk_at "ev") => `(tactic| assumption)
def sp_source (K : PySem.W.Frag) : Sp := fun vs H Q _ => ∃ (a : Addr) (ns : List Int) (t : Nat), vs = [.ref a, .int (t : Int)] ∧ SqL K H a (ns.map V.int) ∧ ∀ s H', H s = none → Ex H H' → SrcAt H' s → Q (.ref s) H'
theorem mod_rg {a n : Int} (h : 0 < n) : 0 ≤ a % n ∧ a % n < n := ⟨Int.emod_nonneg _ (by omega), Int.emod_lt_of_pos _ h⟩
theorem cmul_r {a n : Int} (h : -(2 ^ 64) < n ∧ n < 2 ^ 64) : CMul a n := Or.inr h
theorem cmul_l {a n : Int} (h : -(2 ^ 64) < a ∧ a < 2 ^ 64) : CMul a n := Or.inl h
-- slots of _law_source: 0 script 1 turn 2 cell 3 number 4 seed
theorem sc_law_source : FnScope ["script", "turn", "cell", "number", "seed"] ["script", "turn"] (defScope (top 91)) := ⟨rfl, rfl, rfl, by decide +kernel, rfl, by decide +kernel, by decide +kernel⟩
theorem k_law_source (T : Txt K mg)  : Cal P w K mg base 1 "_law_source" (sp_source K) := by
  refine cal_of T.d_law_source T.g_law_source sc_law_source (fun _ _ _ _ _ _ us hl => match us, hl with | [_, _], _ => rfl) (fun vs H Q E h => ?_) (fun cdv A outer s H vs Q E hr h => ?_)
  · obtain ⟨a, ns, t, rfl, ha, k⟩ := h
    rfl
  · obtain ⟨a, ns, t, rfl, ha, k⟩ := h
    have hu := hu_of hr
    refine ⟨_, (pss_cons (ps_set (i := 2) sc_law_source.nd rfl (by first | exact Or.inl rfl | exact Or.inr rfl) pe_int)
      (pss_cons (ps_if (pt_cmpR op_lt (pv 1) (pe_callB (clen K) (by rfl) T.b_len boot_len (pa_cons (pv 0) pa_nil)) (by rfl)) (pss_one (ps_set (i := 2) sc_law_source.nd rfl (by first | exact Or.inl rfl | exact Or.inr rfl) (pe_ix (ixL K) (pv 0) (pv 1) (fun _ _ => rfl)))) pss_nil)
      (pss_cons (ps_set (i := 3) sc_law_source.nd rfl (by first | exact Or.inl rfl | exact Or.inr rfl) (pe_callB call_abs (by rfl) T.b_abs boot_abs (pa_cons (pv 2) pa_nil)))
      (pss_cons (ps_set (i := 4) sc_law_source.nd rfl (by first | exact Or.inl rfl | exact Or.inr rfl) (pe_op op_mod (pe_callTy call_int1 (by rfl) T.b_int boot_int (pa_cons (pe_op op_add (pe_op op_add (pe_op op_mul (pe_op op_mod (pe_callTy call_int1 (by rfl) T.b_int boot_int (pa_cons (pv 3) pa_nil)) pe_int) pe_int) (pe_op op_mul pe_int (pv 1))) pe_int) pa_nil)) pe_int))
      (pss_cons (ps_if (pt_cmpR op_lt (pv 3) (pe_op op_pow pe_int pe_int) (by rfl)) (pss_one (ps_set (i := 3) sc_law_source.nd rfl (by first | exact Or.inl rfl | exact Or.inr rfl) pe_int)) pss_nil)
      (pss_one (ps_ret (pe_lst (pa_cons (pv 3) (pa_cons (pv 4) pa_nil)))))))))), ?_⟩
    have fin : ∀ (cell : Int) H1, Ex H H1 → tSeq (tAsg (tCB (fun xs H Q => ∃ i, xs = [V.int i] ∧ Q (.int (if i < 0 then -i else i)) H) (tCons (tVar 2) tNil)) (gName 3)) (tSeq (tAsg (tOp (rI (fun _ j => 0 < j) fun i j => .int (i % j)) (tCB (fun xs H Q => (∃ i, xs = [V.int i] ∧ Q (.int i) H) ∨ ∃ k, xs = [.bl k] ∧ Q (.int (if k then 1 else 0)) H) (tCons (tOp (rI0 fun i j => .int (i + j)) (tOp (rI0 fun i j => .int (i + j)) (tOp (rI CMul fun i j => .int (i * j)) (tOp (rI (fun _ j => 0 < j) fun i j => .int (i % j)) (tCB (fun xs H Q => (∃ i, xs = [V.int i] ∧ Q (.int i) H) ∨ ∃ k, xs = [.bl k] ∧ Q (.int (if k then 1 else 0)) H) (tCons (tVar 3) tNil)) (tC (.int 2147483629))) (tC (.int 16807))) (tOp (rI CMul fun i j => .int (i * j)) (tC (.int 104729)) (tVar 1))) (tC (.int 11))) tNil)) (tC (.int 2147483647))) (gName 4)) (tSeq (tIfS (tTest (tOp (rI0 fun i j => .bl (decide (i < j))) (tVar 3) (tOp (rI CPow fun i j => .int (i ^ j.toNat)) (tC (.int 10)) (tC (.int 18))))) (tAsg (tC (.int 0)) (gName 3)) tNext) (tRet (tLst (tCons (tVar 3) (tCons (tVar 4) tNil)))))) { nx := fun _ H' => Q .non H', rt := Q } [some (.ref a), some (.int (t : Int)), some (.int cell), none, none] H1 := fun cell H1 e1 => by
      refine q_asg (v := .int (if cell < 0 then -cell else cell)) (ev_cb (ea_cons (ev_var rfl) ea_nil) fun H2 e2 Q q => ⟨cell, rfl, q H2 (Ex.refl H2)⟩) fun H2 e2 => ?_
      generalize hN : (if cell < 0 then -cell else cell) = N
      have hN0 : 0 ≤ N := by
        rw [← hN]
        split <;> omega
      refine q_asg (v := .int ((N % 2147483629 * 16807 + 104729 * (t : Int) + 11) % 2147483647)) (ev_op (ev_int1 (ev_op (ev_op (ev_op (ev_op (ev_int1 (ev_var rfl)) ev_c (rv_I (by decide))) ev_c (rv_I (cmul_r (by decide)))) (ev_op ev_c (ev_var rfl) (rv_I (cmul_l (by decide)))) rv_I0) ev_c rv_I0)) ev_c (rv_I (by decide))) fun H3 e3 => ?_
      have hsd := mod_rg (a := N % 2147483629 * 16807 + 104729 * (t : Int) + 11) (n := 2147483647) (by decide)
      generalize (N % 2147483629 * 16807 + 104729 * (t : Int) + 11) % 2147483647 = sd at hsd
      have hs3 := (e1.trans e2).trans e3
      have out : ∀ (M : Int) H4, 0 ≤ M → Ex H H4 → tRet (tLst (tCons (tVar 3) (tCons (tVar 4) tNil))) { nx := fun _ H' => Q .non H', rt := Q } [some (.ref a), some (.int (t : Int)), some (.int cell), some (.int M), some (.int sd)] H4 := fun M H4 hM e4 =>
        s_retL (el_lst (ea_cons (ev_var rfl) (ea_cons (ev_var rfl) ea_nil)) (by show 2 ≤ 100000; decide)) fun p H5 hp e5 h5 => k p H5 (fresh_back e4 hp) (e4.trans e5) ⟨M, sd, h5, hM, hsd.1, by omega⟩
      have tst : EvT (tTest (tOp (rI0 fun i j => .bl (decide (i < j))) (tVar 3) (tOp (rI CPow fun i j => .int (i ^ j.toNat)) (tC (.int 10)) (tC (.int 18))))) [some (.ref a), some (.int (t : Int)), some (.int cell), some (.int N), some (.int sd)] H3 (decide (N < 10 ^ (18 : Int).toNat)) := et_test (ev_op (ev_var rfl) (ev_op ev_c ev_c (rv_I (C := CPow) ⟨by decide, by decide, by decide⟩)) rv_I0)
      by_cases hlt : N < 10 ^ (18 : Int).toNat
      · rw [decide_eq_true hlt] at tst
        refine q_yes tst fun H4 e4 => ?_
        refine s_asg (v := .int 0) ev_c fun H5 e5 => out 0 H5 (by decide) ((hs3.trans e4).trans e5)
      · rw [decide_eq_false hlt] at tst
        exact q_not tst fun H4 e4 => out N H4 hN0 (hs3.trans e4)
    refine q_asg (v := .int 0) ev_c fun H1 e1 => ?_
    have tst : EvT (tTest (tOp (rI0 fun i j => .bl (decide (i < j))) (tVar 1) (tCB (rLenS K) (tCons (tVar 0) tNil)))) [some (.ref a), some (.int (t : Int)), some (.int 0), none, none] H1 (decide ((t : Int) < (ns.length : Int))) := et_test (ev_op (ev_var rfl) (ev_is (ev_len2 (ev_var rfl) (.inl (ex_l e1 ha))) (by rw [List.length_map])) rv_I0)
    by_cases hlt : (t : Int) < (ns.length : Int)
    · rw [decide_eq_true hlt] at tst
      refine q_yes tst fun H2 e2 => ?_
      have ht : t < ns.length := by omega
      refine s_asg (v := .int ns[t]) (ev_op (ev_var rfl) (ev_var rfl) (rv_ixL (ex_l (e1.trans e2) ha) (atI_nat (by rw [List.getElem?_map, List.getElem?_eq_getElem ht]; rfl)))) fun H3 e3 => ?_
      exact fin _ H3 ((e1.trans e2).trans e3)
    · rw [decide_eq_false hlt] at tst
      exact q_not tst fun H2 e2 => fin _ H2 (e1.trans e2)
theorem src_ix0 {s : Addr} {σ : L2.St} {H : Hp} {a b : Int} (h : H s = some (.lst [.int a, .int b])) (hv : σ[0]? = some (some (.ref s))) : Ev (tOp (rIxL K) (tVar 0) (tC (.int 0))) σ H (.int a) := ev_op (ev_var hv) ev_c (rv_ixL (SqL.of h) (atI_nat (i := 0) rfl))
theorem src_ix1 {s : Addr} {σ : L2.St} {H : Hp} {a b : Int} (h : H s = some (.lst [.int a, .int b])) (hv : σ[0]? = some (some (.ref s))) : Ev (tOp (rIxL K) (tVar 0) (tC (.int 1))) σ H (.int b) := ev_op (ev_var hv) ev_c (rv_ixL (SqL.of h) (atI_nat (i := 1) rfl))
theorem ExS.set {s : Addr} {H H1 : Hp} {a b : Int} (e : ExS s H H1) (h : 0 ≤ a ∧ 0 ≤ b ∧ b < 2147483648) : ExS s H (upd H1 s (.lst [.int a, .int b])) := ⟨e.src, ⟨a, b, upd_same, h⟩, ExB.upd e.off⟩
-- slots of _law_draw: 0 source 1 amount 2 digit 3 found
theorem sc_law_draw : FnScope ["source", "amount", "digit", "found"] ["source", "amount"] (defScope (top 92)) := ⟨rfl, rfl, rfl, by decide +kernel, rfl, by decide +kernel, by decide +kernel⟩
theorem k_law_draw (T : Txt K mg)  : Cal P w K mg base 1 "_law_draw" sp_draw := by
  refine cal_of T.d_law_draw T.g_law_draw sc_law_draw (fun _ _ _ _ _ _ us hl => match us, hl with | [_, _], _ => rfl) (fun vs H Q E h => ?_) (fun cdv A outer s H vs Q E hr h => ?_)
  · obtain ⟨s0, n, rfl, hn1, hn2, hs, k⟩ := h
    rfl
  · obtain ⟨s0, n, rfl, hn1, hn2, hs, k⟩ := h
    have hu := hu_of hr
    refine ⟨_, (pss_cons (ps_if (pt_cmpR op_gt (pe_ix (ixL K) (pv 0) pe_int (fun _ _ => rfl)) pe_int (by rfl)) (pss_cons (ps_set (i := 2) sc_law_draw.nd rfl (by first | exact Or.inl rfl | exact Or.inr rfl) (pe_op op_mod (pe_callTy call_int1 (by rfl) T.b_int boot_int (pa_cons (pe_ix (ixL K) (pv 0) pe_int (fun _ _ => rfl)) pa_nil)) (pv 1)))
      (pss_cons (ps_asg (pe_op op_fdiv (pe_ix (ixL K) (pv 0) pe_int (fun _ _ => rfl)) (pv 1)) (pg_sub (pv 0) pe_int set_list))
      (pss_one (ps_ret (pv 2))))) pss_nil)
      (pss_cons (ps_asg (pe_op op_mod (pe_callTy call_int1 (by rfl) T.b_int boot_int (pa_cons (pe_op op_add (pe_op op_mul (pe_ix (ixL K) (pv 0) pe_int (fun _ _ => rfl)) pe_int) pe_int) pa_nil)) pe_int) (pg_sub (pv 0) pe_int set_list))
      (pss_cons (ps_set (i := 3) sc_law_draw.nd rfl (by first | exact Or.inl rfl | exact Or.inr rfl) (pe_op op_fdiv (pe_op op_mod (pe_callTy call_int1 (by rfl) T.b_int boot_int (pa_cons (pe_op op_mul (pe_ix (ixL K) (pv 0) pe_int (fun _ _ => rfl)) (pe_ix (ixL K) (pv 0) pe_int (fun _ _ => rfl))) pa_nil)) pe_int) pe_int))
      (pss_cons (ps_if (pt_cmpR op_gt (pv 1) (pe_op op_pow pe_int pe_int) (by rfl)) (pss_cons (ps_asg (pe_op op_mod (pe_callTy call_int1 (by rfl) T.b_int boot_int (pa_cons (pe_op op_add (pe_op op_mul (pe_ix (ixL K) (pv 0) pe_int (fun _ _ => rfl)) pe_int) pe_int) pa_nil)) pe_int) (pg_sub (pv 0) pe_int set_list))
      (pss_one (ps_set (i := 3) sc_law_draw.nd rfl (by first | exact Or.inl rfl | exact Or.inr rfl) (pe_op op_add (pe_op op_mul (pv 3) pe_int) (pe_op op_fdiv (pe_op op_mod (pe_callTy call_int1 (by rfl) T.b_int boot_int (pa_cons (pe_op op_mul (pe_ix (ixL K) (pv 0) pe_int (fun _ _ => rfl)) (pe_ix (ixL K) (pv 0) pe_int (fun _ _ => rfl))) pa_nil)) pe_int) pe_int))))) pss_nil)
      (pss_one (ps_ret (pe_op op_mod (pe_callTy call_int1 (by rfl) T.b_int boot_int (pa_cons (pv 3) pa_nil)) (pv 1)))))))), ?_⟩
    have hs' := hs
    obtain ⟨a, b, h, ha, hb, hb2⟩ := hs'
    have hn0 : 0 < n := by omega
    have t0 : EvT (tTest (tOp (rI0 fun i j => .bl (decide (i > j))) (tOp (rIxL K) (tVar 0) (tC (.int 0))) (tC (.int 0)))) (start ["source", "amount", "digit", "found"] [.ref s0, .int n]) H (decide (a > 0)) := et_test (ev_op (src_ix0 h rfl) ev_c rv_I0)
    by_cases hp : a > 0
    · rw [decide_eq_true hp] at t0
      refine q_yes t0 fun H1 e1 => ?_
      have h1 := e1 _ _ h
      refine q_asg (v := .int (a % n)) (ev_op (ev_int1 (src_ix0 h1 rfl)) (ev_var rfl) (rv_I hn0)) fun H2 e2 => ?_
      have h2 := e2 _ _ h1
      refine q_setL (xs := [.int a, .int b]) (j := 0) (v := .int (a / n)) h2 (ev_op (src_ix0 h2 rfl) (ev_var rfl) (rv_I ⟨hn0, by omega⟩)) (ev_var rfl) ev_c (by show 0 < 2; decide) fun H3 e3 => ?_
      have hm := mod_rg (a := a) hn0
      have x3 : ExS s0 H (upd H3 s0 (.lst [.int (a / n), .int b])) := (ExS.of hs ((e1.trans e2).trans e3)).set ⟨Int.ediv_nonneg ha (by omega), hb, hb2⟩
      exact s_ret (ev_var rfl) fun H4 e4 => k _ H4 (x3.trans (.of x3.src' e4)) ⟨_, rfl, hm.1, hm.2⟩
    · rw [decide_eq_false hp] at t0
      refine q_not t0 fun H1 e1 => ?_
      have h1 := e1 _ _ h
      refine q_setL (xs := [.int a, .int b]) (j := 1) (v := .int ((b * 48271 + 11) % 2147483647)) h1 (ev_op (ev_int1 (ev_op (ev_op (src_ix1 h1 rfl) ev_c (rv_I (cmul_r (by decide)))) ev_c rv_I0)) ev_c (rv_I (by decide))) (ev_var rfl) ev_c (by show 1 < 2; decide) fun H2 e2 => ?_
      have hc := mod_rg (a := b * 48271 + 11) (n := 2147483647) (by decide)
      generalize (b * 48271 + 11) % 2147483647 = c at hc
      have x2 : ExS s0 H (upd H2 s0 (.lst [.int a, .int c])) := (ExS.of hs (e1.trans e2)).set ⟨ha, hc.1, by omega⟩
      have h2 : (upd H2 s0 (.lst [.int a, .int c])) s0 = some (.lst [.int a, .int c]) := upd_same
      change tSeq _ _ _ _ (upd H2 s0 (.lst [.int a, .int c]))
      generalize upd H2 s0 (.lst [.int a, .int c]) = G2 at x2 h2 ⊢
      refine q_asg (v := .int (c * c % 2147483629 / 64)) (ev_op (ev_op (ev_int1 (ev_op (src_ix1 h2 rfl) (src_ix1 h2 rfl) (rv_I (cmul_r (by omega))))) ev_c (rv_I (by decide))) ev_c (rv_I (C := CDiv) ⟨by decide, by decide⟩)) fun H3 e3 => ?_
      generalize c * c % 2147483629 / 64 = f
      have x3 := x2.trans (.of x2.src' e3)
      have h3 := e3 _ _ h2
      have fin : ∀ (g : Int) H4, ExS s0 H H4 → tRet (tOp (rI (fun _ j => 0 < j) fun i j => .int (i % j)) (tCB (fun xs H Q => (∃ i, xs = [V.int i] ∧ Q (.int i) H) ∨ ∃ k, xs = [.bl k] ∧ Q (.int (if k then 1 else 0)) H) (tCons (tVar 3) tNil)) (tVar 1)) { nx := fun _ H' => Q .non H', rt := Q } [some (.ref s0), some (.int n), none, some (.int g)] H4 := fun g H4 x4 =>
        s_ret (v := .int (g % n)) (ev_op (ev_int1 (ev_var rfl)) (ev_var rfl) (rv_I hn0)) fun H5 e5 => k _ H5 (x4.trans (.of x4.src' e5)) ⟨_, rfl, (mod_rg hn0).1, (mod_rg hn0).2⟩
      have t1 : EvT (tTest (tOp (rI0 fun i j => .bl (decide (i > j))) (tVar 1) (tOp (rI CPow fun i j => .int (i ^ j.toNat)) (tC (.int 10)) (tC (.int 7))))) [some (.ref s0), some (.int n), none, some (.int f)] H3 (decide (n > 10 ^ (7 : Int).toNat)) := et_test (ev_op (ev_var rfl) (ev_op ev_c ev_c (rv_I (C := CPow) ⟨by decide, by decide, by decide⟩)) rv_I0)
      by_cases hq : n > 10 ^ (7 : Int).toNat
      · rw [decide_eq_true hq] at t1
        refine q_yes t1 fun H4 e4 => ?_
        have h4 := e4 _ _ h3
        refine q_setL (xs := [.int a, .int c]) (j := 1) (v := .int ((c * 39373 + 17) % 2147483647)) h4 (ev_op (ev_int1 (ev_op (ev_op (src_ix1 h4 rfl) ev_c (rv_I (cmul_r (by decide)))) ev_c rv_I0)) ev_c (rv_I (by decide))) (ev_var rfl) ev_c (by show 1 < 2; decide) fun H5 e5 => ?_
        have hd := mod_rg (a := c * 39373 + 17) (n := 2147483647) (by decide)
        generalize (c * 39373 + 17) % 2147483647 = d at hd
        have x5 : ExS s0 H (upd H5 s0 (.lst [.int a, .int d])) := (x3.trans (.of x3.src' (e4.trans e5))).set ⟨ha, hd.1, by omega⟩
        have h5 : (upd H5 s0 (.lst [.int a, .int d])) s0 = some (.lst [.int a, .int d]) := upd_same
        change tAsg _ _ _ _ (upd H5 s0 (.lst [.int a, .int d]))
        generalize upd H5 s0 (.lst [.int a, .int d]) = G5 at x5 h5 ⊢
        refine s_asg (v := .int (f * 33554393 + d * d % 2147483629 / 64)) (ev_op (ev_op (ev_var rfl) ev_c (rv_I (cmul_r (by decide)))) (ev_op (ev_op (ev_int1 (ev_op (src_ix1 h5 rfl) (src_ix1 h5 rfl) (rv_I (cmul_r (by omega))))) ev_c (rv_I (by decide))) ev_c (rv_I (C := CDiv) ⟨by decide, by decide⟩)) rv_I0) fun H6 e6 => ?_
        exact fin _ H6 (x5.trans (.of x5.src' e6))
      · rw [decide_eq_false hq] at t1
        exact q_not t1 fun H4 e4 => fin _ H4 (x3.trans (.of x3.src' e4))
-- slots of _law_pick: 0 source 1 items
theorem sc_law_pick : FnScope ["source", "items"] ["source", "items"] (defScope (top 93)) := ⟨rfl, rfl, rfl, by decide +kernel, rfl, by decide +kernel, by decide +kernel⟩
theorem k_law_pick (T : Txt K mg) (c_law_draw : Cal P w K mg base 1 "_law_draw" sp_draw) : Cal P w K mg base 2 "_law_pick" sp_pick := by
  refine cal_of T.d_law_pick T.g_law_pick sc_law_pick (fun _ _ _ _ _ _ us hl => match us, hl with | [_, _], _ => rfl) (fun vs H Q E h => ?_) (fun cdv A outer s H vs Q E hr h => ?_)
  · obtain ⟨s0, it, xs, rfl, hit, hne, hl1, hl2, hs, k⟩ := h
    rfl
  · obtain ⟨s0, it, xs, rfl, hit, hne, hl1, hl2, hs, k⟩ := h
    have hu := hu_of hr
    refine ⟨_, (pss_one (ps_ret (pe_ix (ixL K) (pv 1) (pcal c_law_draw hr (pa_cons (pv 0) (pa_cons (pe_callB (clen K) (by rfl) T.b_len boot_len (pa_cons (pv 1) pa_nil)) pa_nil))) (fun _ _ => rfl)))), ?_⟩
    refine ⟨_, rfl, _, rfl, ev_len2 (K := K) (ev_var rfl) (.inl (SqL.of hit)) H (Ex.refl H) _ fun H1 e1 => ⟨s0, (xs.length : Int), rfl, by omega, by omega, hs.mono e1, fun v H2 x2 hv => ?_⟩⟩
    obtain ⟨m, rfl, h0, h1⟩ := hv
    obtain ⟨j, rfl⟩ : ∃ j : Nat, m = j := ⟨m.toNat, by omega⟩
    have hj : j < xs.length := by omega
    exact ⟨it, xs, (j : Int), xs[j], rfl, rfl, SqL.of (x2.keep (e1 _ _ hit) hne), atI_nat (List.getElem?_eq_getElem hj), k _ H2 ((ExS.of hs e1).trans x2) (List.getElem_mem hj)⟩
-- slots of _law_maker: 0 source 1 back
theorem sc_law_maker : FnScope ["source", "back"] ["source", "back"] (defScope (top 95)) := ⟨rfl, rfl, rfl, by decide +kernel, rfl, by decide +kernel, by decide +kernel⟩
theorem k_law_maker (T : Txt K mg) (c_law_pick : Cal P w K mg base 2 "_law_pick" sp_pick) (c_law_draw : Cal P w K mg base 1 "_law_draw" sp_draw) : Cal P w K mg base 3 "_law_maker" (sp_deed true) := by
  refine cal_of T.d_law_maker T.g_law_maker sc_law_maker (fun _ _ _ _ _ _ us hl => match us, hl with | [_, _], _ => rfl) (fun vs H Q E h => ?_) (fun cdv A outer s H vs Q E hr h => ?_)
  · obtain ⟨s0, n, rfl, hn1, hn2, hs, k⟩ := h
    rfl
  · obtain ⟨s0, n, rfl, hn1, hn2, hs, k⟩ := h
    have hu := hu_of hr
    refine ⟨_, (pss_one (ps_ret (pcal c_law_pick hr (pa_cons (pv 0) (pa_cons (pe_lst (pa_cons (pe_tup (pa_cons pe_str pa_nil)) (pa_cons (pe_tup (pa_cons pe_str pa_nil)) (pa_cons (pe_tup (pa_cons pe_str (pa_cons (pe_op op_add pe_int (pcal c_law_draw hr (pa_cons (pv 0) (pa_cons (pv 1) pa_nil)))) pa_nil))) pa_nil)))) pa_nil))))), ?_⟩
    exact es_pick (P := DeedP true) rfl (deed_mono s0 true) (esa_cons (deed_mono s0 true) (es_plain .make rfl trivial) (esa_cons (deed_mono s0 true) (es_plain .make rfl trivial) (esa_cons (deed_mono s0 true) (es_num .unpack (fun _ => rfl) (fun _ h => h) (fun _ => rfl) (es_add (a := 1) (fun _ => ev_c) (es_draw (N := 1000000000) rfl (es_var rfl fun _ => ⟨n, rfl, hn1, by omega⟩) (by decide)))) esa_nil))) (by decide) H hs _ fun v H1 e1 p => k v H1 e1 p
-- slots of _law_user: 0 source 1 back
theorem sc_law_user : FnScope ["source", "back"] ["source", "back"] (defScope (top 96)) := ⟨rfl, rfl, rfl, by decide +kernel, rfl, by decide +kernel, by decide +kernel⟩
theorem k_law_user (T : Txt K mg) (c_law_pick : Cal P w K mg base 2 "_law_pick" sp_pick) (c_law_draw : Cal P w K mg base 1 "_law_draw" sp_draw) : Cal P w K mg base 3 "_law_user" (sp_deed false) := by
  refine cal_of T.d_law_user T.g_law_user sc_law_user (fun _ _ _ _ _ _ us hl => match us, hl with | [_, _], _ => rfl) (fun vs H Q E h => ?_) (fun cdv A outer s H vs Q E hr h => ?_)
  · obtain ⟨s0, n, rfl, hn1, hn2, hs, k⟩ := h
    rfl
  · obtain ⟨s0, n, rfl, hn1, hn2, hs, k⟩ := h
    have hu := hu_of hr
    refine ⟨_, (pss_one (ps_ret (pcal c_law_pick hr (pa_cons (pv 0) (pa_cons (pe_lst (pa_cons (pe_tup (pa_cons pe_str pa_nil)) (pa_cons (pe_tup (pa_cons pe_str pa_nil)) (pa_cons (pe_tup (pa_cons pe_str pa_nil)) (pa_cons (pe_tup (pa_cons pe_str pa_nil)) (pa_cons (pe_tup (pa_cons pe_str pa_nil)) (pa_cons (pe_tup (pa_cons pe_str pa_nil)) (pa_cons (pe_tup (pa_cons pe_str (pa_cons (pe_op op_add pe_int (pcal c_law_draw hr (pa_cons (pv 0) (pa_cons (pv 1) pa_nil)))) pa_nil))) pa_nil)))))))) pa_nil))))), ?_⟩
    exact es_pick (P := DeedP false) rfl (deed_mono s0 false) (esa_cons (deed_mono s0 false) (es_plain .read rfl trivial) (esa_cons (deed_mono s0 false) (es_plain .read rfl trivial) (esa_cons (deed_mono s0 false) (es_plain .read rfl trivial) (esa_cons (deed_mono s0 false) (es_plain .write rfl trivial) (esa_cons (deed_mono s0 false) (es_plain .rename rfl trivial) (esa_cons (deed_mono s0 false) (es_plain .touch rfl trivial) (esa_cons (deed_mono s0 false) (es_num .setback (fun _ => rfl) (fun _ h => h) (fun _ => rfl) (es_add (a := 1) (fun _ => ev_c) (es_draw (N := 1000000000) rfl (es_var rfl fun _ => ⟨n, rfl, hn1, by omega⟩) (by decide)))) esa_nil))))))) (by decide) H hs _ fun v H1 e1 p => k v H1 e1 p
end
end K57
-- part D14
/-! The law: its chain. -/
namespace K57
open PySem PySem.Spec PyProof.Rows L2 He Evl
local macro_rules | `(tactic| walk_at "hp") => `(tactic| first | assumption | exact SqT.of (by assumption) | exact SqL.of (by assumption) | exact Txt.t_PLAIN (by assumption) _ | exact Txt.t_MARKS (by assumption) _ | exact Txt.t_WORDS (by assumption) _ | exact Txt.t_PARTS (by assumption) _)
local macro_rules | `(tactic| walk_at "kit") => `(tactic| first | exact kit_ii | exact kit_ib | exact kit_bb | exact kit_tt | exact kit_ss | exact kit_ll)
local macro_rules | `(tactic| walk_at "ty") => `(tactic| first | exact ty_int _ | exact ty_bl _ | exact ty_str _ | exact ty_tup (by assumption) | exact ty_lst (by assumption))
local macro_rules | `(tactic| walk_at "rv") => `(tactic| first | exact rv_I0 | exact rv_I (by decide) | exact rv_I (by assumption) | exact rv_eq rfl | exact rv_ne rfl | exact rv_isN | exact rv_notN | exact rv_ixT (by walk_at "hp") rfl | exact rv_ixL (by walk_at "hp") rfl | exact rv_ixT (by walk_at "hp") (by assumption) | exact rv_ixL (by walk_at "hp") (by assumption) | exact rv_isT (by walk_at "hp") rfl rfl)
local macro_rules | `(tactic| walk_at "ea") => `(tactic| first | exact ea_nil | (refine' ea_cons ?a ?b; (case a => walk_at "ev"); (case b => walk_at "ea")))
local macro_rules | `(tactic| walk_at "eu") => `(tactic| (refine' eu_tup ?a ?b; (case a => walk_at "ea"); (case b => (show List.length _ ≤ 100000; simp only [List.length_cons, List.length_nil]; decide))))
local macro_rules | `(tactic| walk_at "ev") => `(tactic| first
  | exact ev_var rfl
  | exact ev_c
  | (refine' ev_andV ?a (fun _ => ?b); (case a => walk_at "ev"); (case b => walk_at "ev"))
  | (refine' ev_orV ?a (fun _ => ?b); (case a => walk_at "ev"); (case b => walk_at "ev"))
  | (refine' ev_notV ?a; (case a => walk_at "ev"))
  | (refine' ev_chain ?a ?b ?c ?d ?e; (case a => walk_at "ev"); (case b => walk_at "ev"); (case c => walk_at "rv"); (case d => walk_at "ev"); (case e => walk_at "rv"))
  | (refine' ev_isi ?a ?c ?t ?e; (case a => walk_at "ea"); (case c => first | exact ClsV.ty _ | exact ClsV.own _); (case t => walk_at "ty"); (case e => walk_at "kit"))
  | (refine' ev_call ?a ?s; (case a => walk_at "ea"); (case s => walk_at "sv"))
  | (refine' ev_inU ?a ?b ?c ?d; (case a => walk_at "ev"); (case b => walk_at "eu"); (case c => rfl); (case d => rfl))
  | (refine' ev_niU ?a ?b ?c ?d; (case a => walk_at "ev"); (case b => walk_at "eu"); (case c => rfl); (case d => rfl))
  | (refine' ev_op ?a ?b ?r; (case a => walk_at "ev"); (case b => walk_at "ev"); (case r => walk_at "rv"))
  | (refine' ev_un ?a ru_neg; (case a => walk_at "ev"))
  | (refine' ev_len2 ?a ?b; (case a => walk_at "ev"); (case b => first | exact Or.inl (by walk_at "hp") | exact Or.inr (by walk_at "hp")))
  | (refine' ev_int1 ?a; (case a => walk_at "ev"))
  | (refine' ev_intB ?a; (case a => walk_at "ev")))
local macro_rules | `(tactic| walk_at "evr") => `(tactic| (refine' ev_is ?h ?e; (case h => walk_at "ev"); (case e => first | kernel_rfl | rfl)))
local macro_rules | `(tactic| walk_at "et") => `(tactic| first
  | (refine' et_and ?a (fun _ => ?b); (case a => walk_at "et"); (case b => walk_at "et"))
  | (refine' et_or ?a (fun _ => ?b); (case a => walk_at "et"); (case b => walk_at "et"))
  | (refine' et_not ?a; (case a => walk_at "et"))
  | (refine' et_test ?a; (case a => walk_at "ev"))
  | (refine' et_B ?a; (case a => walk_at "ev")))
local macro_rules | `(tactic| walk_at "etr") => `(tactic| (refine' et_is ?h ?e; (case h => walk_at "et"); (case e => first | kernel_rfl | rfl)))
local macro_rules | `(tactic| walk_at "eps") => `(tactic| first | exact EvPs.nil | (refine' EvPs.cons (k := Sum.inr _) ?a ?b ?c; (case a => walk_at "ev"); (case b => walk_at "ev"); (case c => walk_at "eps")))
local macro_rules | `(tactic| walk_at "en") => `(tactic| first | exact en_dnew | (refine' en_disp ?a ?b ?c; (case a => walk_at "eps"); (case b => (show List.length _ ≤ 15; simp only [List.length_cons, List.length_nil]; decide)); (case c => rfl)))
local macro_rules | `(tactic| walk_at "sv") => `(tactic| exact sv_is_whole)
local macro_rules | `(tactic| walk_at "sv") => `(tactic| exact sv_is_between)
local macro_rules | `(tactic| walk_at "sv") => `(tactic| exact sv_is_listed (by assumption))
local macro_rules | `(tactic| walk_at "sv") => `(tactic| exact sv_is_part_of (by walk_at "hp") rfl)
local macro_rules | `(tactic| walk_at "sv") => `(tactic| exact sv_is_time)
local macro_rules | `(tactic| walk_at "sv") => `(tactic| exact sv_is_deed (by assumption))
local macro_rules | `(tactic| walk_at "sv") => `(tactic| exact sv_makes (by assumption))
local macro_rules | `(tactic| walk_at "sv") => `(tactic| exact sv_is_looks (by assumption) (by assumption))
local macro_rules | `(tactic| walk_at "sv") => `(tactic| exact sv_check_rule (by assumption))
local macro_rules | `(tactic| walk_at "sv") => `(tactic| exact sv_is_more)
local macro_rules | `(tactic| walk_at "sv") => `(tactic| exact sv_is_between_t (by omega))
local macro_rules | `(tactic| walk_at "sv") => `(tactic| exact sv_is_between_t (by assumption))
local macro_rules | `(tactic| walk_at "sv") => `(tactic| exact sv_is_time_t (by omega))
local macro_rules | `(tactic| walk_at "sv") => `(tactic| exact sv_is_time_t (by assumption))
local macro_rules | `(tactic| walk_at "sv") => `(tactic| exact sv_check_way (by assumption))
local macro_rules | `(tactic| walk_at "sv") => `(tactic| exact sv_check_node (by assumption) (by assumption))
local macro_rules | `(tactic| walk_at "sv") => `(tactic| exact sv_rule_word (by assumption))
section
variable {P : Program} {w : World} {K : PySem.W.Frag} {mg : Str → Option Value} {base : Heap} {H : Hp}
local macro_rules | `(tactic| walk_at "ev") => `(tactic| assumption)
def sp_lbacks : Sp := SpNew fun vs H o => ∃ (a : Addr) (d : Deed), vs = [.ref a] ∧ DeedAt H a d ∧ o = .dK (kvI (bk d))
theorem sn_lbacks {a : Addr} {d : Deed} (h : DeedAt H a d) : SpN sp_lbacks [.ref a] H (.dK (kvI (bk d))) := sn_of fun _ e => ⟨a, d, rfl, h.mono e, rfl⟩
-- slots of _law_backs: 0 deed
theorem sc_law_backs : FnScope ["deed"] ["deed"] (defScope (top 94)) := ⟨rfl, rfl, rfl, by decide +kernel, rfl, by decide +kernel, by decide +kernel⟩
theorem k_law_backs (T : Txt K mg)  : Cal P w K mg base 1 "_law_backs" sp_lbacks := by
  refine cal_of T.d_law_backs T.g_law_backs sc_law_backs (fun _ _ _ _ _ _ us hl => match us, hl with | [_], _ => rfl) (fun vs H Q E h => ?_) (fun cdv A outer s H vs Q E hr h => ?_)
  · obtain ⟨o, ⟨a, d, rfl, hd, rfl⟩, k⟩ := h
    rfl
  · obtain ⟨o, ⟨a, d, rfl, hd, rfl⟩, k⟩ := h
    have hu := hu_of hr
    refine ⟨_, (pss_cons (ps_if (pt_cmpR (oinS K) (pe_ix (ixT K) (pv 0) pe_int (fun _ _ => rfl)) (pe_tup (pa_cons pe_str (pa_cons pe_str pa_nil))) (by rfl)) (pss_one (ps_ret (pe_disp (pps_cons pe_str pe_int (pps_cons pe_str pe_int (pps_cons pe_str pe_int pps_nil))) (by rfl) (by rfl) (fun z => by cases z) (by decide)))) pss_nil)
      (pss_cons (ps_if (pt_cmpR op_eq (pe_ix (ixT K) (pv 0) pe_int (fun _ _ => rfl)) pe_str (by rfl)) (pss_one (ps_ret (pe_disp (pps_cons pe_str pe_int (pps_cons pe_str (pe_ix (ixT K) (pv 0) pe_int (fun _ _ => rfl)) (pps_cons pe_str pe_int pps_nil))) (by rfl) (by rfl) (fun z => by cases z) (by decide)))) pss_nil)
      (pss_cons (ps_if (pt_cmpR op_eq (pe_ix (ixT K) (pv 0) pe_int (fun _ _ => rfl)) pe_str (by rfl)) (pss_one (ps_ret (pe_disp (pps_cons pe_str (pe_ix (ixT K) (pv 0) pe_int (fun _ _ => rfl)) (pps_cons pe_str (pe_ix (ixT K) (pv 0) pe_int (fun _ _ => rfl)) (pps_cons pe_str pe_int pps_nil))) (by rfl) (by rfl) (fun z => by cases z) (by decide)))) pss_nil)
      (pss_cons (ps_if (pt_cmpR op_eq (pe_ix (ixT K) (pv 0) pe_int (fun _ _ => rfl)) pe_str (by rfl)) (pss_one (ps_ret (pe_disp (pps_cons pe_str pe_int (pps_cons pe_str pe_int pps_nil)) (by rfl) (by rfl) (fun z => by cases z) (by decide)))) pss_nil)
      (pss_one (ps_ret (pe_ifExp (pt_cmpR op_eq (pe_ix (ixT K) (pv 0) pe_int (fun _ _ => rfl)) pe_str (by rfl)) (pe_disp (pps_cons pe_str pe_int pps_nil) (by rfl) (by rfl) (fun z => by cases z) (by decide)) pe_dnewK))))))), ?_⟩
    have ha := hd.1
    cases d with
    | make =>
      refine q_yes (et_is (et_test (ev_inU (ev_op (ev_var rfl) ev_c (rv_ixT (SqT.of ((Ex.refl H) _ _ ha)) rfl)) (by walk_at "eu") rfl rfl)) (by decide +kernel)) fun H1 e1 => ?_
      have ha9 := (e1) _ _ ha
      exact s_retN (by walk_at "en") fun p H9 hp e9 h => k p H9 (fresh_back (e1) hp) ((e1).trans e9) h
    | read =>
      refine q_not (et_is (et_test (ev_inU (ev_op (ev_var rfl) ev_c (rv_ixT (SqT.of ((Ex.refl H) _ _ ha)) rfl)) (by walk_at "eu") rfl rfl)) (by decide +kernel)) fun H1 e1 => ?_
      refine q_not (et_is (et_test (ev_op (ev_op (ev_var rfl) ev_c (rv_ixT (SqT.of ((e1) _ _ ha)) rfl)) ev_c (rv_eq rfl))) (by decide +kernel)) fun H2 e2 => ?_
      refine q_not (et_is (et_test (ev_op (ev_op (ev_var rfl) ev_c (rv_ixT (SqT.of ((e1.trans e2) _ _ ha)) rfl)) ev_c (rv_eq rfl))) (by decide +kernel)) fun H3 e3 => ?_
      refine q_not (et_is (et_test (ev_op (ev_op (ev_var rfl) ev_c (rv_ixT (SqT.of (((e1.trans e2).trans e3) _ _ ha)) rfl)) ev_c (rv_eq rfl))) (by decide +kernel)) fun H4 e4 => ?_
      exact s_retN (en_if (b := false) (et_is (et_test (ev_op (ev_op (ev_var rfl) ev_c (rv_ixT (SqT.of ((((e1.trans e2).trans e3).trans e4) _ _ ha)) rfl)) ev_c (rv_eq rfl))) (by decide +kernel)) (fun z => nomatch z) (fun _ => by walk_at "en")) fun p H9 hp e9 h => k p H9 (fresh_back (((e1.trans e2).trans e3).trans e4) hp) ((((e1.trans e2).trans e3).trans e4).trans e9) h
    | write =>
      refine q_not (et_is (et_test (ev_inU (ev_op (ev_var rfl) ev_c (rv_ixT (SqT.of ((Ex.refl H) _ _ ha)) rfl)) (by walk_at "eu") rfl rfl)) (by decide +kernel)) fun H1 e1 => ?_
      refine q_not (et_is (et_test (ev_op (ev_op (ev_var rfl) ev_c (rv_ixT (SqT.of ((e1) _ _ ha)) rfl)) ev_c (rv_eq rfl))) (by decide +kernel)) fun H2 e2 => ?_
      refine q_not (et_is (et_test (ev_op (ev_op (ev_var rfl) ev_c (rv_ixT (SqT.of ((e1.trans e2) _ _ ha)) rfl)) ev_c (rv_eq rfl))) (by decide +kernel)) fun H3 e3 => ?_
      refine q_yes (et_is (et_test (ev_op (ev_op (ev_var rfl) ev_c (rv_ixT (SqT.of (((e1.trans e2).trans e3) _ _ ha)) rfl)) ev_c (rv_eq rfl))) (by decide +kernel)) fun H4 e4 => ?_
      have ha9 := (((e1.trans e2).trans e3).trans e4) _ _ ha
      exact s_retN (by walk_at "en") fun p H9 hp e9 h => k p H9 (fresh_back (((e1.trans e2).trans e3).trans e4) hp) ((((e1.trans e2).trans e3).trans e4).trans e9) h
    | rename =>
      refine q_not (et_is (et_test (ev_inU (ev_op (ev_var rfl) ev_c (rv_ixT (SqT.of ((Ex.refl H) _ _ ha)) rfl)) (by walk_at "eu") rfl rfl)) (by decide +kernel)) fun H1 e1 => ?_
      refine q_not (et_is (et_test (ev_op (ev_op (ev_var rfl) ev_c (rv_ixT (SqT.of ((e1) _ _ ha)) rfl)) ev_c (rv_eq rfl))) (by decide +kernel)) fun H2 e2 => ?_
      refine q_not (et_is (et_test (ev_op (ev_op (ev_var rfl) ev_c (rv_ixT (SqT.of ((e1.trans e2) _ _ ha)) rfl)) ev_c (rv_eq rfl))) (by decide +kernel)) fun H3 e3 => ?_
      refine q_not (et_is (et_test (ev_op (ev_op (ev_var rfl) ev_c (rv_ixT (SqT.of (((e1.trans e2).trans e3) _ _ ha)) rfl)) ev_c (rv_eq rfl))) (by decide +kernel)) fun H4 e4 => ?_
      exact s_retN (en_if (b := true) (et_is (et_test (ev_op (ev_op (ev_var rfl) ev_c (rv_ixT (SqT.of ((((e1.trans e2).trans e3).trans e4) _ _ ha)) rfl)) ev_c (rv_eq rfl))) (by decide +kernel)) (fun _ => by walk_at "en") (fun z => nomatch z)) fun p H9 hp e9 h => k p H9 (fresh_back (((e1.trans e2).trans e3).trans e4) hp) ((((e1.trans e2).trans e3).trans e4).trans e9) h
    | touch =>
      refine q_yes (et_is (et_test (ev_inU (ev_op (ev_var rfl) ev_c (rv_ixT (SqT.of ((Ex.refl H) _ _ ha)) rfl)) (by walk_at "eu") rfl rfl)) (by decide +kernel)) fun H1 e1 => ?_
      have ha9 := (e1) _ _ ha
      exact s_retN (by walk_at "en") fun p H9 hp e9 h => k p H9 (fresh_back (e1) hp) ((e1).trans e9) h
    | unpack b =>
      refine q_not (et_is (et_test (ev_inU (ev_op (ev_var rfl) ev_c (rv_ixT (SqT.of ((Ex.refl H) _ _ ha)) rfl)) (by walk_at "eu") rfl rfl)) (by decide +kernel)) fun H1 e1 => ?_
      refine q_yes (et_is (et_test (ev_op (ev_op (ev_var rfl) ev_c (rv_ixT (SqT.of ((e1) _ _ ha)) rfl)) ev_c (rv_eq rfl))) (by decide +kernel)) fun H2 e2 => ?_
      have ha9 := (e1.trans e2) _ _ ha
      exact s_retN (by walk_at "en") fun p H9 hp e9 h => k p H9 (fresh_back (e1.trans e2) hp) ((e1.trans e2).trans e9) h
    | setback b =>
      refine q_not (et_is (et_test (ev_inU (ev_op (ev_var rfl) ev_c (rv_ixT (SqT.of ((Ex.refl H) _ _ ha)) rfl)) (by walk_at "eu") rfl rfl)) (by decide +kernel)) fun H1 e1 => ?_
      refine q_not (et_is (et_test (ev_op (ev_op (ev_var rfl) ev_c (rv_ixT (SqT.of ((e1) _ _ ha)) rfl)) ev_c (rv_eq rfl))) (by decide +kernel)) fun H2 e2 => ?_
      refine q_yes (et_is (et_test (ev_op (ev_op (ev_var rfl) ev_c (rv_ixT (SqT.of ((e1.trans e2) _ _ ha)) rfl)) ev_c (rv_eq rfl))) (by decide +kernel)) fun H3 e3 => ?_
      have ha9 := ((e1.trans e2).trans e3) _ _ ha
      exact s_retN (by walk_at "en") fun p H9 hp e9 h => k p H9 (fresh_back ((e1.trans e2).trans e3) hp) (((e1.trans e2).trans e3).trans e9) h
theorem q_asgS {s : Addr} {te : TE} {σ : L2.St} {P : V → Hp → Prop} {H : Hp} {i : Nat} {tz : TS} {D : Ends} (h : EvS s te σ P) (hs : SrcAt H s) (k : ∀ v H1, ExS s H H1 → P v H1 → tz D (σ.set i (some v)) H1) : tSeq (tAsg te (gName i)) tz D σ H := h H hs _ k
theorem s_appS {s : Addr} {te : TE} {σ : L2.St} {P : V → Hp → Prop} {H : Hp} {i : Nat} {D : Ends} {l : Addr} {xs : List V} (hl : H l = some (.lst xs)) (hv : σ[i]? = some (some (.ref l))) (h : EvS s te σ P) (hs : SrcAt H s) (hne : l ≠ s) (hz : xs.length < 100000) (k : ∀ v H1, ExS s H H1 → P v H1 → D.nx σ (upd H1 l (.lst (xs ++ [v])))) : tDrop (tBM K "list" rAppend (tVar i) (tCons te tNil)) D σ H :=
  ⟨_, hv, Or.inl ⟨rfl, xs, sq_of hl⟩, h H hs _ fun v H1 e1 p => ⟨l, xs, v, rfl, rfl, e1.keep hl hne, sz_lt hz, k v H1 e1 p⟩⟩
theorem q_forRS {s : Addr} {te : TE} {σ : L2.St} {H : Hp} {j : Nat} {N : Int} {tu tz : TS} {D : Ends} (Pv : Nat → L2.St → Hp → Prop) (h : EvS s te σ (Rg 0 N)) (hs : SrcAt H s) (hN : N ≤ 40000)
    (k : ∀ n H1, 0 ≤ n → n < N → ExS s H H1 → Pv 0 σ H1 ∧ (∀ (i : Nat) σ' H', (i : Int) < n → Pv i σ' H' → tu { D with nx := Pv (i + 1), ct := Pv (i + 1), bk := tz D } (σ'.set j (some (.int (i : Int)))) H') ∧ ∀ σ' H', Pv n.toNat σ' H' → tz D σ' H') : tSeq (tFor (iRng1 (tCons te tNil)) (gName j) tu) tz D σ H :=
  h H hs _ fun v H1 e1 ⟨n, hv, h0, h1⟩ => by
    subst hv
    obtain ⟨k1, k2, k3⟩ := k n H1 h0 h1 e1
    exact ⟨n, rfl, by omega, by omega, for_range (lo := 0) (n := n.toNat) Pv k1 (fun i σ' H' hi p => by
      have e0 : (0 : Int) + (i : Int) = (i : Int) := Int.zero_add _
      show tu { D with nx := Pv (i + 1), ct := Pv (i + 1), bk := tz D } (σ'.set j (some (.int ((0 : Int) + (i : Int))))) H'
      rw [e0]
      exact k2 i σ' H' (by omega) p) k3⟩
theorem par_raw {i j : Nat} {ta : TA} {tz : TS} {D : Ends} {σ : L2.St} {H : Hp} (h : ta σ H fun vs H1 => ∃ v w, vs = [v, w] ∧ tz D ((σ.set i (some v)).set j (some w)) H1) : tSeq (tPar i j ta) tz D σ H := h
theorem c_raw {te : TE} {tr : TA} {σ : L2.St} {H : Hp} {Q : List V → Hp → Prop} (h : te σ H fun v H1 => tr σ H1 fun vs H2 => Q (v :: vs) H2) : tCons te tr σ H Q := h
theorem rs_lst {s : Addr} {tas : TA} {σ : L2.St} {P : V → Hp → Prop} {n : Nat} {H : Hp} {Q : VK} (hm : MonoS s P) (h : EvSA s tas σ (AllS P n)) (hn : n ≤ 1000) (hs : SrcAt H s) (k : ∀ it xs H', H it = none → ExS s H H' → H' it = some (.lst xs) → AllS P n xs H' → Q (.ref it) H') : tLst tas σ H Q := h H hs _ fun vs H1 e1 p => ⟨sz_of (by rw [p.1]; omega), fun it hit => by
  have e2 := ExS.new (o := .lst vs) e1.src' hit
  exact k it vs _ (e1.back hit) (e1.trans e2) upd_same ⟨p.1, fun v hv => hm _ _ _ e2 (p.2 v hv)⟩⟩
section
variable {H1 : Hp} {s l n : Addr} {c : Ch} {as bs z : List V} {ds : List Deed} {d : Deed} {a b : Addr}
/-- tuples stand -/
def TupS (H H' : Hp) : Prop := ∀ b xs, H b = some (.tup xs) → H' b = some (.tup xs)
theorem NodesAt.snoc (h : NodesAt H l ds as) (t : TupS H H1) (h1 : H1 l = some (.lst (as ++ [.ref a]))) (hd : DeedAt H1 a d) : NodesAt H1 l (ds ++ [d]) (as ++ [.ref a]) := ⟨h1, by rw [List.length_append, List.length_append, h.2.1] <;> rfl, fun i hi => by
  by_cases hlt : i < ds.length
  · obtain ⟨x, hx, hxd⟩ := h.2.2 i hlt
    refine ⟨x, ?_, ?_⟩
    · rw [List.getElem?_append_left (by rw [h.2.1]; exact hlt)]
      exact hx
    · rw [getD_l hlt]
      exact ⟨t _ _ hxd.1, hxd.2⟩
  · have hi' : i = ds.length := by
      rw [List.length_append] at hi
      have : [d].length = 1 := rfl
      omega
    subst hi'
    refine ⟨a, ?_, ?_⟩
    · rw [List.getElem?_append_right (by rw [h.2.1]; exact Nat.le_refl _), h.2.1, Nat.sub_self] <;> rfl
    · rw [getD_r (Nat.le_refl _), Nat.sub_self]
      exact hd⟩
theorem NodesAt.stay (h : NodesAt H l ds as) (t : TupS H H1) (h1 : H1 l = some (.lst as)) : NodesAt H1 l ds as := ⟨h1, h.2.1, fun i hi => by
  obtain ⟨x, hx, hxd⟩ := h.2.2 i hi
  exact ⟨x, hx, t _ _ hxd.1, hxd.2⟩⟩
theorem ArrsAt.stay (h : ArrsAt H l c z bs) (t : TupS H H1) (h1 : H1 l = some (.lst bs)) : ArrsAt H1 l c z bs := ⟨h1, h.2.1, fun i hi => by
  obtain ⟨x, hx, hxd⟩ := h.2.2 i hi
  exact ⟨x, hx, t _ _ hxd⟩⟩
theorem arrV_ts {ds ds' : List Deed} {ts : List (Int × Int)} {t : Int × Int} {i : Nat} (h : i < ts.length) : arrV ⟨ds', ts ++ [t]⟩ i = arrV ⟨ds, ts⟩ i := by
  unfold arrV Ch.lo Ch.hi
  rw [getD_l h]
theorem ArrsAt.snoc {ds ds' : List Deed} {ts : List (Int × Int)} {t : Int × Int} (h : ArrsAt H l ⟨ds, ts⟩ [] bs) (u : TupS H H1) (h1 : H1 l = some (.lst (bs ++ [.ref b]))) (hb : H1 b = some (.tup [.int (ts.length : Int), .int ((ts.length : Int) + 1), .int t.1, .int t.2])) : ArrsAt H1 l ⟨ds', ts ++ [t]⟩ [] (bs ++ [.ref b]) := ⟨h1, by rw [List.length_append, h.2.1]; exact (List.length_append (as := ts) (bs := [t])).symm, fun i hi => by
  by_cases hlt : i < ts.length
  · obtain ⟨x, hx, hxd⟩ := h.2.2 i hlt
    refine ⟨x, ?_, ?_⟩
    · rw [List.getElem?_append_left (by rw [h.2.1]; exact hlt)]
      exact hx
    · rw [arrV_ts hlt]
      exact u _ _ hxd
  · have hi' : i = ts.length := by
      have : (ts ++ [t]).length = ts.length + 1 := List.length_append
      have hi2 : i < (ts ++ [t]).length := hi
      omega
    subst hi'
    refine ⟨b, ?_, ?_⟩
    · rw [List.getElem?_append_right (by rw [h.2.1]; exact Nat.le_refl _), show bs.length = ts.length from h.2.1, Nat.sub_self] <;> rfl
    · rw [List.append_nil]
      unfold arrV Ch.lo Ch.hi
      rw [getD_r (Nat.le_refl _), Nat.sub_self]
      exact hb⟩
theorem Ch.Ok.snoc {ds : List Deed} {ts : List (Int × Int)} {t : Int × Int} (ok : (⟨ds, ts⟩ : Ch).Ok) (hl : ts.length < 7) (hd : d.makes = false) (ht : 1 ≤ t.1 ∧ t.1 ≤ t.2 ∧ t.2 ≤ 1000000000) : (⟨ds ++ [d], ts ++ [t]⟩ : Ch).Ok := by
  have hn : ds.length = ts.length + 1 := ok.len
  have e1 : (ts ++ [t]).length = ts.length + 1 := List.length_append
  have e2 : (ds ++ [d]).length = ds.length + 1 := List.length_append
  refine ⟨?_, ?_, ?_, fun i h1 h2 => ?_, fun i hi => ?_⟩
  · show (ds ++ [d]).length = (ts ++ [t]).length + 1
    omega
  · show (ts ++ [t]).length ≤ 7
    omega
  · show ((ds ++ [d]).getD 0 .read).makes = true
    rw [getD_l (by omega)]
    exact ok.first
  · show ((ds ++ [d]).getD i .read).makes = false
    have h2' : i < (ds ++ [d]).length := h2
    by_cases hlt : i < ds.length
    · rw [getD_l hlt]
      exact ok.rest i h1 hlt
    · have : i = ds.length := by omega
      subst this
      rw [getD_r (Nat.le_refl _), Nat.sub_self]
      exact hd
  · have hi' : i < (ts ++ [t]).length := hi
    show 1 ≤ ((ts ++ [t]).getD i (0, 0)).1 ∧ ((ts ++ [t]).getD i (0, 0)).1 ≤ ((ts ++ [t]).getD i (0, 0)).2 ∧ ((ts ++ [t]).getD i (0, 0)).2 ≤ 1000000000
    by_cases hlt : i < ts.length
    · rw [getD_l hlt]
      exact ok.tok i hlt
    · have : i = ts.length := by omega
      subst this
      rw [getD_r (Nat.le_refl _), Nat.sub_self]
      exact ht
end
theorem ExS.tups {s : Addr} {H H1 : Hp} (e : ExS s H H1) : TupS H H1 := fun b xs h => e.tup h
theorem TupS.upd {H H1 : Hp} {l : Addr} {xs : List V} {o : HO} (t : TupS H H1) (h : H1 l = some (.lst xs)) : TupS H (L2.upd H1 l o) := fun b ys hb => by
  have := t b ys hb
  rw [upd_ne fun z => by rw [z, h] at this; cases this]
  exact this
def sp_chain : Sp := fun vs H Q _ => ∃ s : Addr, vs = [.ref s] ∧ SrcAt H s ∧ ∀ (p n l : Addr) (c : Ch) (as bs : List V) (H' : Hp), ExS s H H' → H p = none → H n = none → H l = none → H' p = some (.lst [.ref n, .ref l]) → NodesAt H' n c.ds as → ArrsAt H' l c [] bs → c.Ok → Q (.ref p) H'
/-- the chain as far as it is drawn -/
def ChI (s n l : Addr) (H0 : Hp) (k : Nat) (σ : L2.St) (H' : Hp) : Prop := ∃ (v3 v4 v5 : Option V) (ds : List Deed) (ts : List (Int × Int)) (as bs : List V), σ = [some (.ref s), some (.ref n), some (.ref l), v3, v4, v5] ∧ ExS s H0 H' ∧ NodesAt H' n ds as ∧ ArrsAt H' l ⟨ds, ts⟩ [] bs ∧ (⟨ds, ts⟩ : Ch).Ok ∧ ts.length = k
-- slots of _law_chain: 0 source 1 nodes 2 arrows 3 k 4 least 5 most
theorem sc_law_chain : FnScope ["source", "nodes", "arrows", "k", "least", "most"] ["source"] (defScope (top 97)) := ⟨rfl, rfl, rfl, by decide +kernel, rfl, by decide +kernel, by decide +kernel⟩
theorem k_law_chain (T : Txt K mg) (c_law_maker : Cal P w K mg base 3 "_law_maker" (sp_deed true)) (c_law_draw : Cal P w K mg base 1 "_law_draw" sp_draw) (c_law_user : Cal P w K mg base 3 "_law_user" (sp_deed false)) : Cal P w K mg base 4 "_law_chain" sp_chain := by
  refine cal_of T.d_law_chain T.g_law_chain sc_law_chain (fun _ _ _ _ _ _ us hl => match us, hl with | [_], _ => rfl) (fun vs H Q E h => ?_) (fun cdv A outer s H vs Q E hr h => ?_)
  · obtain ⟨s0, rfl, hs, k⟩ := h
    rfl
  · obtain ⟨s0, rfl, hs, k⟩ := h
    have hu := hu_of hr
    refine ⟨_, (pss_cons (ps_par (i := 1) (j := 2) rfl sc_law_chain.nd rfl rfl (by decide) rfl rfl (pa_cons (pe_lst (pa_cons (pcal c_law_maker hr (pa_cons (pv 0) (pa_cons (pe_op op_pow pe_int pe_int) pa_nil))) pa_nil)) (pa_cons (pe_lst pa_nil) pa_nil)) (by rfl))
      (pss_cons (ps_for PassesOwn.never rfl (pi_range1 (by rfl) T.b_range (pa_cons (pcal c_law_draw hr (pa_cons (pv 0) (pa_cons pe_int pa_nil))) pa_nil)) (pg_name (i := 3) sc_law_chain.nd rfl (by first | exact Or.inl rfl | exact Or.inr rfl))
      (pss_cons (ps_set (i := 4) sc_law_chain.nd rfl (by first | exact Or.inl rfl | exact Or.inr rfl) (pe_op op_add pe_int (pcal c_law_draw hr (pa_cons (pv 0) (pa_cons (pe_ix (ixL K) (pe_lst (pa_cons pe_int (pa_cons (pe_op op_pow pe_int pe_int) pa_nil))) (pcal c_law_draw hr (pa_cons (pv 0) (pa_cons pe_int pa_nil))) (fun _ _ => rfl)) pa_nil)))))
      (pss_cons (ps_set (i := 5) sc_law_chain.nd rfl (by first | exact Or.inl rfl | exact Or.inr rfl) (pe_op op_add (pv 4) (pe_ix (ixL K) (pe_lst (pa_cons pe_int (pa_cons (pcal c_law_draw hr (pa_cons (pv 0) (pa_cons pe_int pa_nil))) (pa_cons (pcal c_law_draw hr (pa_cons (pv 0) (pa_cons (pe_op op_pow pe_int pe_int) pa_nil))) pa_nil)))) (pcal c_law_draw hr (pa_cons (pv 0) (pa_cons pe_int pa_nil))) (fun _ _ => rfl))))
      (pss_cons (ps_expr (pe_bm PySem.F.plainAttrs_list PySem.F.slot_list_append PySem.F.type_list_append mt_append (pv 2) (pa_cons (pe_tup (pa_cons (pv 3) (pa_cons (pe_op op_add (pv 3) pe_int) (pa_cons (pv 4) (pa_cons (pv 5) pa_nil))))) pa_nil)))
      (pss_one (ps_expr (pe_bm PySem.F.plainAttrs_list PySem.F.slot_list_append PySem.F.type_list_append mt_append (pv 1) (pa_cons (pcal c_law_user hr (pa_cons (pv 0) (pa_cons (pe_ix (ixL K) (pe_lst (pa_cons pe_int (pa_cons (pe_op op_pow pe_int pe_int) pa_nil))) (pcal c_law_draw hr (pa_cons (pv 0) (pa_cons pe_int pa_nil))) (fun _ _ => rfl)) pa_nil))) pa_nil))))))))
      (pss_one (ps_ret (pe_lst (pa_cons (pv 1) (pa_cons (pv 2) pa_nil))))))), ?_⟩
    refine par_raw (c_raw (rs_lst (n := 1) (deed_mono s0 true) (esa_cons (deed_mono s0 true) (es_deed rfl (es_pow (k := 9) (by decide) (by decide : (10 : Int) ^ (9 : Int).toNat = 1000000000) fun _ => ⟨1000000000, rfl, by decide, by decide⟩)) esa_nil) (by decide) hs fun n xs H1 hn e1 h1 hall => ⟨(by show 0 ≤ sizeLine; decide), fun l hl => ⟨_, _, rfl, ?_⟩⟩))
    obtain ⟨hx1, hx2⟩ := hall
    obtain ⟨x0, rfl⟩ : ∃ x0, xs = [x0] := by
      match xs, hx1 with
      | [x], _ => exact ⟨x, rfl⟩
    obtain ⟨a0, d0, rfl, hd0, hmk⟩ := hx2 x0 List.mem_cons_self
    have hl0 := e1.back hl
    have e2 := e1.mut (o := .lst []) hl0
    have hnl : n ≠ l := ne_of_none h1 hl
    have hns : n ≠ s0 := fun z => by
      obtain ⟨_, _, q, _⟩ := hs
      rw [z, q] at hn
      cases hn
    have hls : l ≠ s0 := fun z => by
      obtain ⟨_, _, q, _⟩ := hs
      rw [z, q] at hl0
      cases hl0
    refine q_forRS (N := 8) (ChI s0 n l H) (es_draw (N := 8) rfl (es_c fun _ => ⟨8, rfl, by decide, by decide⟩) (by decide)) e2.src' (by decide) fun m H2 hm0 hm1 x2 => ⟨?_, ?_, ?_⟩
    · have e02 := e2.trans x2
      have hn2 : NodesAt H2 n [d0] [.ref a0] := by
        have hb : NodesAt (upd H1 l (.lst [])) n [d0] [.ref a0] := ⟨by rw [upd_ne hnl]; exact h1, rfl, fun i hi => by
          have hi0 : i = 0 := by
            have : [d0].length = 1 := rfl
            omega
          subst hi0
          refine ⟨a0, rfl, ?_, hd0.2⟩
          rw [upd_ne (ne_of_none hd0.1 hl)]
          exact hd0.1⟩
        exact hb.stay x2.tups (x2.keep hb.1 hns)
      refine ⟨none, none, none, [d0], [], [.ref a0], [], rfl, e02, hn2, ⟨x2.keep upd_same hls, rfl, fun i hi => absurd hi (Nat.not_lt_zero _)⟩, ⟨rfl, (by show 0 ≤ 7; decide), hmk, fun i h1 h2 => ?_, fun i hi => absurd hi (Nat.not_lt_zero _)⟩, rfl⟩
      have h2' : i < 1 := h2
      omega
    · rintro i σ H3 hi ⟨v3, v4, v5, ds, ts, as, bs, rfl, x3, hN, hA, hok, hk⟩
      refine q_asgS (P := Rg 1 100000001) (es_add (a := 1) (lo := 0) (hi := 100000000) (fun _ => ev_c) (es_draw (N := 100000000) rfl (es_ixN (n := 2) (rg_mono s0 1 100000001) (esa_cons (rg_mono s0 1 100000001) (es_c fun _ => ⟨9, rfl, by decide, by decide⟩) (esa_cons (rg_mono s0 1 100000001) (es_pow (k := 8) (by decide) (by decide : (10 : Int) ^ (8 : Int).toNat = 100000000) fun _ => ⟨100000000, rfl, by decide, by decide⟩) esa_nil)) (by decide) (es_draw (N := 2) rfl (es_c fun _ => ⟨2, rfl, by decide, by decide⟩) (by decide))) (by decide))) x3.src' fun v H4 x4 hv => ?_
      obtain ⟨lo, rfl, hlo1, hlo2⟩ := hv
      have x34 := x3.trans x4
      refine q_asgS (P := Rg (lo + 0) (lo + 100000000)) (es_add (a := lo) (lo := 0) (hi := 100000000) (fun _ => ev_var rfl) (es_ixN (n := 3) (rg_mono s0 0 100000000) (esa_cons (rg_mono s0 0 100000000) (es_c fun _ => ⟨0, rfl, by decide, by decide⟩) (esa_cons (rg_mono s0 0 100000000) (EvS.imp (es_draw (N := 9) rfl (es_c fun _ => ⟨9, rfl, by decide, by decide⟩) (by decide)) fun _ _ ⟨x, h1, h2, h3⟩ => ⟨x, h1, h2, by omega⟩) (esa_cons (rg_mono s0 0 100000000) (es_draw (N := 100000000) rfl (es_pow (k := 8) (by decide) (by decide : (10 : Int) ^ (8 : Int).toNat = 100000000) fun _ => ⟨100000000, rfl, by decide, by decide⟩) (by decide)) esa_nil))) (by decide) (es_draw (N := 3) rfl (es_c fun _ => ⟨3, rfl, by decide, by decide⟩) (by decide)))) x34.src' fun v H5 x5 hv => ?_
      obtain ⟨hi', rfl, hhi1, hhi2⟩ := hv
      have x35 := x4.trans x5
      have hN5 := hN.stay x35.tups (x35.keep hN.1 hns)
      have hA5 := hA.stay x35.tups (x35.keep hA.1 hls)
      have hlen : bs.length = ts.length := hA5.2.1
      have halen : as.length = ds.length := hN5.2.1
      have hdl : ds.length = ts.length + 1 := hok.len
      refine q_appU (K := K) (xs := bs) (ys := [.int (i : Int), .int ((i : Int) + 1), .int lo, .int hi']) hA5.1 (ev_var rfl) (eu_tup (ea_cons (ev_var rfl) (ea_cons (ev_op (ev_var rfl) ev_c rv_I0) (ea_cons (ev_var rfl) (ea_cons (ev_var rfl) ea_nil)))) (by show 4 ≤ 100000; decide)) (by omega) fun b H6 hb e6 h6 => ?_
      have x36 : ExS s0 H (upd H6 l (.lst (bs ++ [.ref b]))) := ((x3.trans x35).trans (.of (x3.trans x35).src' e6)).mut hl0
      have hbl : b ≠ l := fun z => by rw [z, hA5.1] at hb; cases hb
      have t6 : TupS H5 (upd H6 l (.lst (bs ++ [.ref b]))) := TupS.upd (fun b ys q => e6 _ _ q) (e6 _ _ hA5.1)
      have hA6 := hA5.snoc (ds' := ds) (t := (lo, hi')) (b := b) t6 upd_same (by rw [upd_ne hbl, hk]; exact h6)
      have hN6 := hN5.stay t6 (by rw [upd_ne hnl]; exact e6 _ _ hN5.1)
      refine s_appS (xs := as) (l := n) (P := DeedP false) hN6.1 rfl (es_deed rfl (es_ixN (n := 2) (rg_mono s0 1 1000000001) (esa_cons (rg_mono s0 1 1000000001) (es_c fun _ => ⟨9, rfl, by decide, by decide⟩) (esa_cons (rg_mono s0 1 1000000001) (es_pow (k := 9) (by decide) (by decide : (10 : Int) ^ (9 : Int).toNat = 1000000000) fun _ => ⟨1000000000, rfl, by decide, by decide⟩) esa_nil)) (by decide) (es_draw (N := 2) rfl (es_c fun _ => ⟨2, rfl, by decide, by decide⟩) (by decide)))) x36.src' hns (by omega) fun v H7 x7 hv => ?_
      obtain ⟨a, d, rfl, hd, hdm⟩ := hv
      have x37 := x36.trans x7
      have hn7 := x7.keep hN6.1 hns
      have t7 : TupS (upd H6 l (.lst (bs ++ [.ref b]))) (upd H7 n (.lst (as ++ [.ref a]))) := TupS.upd x7.tups hn7
      have hdd : DeedAt (upd H7 n (.lst (as ++ [.ref a]))) a d := ⟨by rw [upd_ne fun z => by have := hd.1; rw [z, hn7] at this; cases this]; exact hd.1, hd.2⟩
      have hN7 := hN6.snoc t7 upd_same hdd
      have hA7 : ArrsAt (upd H7 n (.lst (as ++ [.ref a]))) l ⟨ds ++ [d], ts ++ [(lo, hi')]⟩ [] (bs ++ [.ref b]) := hA6.stay t7 (by rw [upd_ne (fun z => hnl z.symm)]; exact x7.keep upd_same hls)
      refine ⟨_, _, _, ds ++ [d], ts ++ [(lo, hi')], _, _, rfl, x37.mut hn, hN7, hA7, hok.snoc (by omega) hdm ⟨by omega, by omega, by omega⟩, ?_⟩
      rw [List.length_append, hk] <;> rfl
    · rintro σ H3 ⟨v3, v4, v5, ds, ts, as, bs, rfl, x3, hN, hA, hok, hk⟩
      refine s_retL (el_lst (ea_cons (ev_var rfl) (ea_cons (ev_var rfl) ea_nil)) (by show 2 ≤ 100000; decide)) fun p H4 hp e4 h4 => ?_
      exact k p n l ⟨ds, ts⟩ as bs H4 (x3.trans (.of x3.src' e4)) (x3.back hp) hn hl0 h4 (hN.mono e4) (hA.mono e4) hok
end
end K57
-- part D15
/-! The law: its ages. -/
namespace K57
open PySem PySem.Spec PyProof.Rows L2 He Evl
local macro_rules | `(tactic| walk_at "hp") => `(tactic| first | assumption | exact SqT.of (by assumption) | exact SqL.of (by assumption) | exact Txt.t_PLAIN (by assumption) _ | exact Txt.t_MARKS (by assumption) _ | exact Txt.t_WORDS (by assumption) _ | exact Txt.t_PARTS (by assumption) _)
local macro_rules | `(tactic| walk_at "kit") => `(tactic| first | exact kit_ii | exact kit_ib | exact kit_bb | exact kit_tt | exact kit_ss | exact kit_ll)
local macro_rules | `(tactic| walk_at "ty") => `(tactic| first | exact ty_int _ | exact ty_bl _ | exact ty_str _ | exact ty_tup (by assumption) | exact ty_lst (by assumption))
local macro_rules | `(tactic| walk_at "rv") => `(tactic| first | exact rv_I0 | exact rv_I (by decide) | exact rv_I (by assumption) | exact rv_eq rfl | exact rv_ne rfl | exact rv_isN | exact rv_notN | exact rv_ixT (by walk_at "hp") rfl | exact rv_ixL (by walk_at "hp") rfl | exact rv_ixT (by walk_at "hp") (by assumption) | exact rv_ixL (by walk_at "hp") (by assumption) | exact rv_isT (by walk_at "hp") rfl rfl)
local macro_rules | `(tactic| walk_at "ea") => `(tactic| first | exact ea_nil | (refine' ea_cons ?a ?b; (case a => walk_at "ev"); (case b => walk_at "ea")))
local macro_rules | `(tactic| walk_at "eu") => `(tactic| (refine' eu_tup ?a ?b; (case a => walk_at "ea"); (case b => (show List.length _ ≤ 100000; simp only [List.length_cons, List.length_nil]; decide))))
local macro_rules | `(tactic| walk_at "ev") => `(tactic| first
  | exact ev_var rfl
  | exact ev_c
  | (refine' ev_andV ?a (fun _ => ?b); (case a => walk_at "ev"); (case b => walk_at "ev"))
  | (refine' ev_orV ?a (fun _ => ?b); (case a => walk_at "ev"); (case b => walk_at "ev"))
  | (refine' ev_notV ?a; (case a => walk_at "ev"))
  | (refine' ev_chain ?a ?b ?c ?d ?e; (case a => walk_at "ev"); (case b => walk_at "ev"); (case c => walk_at "rv"); (case d => walk_at "ev"); (case e => walk_at "rv"))
  | (refine' ev_isi ?a ?c ?t ?e; (case a => walk_at "ea"); (case c => first | exact ClsV.ty _ | exact ClsV.own _); (case t => walk_at "ty"); (case e => walk_at "kit"))
  | (refine' ev_call ?a ?s; (case a => walk_at "ea"); (case s => walk_at "sv"))
  | (refine' ev_inU ?a ?b ?c ?d; (case a => walk_at "ev"); (case b => walk_at "eu"); (case c => rfl); (case d => rfl))
  | (refine' ev_niU ?a ?b ?c ?d; (case a => walk_at "ev"); (case b => walk_at "eu"); (case c => rfl); (case d => rfl))
  | (refine' ev_op ?a ?b ?r; (case a => walk_at "ev"); (case b => walk_at "ev"); (case r => walk_at "rv"))
  | (refine' ev_un ?a ru_neg; (case a => walk_at "ev"))
  | (refine' ev_len2 ?a ?b; (case a => walk_at "ev"); (case b => first | exact Or.inl (by walk_at "hp") | exact Or.inr (by walk_at "hp")))
  | (refine' ev_int1 ?a; (case a => walk_at "ev"))
  | (refine' ev_intB ?a; (case a => walk_at "ev")))
local macro_rules | `(tactic| walk_at "evr") => `(tactic| (refine' ev_is ?h ?e; (case h => walk_at "ev"); (case e => first | kernel_rfl | rfl)))
local macro_rules | `(tactic| walk_at "et") => `(tactic| first
  | (refine' et_and ?a (fun _ => ?b); (case a => walk_at "et"); (case b => walk_at "et"))
  | (refine' et_or ?a (fun _ => ?b); (case a => walk_at "et"); (case b => walk_at "et"))
  | (refine' et_not ?a; (case a => walk_at "et"))
  | (refine' et_test ?a; (case a => walk_at "ev"))
  | (refine' et_B ?a; (case a => walk_at "ev")))
local macro_rules | `(tactic| walk_at "etr") => `(tactic| (refine' et_is ?h ?e; (case h => walk_at "et"); (case e => first | kernel_rfl | rfl)))
local macro_rules | `(tactic| walk_at "eps") => `(tactic| first | exact EvPs.nil | (refine' EvPs.cons (k := Sum.inr _) ?a ?b ?c; (case a => walk_at "ev"); (case b => walk_at "ev"); (case c => walk_at "eps")))
local macro_rules | `(tactic| walk_at "en") => `(tactic| first | exact en_dnew | (refine' en_disp ?a ?b ?c; (case a => walk_at "eps"); (case b => (show List.length _ ≤ 15; simp only [List.length_cons, List.length_nil]; decide)); (case c => rfl)))
local macro_rules | `(tactic| walk_at "sv") => `(tactic| exact sv_is_whole)
local macro_rules | `(tactic| walk_at "sv") => `(tactic| exact sv_is_between)
local macro_rules | `(tactic| walk_at "sv") => `(tactic| exact sv_is_listed (by assumption))
local macro_rules | `(tactic| walk_at "sv") => `(tactic| exact sv_is_part_of (by walk_at "hp") rfl)
local macro_rules | `(tactic| walk_at "sv") => `(tactic| exact sv_is_time)
local macro_rules | `(tactic| walk_at "sv") => `(tactic| exact sv_is_deed (by assumption))
local macro_rules | `(tactic| walk_at "sv") => `(tactic| exact sv_makes (by assumption))
local macro_rules | `(tactic| walk_at "sv") => `(tactic| exact sv_is_looks (by assumption) (by assumption))
local macro_rules | `(tactic| walk_at "sv") => `(tactic| exact sv_check_rule (by assumption))
local macro_rules | `(tactic| walk_at "sv") => `(tactic| exact sv_is_more)
local macro_rules | `(tactic| walk_at "sv") => `(tactic| exact sv_is_between_t (by omega))
local macro_rules | `(tactic| walk_at "sv") => `(tactic| exact sv_is_between_t (by assumption))
local macro_rules | `(tactic| walk_at "sv") => `(tactic| exact sv_is_time_t (by omega))
local macro_rules | `(tactic| walk_at "sv") => `(tactic| exact sv_is_time_t (by assumption))
local macro_rules | `(tactic| walk_at "sv") => `(tactic| exact sv_check_way (by assumption))
local macro_rules | `(tactic| walk_at "sv") => `(tactic| exact sv_check_node (by assumption) (by assumption))
local macro_rules | `(tactic| walk_at "sv") => `(tactic| exact sv_rule_word (by assumption))
section
variable {P : Program} {w : World} {K : PySem.W.Frag} {mg : Str → Option Value} {base : Heap} {H : Hp}
local macro_rules | `(tactic| walk_at "ev") => `(tactic| assumption)
def PrAt (H : Hp) (t : Addr) (c : Ch) (al : Bool) (m : Str) (i : Nat) : Prop := H t = some (.tup [.int (c.S al m c.lo i), .int (c.S al m c.hi i)])
def dueK (t0 t1 t2 : Addr) : List (Key × V) := [(Sum.inr "read", .ref t0), (Sum.inr "written", .ref t1), (Sum.inr "changed", .ref t2)]
def DueAt (H : Hp) (d : Addr) (c : Ch) (al : Bool) (i : Nat) : Prop := ∃ t0 t1 t2, H d = some (.dK (dueK t0 t1 t2)) ∧ PrAt H t0 c al "read" i ∧ PrAt H t1 c al "written" i ∧ PrAt H t2 c al "changed" i
theorem DueAt.mond {H H1 : Hp} {d : Addr} {c : Ch} {al : Bool} {i : Nat} (e : ExD H H1) (h : DueAt H d c al i) : DueAt H1 d c al i := by
  obtain ⟨t0, t1, t2, h1, h2, h3, h4⟩ := h
  exact ⟨t0, t1, t2, e.dk h1, e.tup h2, e.tup h3, e.tup h4⟩
theorem DueAt.mono {H H1 : Hp} {d : Addr} {c : Ch} {al : Bool} {i : Nat} (e : Ex H H1) (h : DueAt H d c al i) : DueAt H1 d c al i := h.mond (.of e)
theorem DueAt.get {H : Hp} {d : Addr} {c : Ch} {al : Bool} {i : Nat} {m : Str} (h : DueAt H d c al i) (hm : m ∈ mks) : ∃ kvs t, H d = some (.dK kvs) ∧ valV kvs (Sum.inr m) = some (.ref t) ∧ PrAt H t c al m i := by
  obtain ⟨t0, t1, t2, h1, h2, h3, h4⟩ := h
  have hm' : m = "read" ∨ m = "written" ∨ m = "changed" := by
    simpa [mks] using hm
  rcases hm' with rfl | rfl | rfl
  · exact ⟨_, t0, h1, rfl, h2⟩
  · exact ⟨_, t1, h1, rfl, h3⟩
  · exact ⟨_, t2, h1, rfl, h4⟩
theorem rawG {te : TE} {g : TG} {tz : TS} {D : Ends} {σ : L2.St} {H : Hp} (h : te σ H fun v H1 => g v σ H1 fun σ' H' => tz D σ' H') : tSeq (tAsg te g) tz D σ H := h
def sp_law_ages : Sp := SpPost fun vs H P => ∃ (n l : Addr) (al : Bool) (c : Ch) (as bs : List V), vs = [.ref n, .ref l, .bl al] ∧ NodesAt H n c.ds as ∧ ArrsAt H l c [] bs ∧ c.Ok ∧ P = fun v H' => ∃ p zs, v = .ref p ∧ H' p = some (.lst zs) ∧ zs.length = c.n ∧ ∀ i, i < c.n → ∃ d, zs[i]? = some (.ref d) ∧ DueAt H' d c al i
theorem spp_law_ages {n l : Addr} {al : Bool} {c : Ch} {as bs : List V} (h : NodesAt H n c.ds as) (ha : ArrsAt H l c [] bs) (ok : c.Ok) : SpP sp_law_ages [.ref n, .ref l, .bl al] H (fun v H' => ∃ p zs, v = .ref p ∧ H' p = some (.lst zs) ∧ zs.length = c.n ∧ ∀ i, i < c.n → ∃ d, zs[i]? = some (.ref d) ∧ DueAt H' d c al i) := sp_of fun _ e => ⟨n, l, al, c, as, bs, rfl, h.mono e, ha.mono e, ok, rfl⟩
theorem ep_items {σ : L2.St} {te : TE} {kvs : List (Key × V)} (h : EvN te σ H (.dK kvs)) : EvP (LiI.tListItems te) σ H (fun v H' => ∃ p ts, v = .ref p ∧ H' p = some (.lst (ts.map V.ref)) ∧ Paired (fun (t : Addr) (q : Key × V) => H' t = some (.tup [kV q.1, q.2])) ts kvs) := fun H1 e Q q => h H1 e _ fun d H2 hd e2 h2 => ⟨d, kvs, rfl, h2, fun H3 p ts e3 _ _ _ hp hP => q _ H3 (e2.trans e3) ⟨p, ts, rfl, hp, hP⟩⟩
/-- what the comprehension over the pairs has made -/
abbrev PwR (l : List (Str × Int)) : Nat → V → Hp → Prop := fun k v H => ∃ x t, v = .ref x ∧ H x = some (.tup [.str (l.getD k ("", 0)).1, .ref t]) ∧ H t = some (.tup [.int (l.getD k ("", 0)).2, .int (l.getD k ("", 0)).2])
theorem pw_keeps (l : List (Str × Int)) : Keeps (PwR l) := fun i v H H1 e ⟨x, t, hv, h1, h2⟩ => ⟨x, t, hv, e _ _ h1, e _ _ h2⟩
theorem paired_at {α β : Type} {F : α → β → Prop} : ∀ {xs : List α} {ys : List β}, Paired F xs ys → ∀ {i : Nat} {x : α}, xs[i]? = some x → ∃ y, ys[i]? = some y ∧ F x y
  | _, _, .nil, i, x, h => by cases h
  | _, _, .cons r t, 0, x, h => by
    cases h
    exact ⟨_, rfl, r⟩
  | _, _, .cons r t, i + 1, x, h => paired_at t h
theorem ep_pairs {te : TE} {l : List (Str × Int)} {σ : L2.St} (hl : l.length ≤ 100) (hw : ∀ x y, wipe (((wipe σ [4, 5]).set 4 (some x)).set 5 (some y)) [4, 5] = wipe σ [4, 5]) (h4 : ∀ x y, (((wipe σ [4, 5]).set 4 (some x)).set 5 (some y))[4]? = some (some x)) (h5 : ∀ x y, (((wipe σ [4, 5]).set 4 (some x)).set 5 (some y))[5]? = some (some y)) (h : EvN te σ H (.dK (kvI l))) :
    EvP (tLc (iList K (LiI.tListItems te)) (gTup K 2 (gCons (gName 4) (gCons (gName 5) gNil))) tYes (tTup (tCons (tVar 4) (tCons (tTup (tCons (tVar 5) (tCons (tVar 5) tNil))) tNil))) [4, 5]) σ H (fun v H' => ∃ p zs, v = .ref p ∧ H' p = some (.lst zs) ∧ zs.length = l.length ∧ ∀ k z, zs[k]? = some z → PwR l k z H') := fun H0 e Q q =>
  ep_items h H0 e _ fun v H1 e1 ⟨p, ts, hv, hp, hP⟩ => ⟨p, hv, ⟨ts.map V.ref, SqL.of hp⟩, fun Dl hD => by
    have htl : (ts.map V.ref).length = l.length := by
      rw [List.length_map, Paired.length hP, kvI, List.length_map]
    refine lc_list (xs := ts.map V.ref) (Made (PwR l) H1 Dl) ⟨hD, Ex.new hD, [], upd_same, rfl, fun k z hk => by cases hk⟩ (fun i H' _ p2 => SqL.of (p2.ex _ _ hp)) (fun i x H' hi p2 => ?_) fun H' p2 => ?_
    · have hi' : i < ts.length := by
        rw [← List.length_map V.ref]
        exact (List.getElem?_eq_some_iff.mp hi).1
      rw [List.getElem?_map, List.getElem?_eq_getElem hi'] at hi
      cases hi
      obtain ⟨kv, hkv, ht⟩ := paired_at hP (List.getElem?_eq_getElem hi')
      have hil : i < l.length := by
        rw [← htl, List.length_map]
        exact hi'
      rw [kvI, List.getElem?_map, List.getElem?_eq_getElem hil] at hkv
      cases hkv
      refine ⟨_, _, rfl, SqT.of (p2.ex _ _ ht), rfl, _, _, rfl, _, _, rfl, rfl, hw _ _, ?_⟩
      refine made_turn (pw_keeps l) p2 (by omega) fun zs hz H2 e2 Q2 q2 => ?_
      refine ⟨_, h4 _ _, _, h5 _ _, _, h5 _ _, (by show 2 ≤ sizeLine; decide), fun t ht => ⟨(by show 2 ≤ sizeLine; decide), fun x hx => q2 _ _ ((Ex.new ht).trans (Ex.new hx)) ⟨x, t, rfl, ?_, ?_⟩⟩⟩
      · have hxD : x ≠ Dl := fun z => by
          have := (Ex.new (o := .tup [.int l[i].2, .int l[i].2]) ht) _ _ (e2 _ _ hz)
          rw [z, this] at hx
          cases hx
        rw [off_ne hxD, upd_same, getD_at hil] <;> rfl
      · have htD : t ≠ Dl := fun z => by
          rw [z, e2 _ _ hz] at ht
          cases ht
        have htx : t ≠ x := fun z => by
          rw [← z, upd_same] at hx
          cases hx
        rw [off_ne htD, upd_ne htx, upd_same, getD_at hil]
    · obtain ⟨p1, p3, zs, z1, z2, z3⟩ := p2
      refine q _ H' (e1.trans p3) ⟨Dl, zs, rfl, z1, by rw [z2, htl], fun k z hk => ?_⟩
      obtain ⟨x, t, hx, h1, h2⟩ := z3 k z hk
      exact ⟨x, t, hx, off_ex _ _ h1, off_ex _ _ h2⟩⟩
theorem bk_maker {d : Deed} (h : d.makes = true) : ∃ b, bk d = ([("read", 0), ("written", b), ("changed", 0)] : List (Str × Int)) ∧ ∀ al, sl al d = bk d := by
  cases d with
  | make => exact ⟨0, rfl, fun _ => rfl⟩
  | unpack b => exact ⟨b, rfl, fun _ => rfl⟩
  | read => exact absurd h (by decide)
  | write => exact absurd h (by decide)
  | rename => exact absurd h (by decide)
  | touch => exact absurd h (by decide)
  | setback b => exact absurd (show false = true from h) (by decide)
theorem merge3 {t0 t1 t2 : Addr} : mergeK [] (dueK t0 t1 t2) = dueK t0 t1 t2 := by kernel_rfl
theorem ep_due0 {σ : L2.St} {te : TE} {c : Ch} {al : Bool} (ok : c.Ok) (h : EvP te σ H (fun v H' => ∃ p zs, v = .ref p ∧ H' p = some (.lst zs) ∧ zs.length = (bk (c.d 0)).length ∧ ∀ k z, zs[k]? = some z → PwR (bk (c.d 0)) k z H')) :
    EvP (tCB (fun xs H Q => ∃ (a : Addr) (ps : List Addr) (kvs : List (Key × V)), xs = [.ref a] ∧ SqL K H a (ps.map V.ref) ∧ Paired (fun p kv => SqT K H p [kV kv.1, kv.2]) ps kvs ∧ ∀ p, H p = none → Q (.ref p) (upd H p (.dK (mergeK [] kvs)))) (tCons te tNil)) σ H (fun v H' => ∃ d, v = .ref d ∧ DueAt H' d c al 0) := fun H1 e Q q => h H1 e _ fun v H2 e2 ⟨p, zs, hv, hp, hz, hR⟩ => by
  subst hv
  obtain ⟨b, hb, hsl⟩ := bk_maker ok.first
  rw [hb] at hz hR
  obtain ⟨z0, z1, z2, rfl⟩ : ∃ z0 z1 z2, zs = [z0, z1, z2] := by
    match zs, hz with
    | [a, b, d], _ => exact ⟨a, b, d, rfl⟩
  obtain ⟨x0, t0, rfl, a0, b0⟩ := hR 0 _ rfl
  obtain ⟨x1, t1, rfl, a1, b1⟩ := hR 1 _ rfl
  obtain ⟨x2, t2, rfl, a2, b2⟩ := hR 2 _ rfl
  have hS : ∀ (m : Str) (w : Nat → Int) (v : Int), List.lookup m ([("read", 0), ("written", b), ("changed", 0)] : List (Str × Int)) = some v → c.S al m w 0 = v := fun m w v h => S_some (by unfold Ch.b; rw [hsl al, hb, h])
  refine ⟨p, [x0, x1, x2], dueK t0 t1 t2, rfl, SqL.of hp, .cons (SqT.of a0) (.cons (SqT.of a1) (.cons (SqT.of a2) .nil)), fun d hd => q _ _ (e2.trans (Ex.new hd)) ⟨d, rfl, t0, t1, t2, by rw [upd_same, merge3], ?_, ?_, ?_⟩⟩
  · unfold PrAt
    rw [hS "read" _ 0 rfl, hS "read" _ 0 rfl]
    exact (Ex.new hd) _ _ b0
  · unfold PrAt
    rw [hS "written" _ b rfl, hS "written" _ b rfl]
    exact (Ex.new hd) _ _ b1
  · unfold PrAt
    rw [hS "changed" _ 0 rfl, hS "changed" _ 0 rfl]
    exact (Ex.new hd) _ _ b2
theorem DueAt.updL {H : Hp} {d f : Addr} {c : Ch} {al : Bool} {i : Nat} {zs : List V} {u : HO} (h : DueAt H d c al i) (hf : H f = some (.lst zs)) : DueAt (upd H f u) d c al i := by
  obtain ⟨t0, t1, t2, h1, h2, h3, h4⟩ := h
  have k : ∀ (a : Addr) m, PrAt H a c al m i → PrAt (upd H f u) a c al m i := fun a m h => by
    unfold PrAt at h ⊢
    rw [upd_ne fun z => by rw [z, hf] at h; cases h]
    exact h
  exact ⟨t0, t1, t2, by rw [upd_ne fun z => by rw [z, hf] at h1; cases h1]; exact h1, k _ _ h2, k _ _ h3, k _ _ h4⟩
theorem bk_len (d : Deed) : (bk d).length ≤ 100 := by
  cases d <;> exact Nat.le_of_ble_eq_true rfl
theorem pgT {X : Cx} (K : PySem.W.Frag) {es : List Expr} {k : Nat} {t : TGs} {n : Nat} {pos : Pos} (hc : X.calm = true) (h : PGs X es t) (hn : (assignEach es X.env).length = n := by rfl) (hst : (assignEach es X.env).findIdx? (·.1) = none := by rfl) (hK : X.K = K := by rfl) : PG X (.Tuple es k pos) (gTup K n t) := hK ▸ pg_tup hc h hn hst
theorem eqv_read (d : Deed) : PyData.eqv (.tuple (d.vs.map dat)) (.tuple ([V.str "read"].map dat)) = decide (d = .read) := by
  cases d <;> kernel_rfl
theorem eu_if {σ : L2.St} {t : TT} {ta tb : TE} {b : Bool} {xs : List V} (h : EvT t σ H b) (h1 : b = true → EvU ta σ H xs) (h2 : b = false → EvU tb σ H xs) : EvU (tIf t ta tb) σ H xs := fun H1 e Q q => h H1 e _ fun H2 e2 => by
  cases b with
  | true =>
    show ta σ H2 Q
    exact h1 rfl H2 (e.trans e2) Q fun p H3 hp e3 h3 => q p H3 (fresh_back e2 hp) (e2.trans e3) h3
  | false =>
    show tb σ H2 Q
    exact h2 rfl H2 (e.trans e2) Q fun p H3 hp e3 h3 => q p H3 (fresh_back e2 hp) (e2.trans e3) h3
/-- the new dict so far -/
def LatK (H : Hp) (d : Addr) (c : Ch) (al : Bool) (i : Nat) : Nat → Prop
  | 0 => H d = some (.dK [])
  | 1 => ∃ t0, H d = some (.dK [(Sum.inr "read", .ref t0)]) ∧ PrAt H t0 c al "read" i
  | 2 => ∃ t0 t1, H d = some (.dK [(Sum.inr "read", .ref t0), (Sum.inr "written", .ref t1)]) ∧ PrAt H t0 c al "read" i ∧ PrAt H t1 c al "written" i
  | _ => DueAt H d c al i
theorem LatK.dk {H : Hp} {d : Addr} {c : Ch} {al : Bool} {i j : Nat} (h : LatK H d c al i j) : ∃ kvs, H d = some (.dK kvs) ∧ kvs.length ≤ 3 := by
  match j, h with
  | 0, h => exact ⟨_, h, Nat.zero_le _⟩
  | 1, ⟨t0, h, _⟩ => exact ⟨_, h, by show 1 ≤ 3; decide⟩
  | 2, ⟨t0, t1, h, _⟩ => exact ⟨_, h, by show 2 ≤ 3; decide⟩
  | _ + 3, ⟨t0, t1, t2, h, _⟩ => exact ⟨_, h, by show 3 ≤ 3; decide⟩
theorem LatK.put {H H1 : Hp} {d t : Addr} {c : Ch} {al : Bool} {i j : Nat} {m : Str} {kvs : List (Key × V)} (hm : [V.str "read", V.str "written", V.str "changed"][j]? = some (.str m)) (h : LatK H d c al i j) (hd : H d = some (.dK kvs)) (e : Ex H H1) (ht : H1 t = some (.tup [.int (c.S al m c.lo i), .int (c.S al m c.hi i)])) : LatK (upd H1 d (.dK (putK kvs (Sum.inr m) (.ref t)))) d c al i (j + 1) := by
  have hj : j < 3 := (List.getElem?_eq_some_iff.mp hm).1
  have hne : ∀ (a : Addr) xs, H1 a = some (.tup xs) → a ≠ d := fun a xs ha z => by
    rw [z, e _ _ hd] at ha
    cases ha
  have keep : ∀ (a : Addr) (m : Str) (u : HO), PrAt H1 a c al m i → PrAt (upd H1 d u) a c al m i := fun a m u h => by
    unfold PrAt at h ⊢
    rw [upd_ne (hne _ _ h)]
    exact h
  match j, hj, hm, h with
  | 0, _, hm, h =>
    cases hm
    have h : H d = some (.dK []) := h
    rw [h] at hd
    cases hd
    exact ⟨t, upd_same, keep _ _ _ ht⟩
  | 1, _, hm, ⟨t0, h, h0⟩ =>
    cases hm
    rw [h] at hd
    cases hd
    exact ⟨t0, t, by rw [upd_same]; kernel_rfl, keep _ _ _ (e _ _ h0), keep _ _ _ ht⟩
  | 2, _, hm, ⟨t0, t1, h, h0, h1⟩ =>
    cases hm
    rw [h] at hd
    cases hd
    exact ⟨t0, t1, t, by rw [upd_same]; kernel_rfl, keep _ _ _ (e _ _ h0), keep _ _ _ (e _ _ h1), keep _ _ _ ht⟩
def LaI (n l f : Addr) (c : Ch) (al : Bool) (H0 : Hp) (k : Nat) (σ : L2.St) (H' : Hp) : Prop := ∃ (ag : Addr) (zs : List V) (v4 v5 v7 v8 v9 v10 v11 v12 v13 v14 : Option V), σ = [some (.ref n), some (.ref l), some (.bl al), some (.ref ag), v4, v5, some (.ref f), v7, v8, v9, v10, v11, v12, v13, v14] ∧ Ex H0 H' ∧ DueAt H' ag c al k ∧ H' f = some (.lst zs) ∧ zs.length = k + 1 ∧ ∀ i, i < k + 1 → ∃ d, zs[i]? = some (.ref d) ∧ DueAt H' d c al i
/-- the loop over the marks -/
def MaI (n l f ag bd la b p : Addr) (c : Ch) (al : Bool) (k : Nat) (H1 : Hp) (j : Nat) (σ : L2.St) (H' : Hp) : Prop := ∃ (v4 v13 v14 : Option V), σ = [some (.ref n), some (.ref l), some (.bl al), some (.ref ag), v4, some (.ref bd), some (.ref f), some (.int (k : Int)), some (.int (k : Int)), some (.int ((k : Int) + 1)), some (.int (c.lo k)), some (.int (c.hi k)), some (.ref la), v13, v14] ∧ Ex H1 H' ∧ H' p = some (.lst [.str "read", .str "written", .str "changed"]) ∧ H' bd = some (.dK (kvI (sl al (c.d (k + 1))))) ∧ LatK H' la c al (k + 1) j
-- slots of _law_ages: 0 nodes 1 arrows 2 always 3 ages 4 mark 5 back 6 found 7 k 8 start 9 goal 10 least 11 most 12 later 13 low 14 high
theorem sc_law_ages : FnScope ["nodes", "arrows", "always", "ages", "mark", "back", "found", "k", "start", "goal", "least", "most", "later", "low", "high"] ["nodes", "arrows", "always"] (defScope (top 98)) := ⟨rfl, rfl, rfl, by decide +kernel, rfl, by decide +kernel, by decide +kernel⟩
theorem k_law_ages (T : Txt K mg) (c_law_backs : Cal P w K mg base 1 "_law_backs" sp_lbacks) : Cal P w K mg base 2 "_law_ages" sp_law_ages := by
  refine cal_of T.d_law_ages T.g_law_ages sc_law_ages (fun _ _ _ _ _ _ us hl => match us, hl with | [_, _, _], _ => rfl) (fun vs H Q E h => ?_) (fun cdv A outer s H vs Q E hr h => ?_)
  · obtain ⟨P0, ⟨n, l, al, c, as, bs, rfl, h, ha, ok, rfl⟩, k⟩ := h
    rfl
  · obtain ⟨P0, ⟨n, l, al, c, as, bs, rfl, h, ha, ok, rfl⟩, k⟩ := h
    have hu := hu_of hr
    refine ⟨_, (pss_cons (ps_set (i := 3) sc_law_ages.nd rfl (by first | exact Or.inl rfl | exact Or.inr rfl) (pe_callTy (call_dictP rfl) (by rfl) T.b_dict boot_dict (pa_cons (pe_lc rfl sc_law_ages.nd (piL K (LiI.pe_listItems rfl (pcal c_law_backs hr (pa_cons (pe_ix (ixL K) (pv 0) pe_int (fun _ _ => rfl)) pa_nil)) (by rfl) T.b_list boot_list)) (blkOk_by (own := [("mark", 4), ("back", 5)]) (N := ["nodes", "arrows", "always", "ages", "mark", "back", "found", "k", "start", "goal", "least", "most", "later", "low", "high"]) (sc := defScope (top 98)) (by decide +kernel)) (fun _ _ _ _ _ => (pgT (n := 2) K rfl (pgs_cons (pg_name (i := 4) sc_law_ages.nd rfl (by first | exact Or.inl rfl | exact Or.inr rfl)) (pgs_cons (pg_name (i := 5) sc_law_ages.nd rfl (by first | exact Or.inl rfl | exact Or.inr rfl)) pgs_nil)))) (fun _ _ _ _ _ => pts_nil) (fun _ _ _ _ _ => (pe_tup (pa_cons (pv 4) (pa_cons (pe_tup (pa_cons (pv 5) (pa_cons (pv 5) pa_nil))) pa_nil))))) pa_nil)))
      (pss_cons (ps_set (i := 6) sc_law_ages.nd rfl (by first | exact Or.inl rfl | exact Or.inr rfl) (pe_lst (pa_cons (pv 3) pa_nil)))
      (pss_cons (ps_for PassesOwn.never rfl (pi_range1 (by rfl) T.b_range (pa_cons (pe_callB (clen K) (by rfl) T.b_len boot_len (pa_cons (pv 1) pa_nil)) pa_nil)) (pg_name (i := 7) sc_law_ages.nd rfl (by first | exact Or.inl rfl | exact Or.inr rfl))
      (pss_cons (ps_asg (pe_ix (ixL K) (pv 1) (pv 7) (fun _ _ => rfl)) (pg_tup rfl (pgs_cons (pg_name (i := 8) sc_law_ages.nd rfl (by first | exact Or.inl rfl | exact Or.inr rfl)) (pgs_cons (pg_name (i := 9) sc_law_ages.nd rfl (by first | exact Or.inl rfl | exact Or.inr rfl)) (pgs_cons (pg_name (i := 10) sc_law_ages.nd rfl (by first | exact Or.inl rfl | exact Or.inr rfl)) (pgs_cons (pg_name (i := 11) sc_law_ages.nd rfl (by first | exact Or.inl rfl | exact Or.inr rfl)) pgs_nil))))))
      (pss_cons (ps_par (i := 12) (j := 5) rfl sc_law_ages.nd rfl rfl (by decide) rfl rfl (pa_cons pe_dnewK (pa_cons (pcal c_law_backs hr (pa_cons (pe_ix (ixL K) (pv 0) (pv 9) (fun _ _ => rfl)) pa_nil)) pa_nil)) (by rfl))
      (pss_cons (ps_if (PW.pt (pw_and (pt_cmpR (oeqD K hr.units) (pe_ix (ixL K) (pv 0) (pv 9) (fun _ _ => rfl)) (pe_tup (pa_cons pe_str pa_nil)) (by rfl)) (pw_and1 (pt_val (pv 2))))) (pss_one (ps_set (i := 5) sc_law_ages.nd rfl (by first | exact Or.inl rfl | exact Or.inr rfl) (pe_disp (pps_cons pe_str pe_int pps_nil) (by rfl) (by rfl) (fun z => by cases z) (by decide)))) pss_nil)
      (pss_cons (ps_for PassesOwn.never rfl (piL K (pe_lst (pa_cons pe_str (pa_cons pe_str (pa_cons pe_str pa_nil))))) (pg_name (i := 4) sc_law_ages.nd rfl (by first | exact Or.inl rfl | exact Or.inr rfl))
      (pss_cons (ps_asg (pe_dget hu (pv 3) (pv 4) (fun _ _ => rfl)) (pg_tup rfl (pgs_cons (pg_name (i := 13) sc_law_ages.nd rfl (by first | exact Or.inl rfl | exact Or.inr rfl)) (pgs_cons (pg_name (i := 14) sc_law_ages.nd rfl (by first | exact Or.inl rfl | exact Or.inr rfl)) pgs_nil))))
      (pss_one (ps_dput hu (pv 12) (pv 4) (pe_ifExp (pt_cmp (pc_din hu (pv 4) (pv 5))) (pe_tup (pa_cons (pe_dget hu (pv 5) (pv 4) (fun _ _ => rfl)) (pa_cons (pe_dget hu (pv 5) (pv 4) (fun _ _ => rfl)) pa_nil))) (pe_tup (pa_cons (pe_op op_add (pv 13) (pv 10)) (pa_cons (pe_op op_add (pv 14) (pv 11)) pa_nil)))) rfl))))
      (pss_cons (ps_set (i := 3) sc_law_ages.nd rfl (by first | exact Or.inl rfl | exact Or.inr rfl) (pv 12))
      (pss_one (ps_expr (pe_bm PySem.F.plainAttrs_list PySem.F.slot_list_append PySem.F.type_list_append mt_append (pv 6) (pa_cons (pv 3) pa_nil))))))))))
      (pss_one (ps_ret (pv 6)))))), ?_⟩
    have hts := ok.len
    have hle := ok.le
    have halen : as.length = c.n := h.2.1
    have hblen : bs.length = c.ts.length := ha.2.1
    obtain ⟨a0, ha0, hd0⟩ := h.2.2 0 (show 0 < c.n by omega)
    refine q_asgP (ep_due0 (al := al) ok (ep_pairs (K := K) (bk_len _) (fun _ _ => rfl) (fun _ _ => rfl) (fun _ _ => rfl) (en_call (ea_cons (ev_op (ev_var rfl) ev_c (rv_ixL (SqL.of h.1) (atI_nat (i := 0) ha0))) ea_nil) (sn_lbacks hd0)))) fun v H1 e1 hv => ?_
    obtain ⟨ag0, rfl, hag⟩ := hv
    refine q_asgL (el_lst (ea_cons (ev_var rfl) ea_nil) (by show 1 ≤ 100000; decide)) fun f H2 hf1 e2 h2 => ?_
    have hf := fresh_back e1 hf1
    refine q_forR1 (n := (c.ts.length : Int)) (ea_cons (ev_is (ev_len2 (ev_var rfl) (.inl (SqL.of ((e1.trans e2) _ _ ha.1)))) (by rw [hblen])) ea_nil) (by omega) (LaI n l f c al H) (fun H3 e3 => ⟨ag0, [.ref ag0], none, none, none, none, none, none, none, none, none, none, rfl, (e1.trans e2).trans e3, hag.mono (e2.trans e3), e3 _ _ h2, rfl, fun i hi => ?_⟩) ?_ ?_
    · have hi0 : i = 0 := by omega
      subst hi0
      exact ⟨ag0, rfl, hag.mono (e2.trans e3)⟩
    · rintro i σ H3 hi ⟨ag, zs, v4, v5, v7, v8, v9, v10, v11, v12, v13, v14, rfl, e3, hag, hz, hzl, hzs⟩
      have hi' : i < c.ts.length := by omega
      obtain ⟨b, hb, hbt⟩ := ha.2.2 i hi'
      rw [List.append_nil] at hbt
      obtain ⟨a, haa, hda⟩ := h.2.2 (i + 1) (show i + 1 < c.n by omega)
      refine rawG (ev_op (ev_var rfl) (ev_var rfl) (rv_ixL (SqL.of (e3 _ _ ha.1)) (atI_nat hb)) H3 (Ex.refl H3) _ fun H4 e4 => ?_)
      have e04 := e3.trans e4
      refine ⟨b, _, rfl, SqT.of (e04 _ _ hbt), rfl, _, _, rfl, _, _, rfl, _, _, rfl, _, _, rfl, rfl, ?_⟩
      -- a new dict, what the deed sets
      refine par_raw (c_raw fun la hla => c_raw (en_call (dvs := []) (E := E0) (H := upd H4 la (.dK [])) (ea_cons (ev_op (ev_var rfl) (ev_var rfl) (rv_ixL (SqL.of ((Ex.new hla) _ _ (e04 _ _ h.1))) (atI_nat haa))) ea_nil) (sn_lbacks ((hda.mono e04).mono (Ex.new hla))) _ (Ex.refl _) _ fun bd0 H5 hbd0 e5 h5 => ⟨_, _, rfl, ?_⟩))
      have e45 : Ex H4 H5 := (Ex.new hla).trans e5
      have hla5 := e5 _ _ (upd_same (H := H4) (a := la) (o := .dK []))
      have hda5 := (hda.mono e04).mono e45
      have hlaf : la ≠ f := fun z => by
        have := e4 _ _ hz
        rw [z, this] at hla
        cases hla
      -- then the marks, by whatever dict of backs
      suffices rest : ∀ (bd : Addr) (H6 : Hp), bd ≠ la → Ex H5 H6 → H6 bd = some (.dK (kvI (sl al (c.d (i + 1))))) → (tSeq (tFor (iList K (tLst (tCons (tC (.str "read")) (tCons (tC (.str "written")) (tCons (tC (.str "changed")) tNil))))) (gName 4) (tSeq (tAsg (tDGet (tVar 3) (tVar 4)) (gTup K 2 (gCons (gName 13) (gCons (gName 14) gNil)))) (sDPut (tVar 12) (tVar 4) (tIf (tB (tDIn (tVar 4) (tVar 5))) (tTup (tCons (tDGet (tVar 5) (tVar 4)) (tCons (tDGet (tVar 5) (tVar 4)) tNil))) (tTup (tCons (tOp (rI0 fun i j => .int (i + j)) (tVar 13) (tVar 10)) (tCons (tOp (rI0 fun i j => .int (i + j)) (tVar 14) (tVar 11)) tNil))))))) (tSeq (tAsg (tVar 12) (gName 3)) (tDrop (tBM K "list" rAppend (tVar 6) (tCons (tVar 3) tNil))))) { nx := LaI n l f c al H (i + 1), ct := LaI n l f c al H (i + 1), rt := Q, bk := tRet (tVar 6) { nx := fun _ H' => Q .non H', rt := Q } } [some (.ref n), some (.ref l), some (.bl al), some (.ref ag), v4, some (.ref bd), some (.ref f), some (.int (i : Int)), some (.int (i : Int)), some (.int ((i : Int) + 1)), some (.int (c.lo i)), some (.int (c.hi i)), some (.ref la), v13, v14] H6 by
        have tst : EvT (tAnd (tTest (tOp (rEqD K) (tOp (rIxL K) (tVar 0) (tVar 9)) (tTup (tCons (tC (.str "read")) tNil)))) (tTest (tVar 2))) [some (.ref n), some (.ref l), some (.bl al), some (.ref ag), v4, some (.ref bd0), some (.ref f), some (.int (i : Int)), some (.int (i : Int)), some (.int ((i : Int) + 1)), some (.int (c.lo i)), some (.int (c.hi i)), some (.ref la), v13, v14] H5 (decide (c.d (i + 1) = .read) && al) :=
          et_and (et_test (ev_eqU (ev_op (ev_var rfl) (ev_var rfl) (rv_ixL (SqL.of ((e04.trans e45) _ _ h.1)) (atI_nat haa))) (SqT.of hda5.1) (flat_vs _) (by walk_at "eu") rfl (shaped_vs _) (by decide +kernel) (eqv_read _))) fun _ => et_test (ev_var rfl)
        by_cases hrd : (decide (c.d (i + 1) = .read) && al) = true
        · rw [hrd] at tst
          refine q_yes tst fun H6 e6 => ?_
          refine en_disp (trs := [(tC (.str "read"), tC (.int 0))]) (kvs := [(Sum.inr "read", .int 0)]) (ls := [(Sum.inr "read", .int 0)]) (σ := [some (.ref n), some (.ref l), some (.bl al), some (.ref ag), v4, some (.ref bd0), some (.ref f), some (.int (i : Int)), some (.int (i : Int)), some (.int ((i : Int) + 1)), some (.int (c.lo i)), some (.int (c.hi i)), some (.ref la), v13, v14]) (H := H6) (by walk_at "eps") (by show 1 ≤ 15; decide) rfl H6 (Ex.refl H6) _ fun bd H7 hbd e7 h7 => ?_
          refine rest bd H7 (fun z => by rw [z, e6 _ _ hla5] at hbd; cases hbd) (e6.trans e7) ?_
          obtain ⟨hr1, hr2⟩ := Bool.and_eq_true_iff.mp hrd
          rw [h7, of_decide_eq_true hr1, hr2]
          rfl
        · rw [Bool.eq_false_iff.mpr hrd] at tst
          refine q_not tst fun H6 e6 => rest bd0 H6 (fun z => by rw [z, upd_same] at hbd0; cases hbd0) e6 ?_
          rw [e6 _ _ h5]
          have : sl al (c.d (i + 1)) = bk (c.d (i + 1)) := by
            cases hq : c.d (i + 1) <;> first | rfl | skip
            cases al with
            | true => rw [hq] at hrd; exact absurd rfl hrd
            | false => rfl
          rw [this]
          rfl
      intro bd H6 hbl e6 h6
      refine q_forNLn (K := K) (xs := [.str "read", .str "written", .str "changed"]) (el_lst (ea_cons ev_c (ea_cons ev_c (ea_cons ev_c ea_nil))) (by decide)) (fun p j => MaI n l f ag bd la b p c al i H4 j) (fun p H7 hp e7 h7 => ⟨v4, v13, v14, rfl, (e45.trans e6).trans e7, h7, e7 _ _ h6, (e6.trans e7) _ _ hla5⟩) (fun p j σ H' _ q => ?_) (fun p j x σ H' hj q => ?_) (fun p σ H' q => ?_)
      · obtain ⟨_, _, _, _, _, q, _⟩ := q
        exact SqL.of q
      · obtain ⟨w4, w13, w14, rfl, eM, hp, hbd, hlat⟩ := q
        obtain ⟨hx, hj3⟩ := look_at (L := mks) hj
        have hm : mks.getD j "" ∈ mks := by
          rw [getD_at hj3]
          exact List.getElem_mem hj3
        subst hx
        generalize mks.getD j "" = m at hm hj
        obtain ⟨kvs, t, hk1, hk2, hpr⟩ := ((hag.mono e4).mono eM).get hm
        refine rawG (ev_dget (k := Sum.inr m) (ev_var rfl) (ev_var rfl) hk1 hk2 H' (Ex.refl H') _ fun H8 e8 => ⟨t, _, rfl, SqT.of (e8 _ _ hpr), rfl, _, _, rfl, _, _, rfl, rfl, ?_⟩)
        have hbd8 := e8 _ _ hbd
        have hvb : valV (kvI (sl al (c.d (i + 1)))) (Sum.inr m : Key) = (c.b al (i + 1) m).map V.int := valV_kvI
        have hU : EvU (tIf (tB (tDIn (tVar 4) (tVar 5))) (tTup (tCons (tDGet (tVar 5) (tVar 4)) (tCons (tDGet (tVar 5) (tVar 4)) tNil))) (tTup (tCons (tOp (rI0 fun i j => .int (i + j)) (tVar 13) (tVar 10)) (tCons (tOp (rI0 fun i j => .int (i + j)) (tVar 14) (tVar 11)) tNil)))) [some (.ref n), some (.ref l), some (.bl al), some (.ref ag), some (.str m), some (.ref bd), some (.ref f), some (.int (i : Int)), some (.int (i : Int)), some (.int ((i : Int) + 1)), some (.int (c.lo i)), some (.int (c.hi i)), some (.ref la), some (.int (c.S al m c.lo i)), some (.int (c.S al m c.hi i))] H8 [.int (c.S al m c.lo (i + 1)), .int (c.S al m c.hi (i + 1))] := by
          have hin := ev_din (σ := [some (.ref n), some (.ref l), some (.bl al), some (.ref ag), some (.str m), some (.ref bd), some (.ref f), some (.int (i : Int)), some (.int (i : Int)), some (.int ((i : Int) + 1)), some (.int (c.lo i)), some (.int (c.hi i)), some (.ref la), some (.int (c.S al m c.lo i)), some (.int (c.S al m c.hi i))]) (tb := tVar 4) (ta := tVar 5) (k := Sum.inr m) (ev_var rfl) (ev_var rfl) hbd8
          rw [hvb, Option.isSome_map] at hin
          refine eu_if (et_B hin) (fun hs => ?_) (fun hs => ?_)
          · obtain ⟨b0, hb0⟩ := Option.isSome_iff_exists.mp hs
            rw [S_some hb0, S_some hb0]
            rw [hb0] at hvb
            exact eu_tup (ea_cons (ev_dget (k := Sum.inr m) (ev_var rfl) (ev_var rfl) hbd8 hvb) (ea_cons (ev_dget (k := Sum.inr m) (ev_var rfl) (ev_var rfl) hbd8 hvb) ea_nil)) (by show 2 ≤ 100000; decide)
          · have hn : c.b al (i + 1) m = none := by
              cases hq : c.b al (i + 1) m with
              | none => rfl
              | some b0 => rw [hq] at hs; cases hs
            rw [S_none hn, S_none hn]
            exact eu_tup (ea_cons (ev_op (ev_var rfl) (ev_var rfl) rv_I0) (ea_cons (ev_op (ev_var rfl) (ev_var rfl) rv_I0) ea_nil)) (by show 2 ≤ 100000; decide)
        obtain ⟨kl, hkl, hkl3⟩ := hlat.dk
        refine hU H8 (Ex.refl H8) _ fun t2 H9 ht2 e9 h9 => ⟨_, rfl, _, rfl, la, _, rfl, DPut.k (k := Sum.inr m) ((e8.trans e9) _ _ hkl) (Nat.lt_of_le_of_lt hkl3 (by decide)), ?_⟩
        have e89 := e8.trans e9
        have hla9 := e89 _ _ hkl
        refine ⟨_, _, _, rfl, Ex.mut (eM.trans e89) hla, ?_, ?_, LatK.put hj hlat hkl e89 h9⟩
        · have hp9 := e89 _ _ hp
          rw [upd_ne fun z => by rw [z, hla9] at hp9; cases hp9]
          exact hp9
        · rw [upd_ne hbl]
          exact e89 _ _ hbd
      · obtain ⟨w4, w13, w14, rfl, eM, hp, hbd, hlat⟩ := q
        have hdue : DueAt H' la c al (i + 1) := hlat
        refine q_asg (ev_var rfl) fun H8 e8 => ?_
        have e48 := eM.trans e8
        have hf8 := e48 _ _ (e4 _ _ hz)
        refine s_app (xs := zs) (v := .ref la) hf8 (ev_var rfl) (ev_var rfl) (by omega) fun H9 e9 => ?_
        have hf9 := e9 _ _ hf8
        refine ⟨la, zs ++ [.ref la], _, _, _, _, _, _, _, _, _, _, rfl, Ex.mut ((e04.trans e48).trans e9) hf, ((hdue.mono e8).mono e9).updL hf9, upd_same, by rw [List.length_append, hzl] <;> rfl, fun r hr => ?_⟩
        by_cases hlt : r < i + 1
        · obtain ⟨d, hd1, hd2⟩ := hzs r hlt
          exact ⟨d, by rw [List.getElem?_append_left (by omega)]; exact hd1, ((hd2.mono e4).mono (e48.trans e9)).updL hf9⟩
        · have hr' : r = i + 1 := by omega
          subst hr'
          exact ⟨la, by rw [List.getElem?_append_right (by omega), hzl, Nat.sub_self]; rfl, ((hdue.mono e8).mono e9).updL hf9⟩
    · rintro σ H3 ⟨ag, zs, v4, v5, v7, v8, v9, v10, v11, v12, v13, v14, rfl, e3, hag, hz, hzl, hzs⟩
      refine s_ret (ev_var rfl) fun H4 e4 => k _ H4 (e3.trans e4) ⟨f, zs, rfl, e4 _ _ hz, by rw [hzl]; omega, fun i hi => ?_⟩
      obtain ⟨d, hd1, hd2⟩ := hzs i (by omega)
      exact ⟨d, hd1, hd2.mono e4⟩
end
end K57
-- part D16
/-! The law. -/
namespace K57
open PySem PySem.Spec PyProof.Rows L2 He Evl
local macro_rules | `(tactic| walk_at "hp") => `(tactic| first | assumption | exact SqT.of (by assumption) | exact SqL.of (by assumption) | exact Txt.t_PLAIN (by assumption) _ | exact Txt.t_MARKS (by assumption) _ | exact Txt.t_WORDS (by assumption) _ | exact Txt.t_PARTS (by assumption) _)
local macro_rules | `(tactic| walk_at "kit") => `(tactic| first | exact kit_ii | exact kit_ib | exact kit_bb | exact kit_tt | exact kit_ss | exact kit_ll)
local macro_rules | `(tactic| walk_at "ty") => `(tactic| first | exact ty_int _ | exact ty_bl _ | exact ty_str _ | exact ty_tup (by assumption) | exact ty_lst (by assumption))
local macro_rules | `(tactic| walk_at "rv") => `(tactic| first | exact rv_I0 | exact rv_I (by decide) | exact rv_I (by assumption) | exact rv_eq rfl | exact rv_ne rfl | exact rv_isN | exact rv_notN | exact rv_ixT (by walk_at "hp") rfl | exact rv_ixL (by walk_at "hp") rfl | exact rv_ixT (by walk_at "hp") (by assumption) | exact rv_ixL (by walk_at "hp") (by assumption) | exact rv_isT (by walk_at "hp") rfl rfl)
local macro_rules | `(tactic| walk_at "ea") => `(tactic| first | exact ea_nil | (refine' ea_cons ?a ?b; (case a => walk_at "ev"); (case b => walk_at "ea")))
local macro_rules | `(tactic| walk_at "eu") => `(tactic| (refine' eu_tup ?a ?b; (case a => walk_at "ea"); (case b => (show List.length _ ≤ 100000; simp only [List.length_cons, List.length_nil]; decide))))
local macro_rules | `(tactic| walk_at "ev") => `(tactic| first
  | exact ev_var rfl
  | exact ev_c
  | (refine' ev_andV ?a (fun _ => ?b); (case a => walk_at "ev"); (case b => walk_at "ev"))
  | (refine' ev_orV ?a (fun _ => ?b); (case a => walk_at "ev"); (case b => walk_at "ev"))
  | (refine' ev_notV ?a; (case a => walk_at "ev"))
  | (refine' ev_chain ?a ?b ?c ?d ?e; (case a => walk_at "ev"); (case b => walk_at "ev"); (case c => walk_at "rv"); (case d => walk_at "ev"); (case e => walk_at "rv"))
  | (refine' ev_isi ?a ?c ?t ?e; (case a => walk_at "ea"); (case c => first | exact ClsV.ty _ | exact ClsV.own _); (case t => walk_at "ty"); (case e => walk_at "kit"))
  | (refine' ev_call ?a ?s; (case a => walk_at "ea"); (case s => walk_at "sv"))
  | (refine' ev_inU ?a ?b ?c ?d; (case a => walk_at "ev"); (case b => walk_at "eu"); (case c => rfl); (case d => rfl))
  | (refine' ev_niU ?a ?b ?c ?d; (case a => walk_at "ev"); (case b => walk_at "eu"); (case c => rfl); (case d => rfl))
  | (refine' ev_op ?a ?b ?r; (case a => walk_at "ev"); (case b => walk_at "ev"); (case r => walk_at "rv"))
  | (refine' ev_un ?a ru_neg; (case a => walk_at "ev"))
  | (refine' ev_len2 ?a ?b; (case a => walk_at "ev"); (case b => first | exact Or.inl (by walk_at "hp") | exact Or.inr (by walk_at "hp")))
  | (refine' ev_int1 ?a; (case a => walk_at "ev"))
  | (refine' ev_intB ?a; (case a => walk_at "ev")))
local macro_rules | `(tactic| walk_at "evr") => `(tactic| (refine' ev_is ?h ?e; (case h => walk_at "ev"); (case e => first | kernel_rfl | rfl)))
local macro_rules | `(tactic| walk_at "et") => `(tactic| first
  | (refine' et_and ?a (fun _ => ?b); (case a => walk_at "et"); (case b => walk_at "et"))
  | (refine' et_or ?a (fun _ => ?b); (case a => walk_at "et"); (case b => walk_at "et"))
  | (refine' et_not ?a; (case a => walk_at "et"))
  | (refine' et_test ?a; (case a => walk_at "ev"))
  | (refine' et_B ?a; (case a => walk_at "ev")))
local macro_rules | `(tactic| walk_at "etr") => `(tactic| (refine' et_is ?h ?e; (case h => walk_at "et"); (case e => first | kernel_rfl | rfl)))
local macro_rules | `(tactic| walk_at "eps") => `(tactic| first | exact EvPs.nil | (refine' EvPs.cons (k := Sum.inr _) ?a ?b ?c; (case a => walk_at "ev"); (case b => walk_at "ev"); (case c => walk_at "eps")))
local macro_rules | `(tactic| walk_at "en") => `(tactic| first | exact en_dnew | (refine' en_disp ?a ?b ?c; (case a => walk_at "eps"); (case b => (show List.length _ ≤ 15; simp only [List.length_cons, List.length_nil]; decide)); (case c => rfl)))
local macro_rules | `(tactic| walk_at "sv") => `(tactic| exact sv_is_whole)
local macro_rules | `(tactic| walk_at "sv") => `(tactic| exact sv_is_between)
local macro_rules | `(tactic| walk_at "sv") => `(tactic| exact sv_is_listed (by assumption))
local macro_rules | `(tactic| walk_at "sv") => `(tactic| exact sv_is_part_of (by walk_at "hp") rfl)
local macro_rules | `(tactic| walk_at "sv") => `(tactic| exact sv_is_time)
local macro_rules | `(tactic| walk_at "sv") => `(tactic| exact sv_is_deed (by assumption))
local macro_rules | `(tactic| walk_at "sv") => `(tactic| exact sv_makes (by assumption))
local macro_rules | `(tactic| walk_at "sv") => `(tactic| exact sv_is_looks (by assumption) (by assumption))
local macro_rules | `(tactic| walk_at "sv") => `(tactic| exact sv_check_rule (by assumption))
local macro_rules | `(tactic| walk_at "sv") => `(tactic| exact sv_is_more)
local macro_rules | `(tactic| walk_at "sv") => `(tactic| exact sv_is_between_t (by omega))
local macro_rules | `(tactic| walk_at "sv") => `(tactic| exact sv_is_between_t (by assumption))
local macro_rules | `(tactic| walk_at "sv") => `(tactic| exact sv_is_time_t (by omega))
local macro_rules | `(tactic| walk_at "sv") => `(tactic| exact sv_is_time_t (by assumption))
local macro_rules | `(tactic| walk_at "sv") => `(tactic| exact sv_check_way (by assumption))
local macro_rules | `(tactic| walk_at "sv") => `(tactic| exact sv_check_node (by assumption) (by assumption))
local macro_rules | `(tactic| walk_at "sv") => `(tactic| exact sv_rule_word (by assumption))
section
variable {P : Program} {w : World} {K : PySem.W.Frag} {mg : Str → Option Value} {base : Heap} {H : Hp}
local macro_rules | `(tactic| walk_at "ev") => `(tactic| assumption)
theorem ite_false_of {p : Prop} [Decidable p] {a b : Prop} (h : ¬ p) (x : b) : if p then a else b := by
  rw [if_neg h]
  exact x
theorem sq_d {H H1 : Hp} {a : Addr} {xs : List V} (e : ExD H H1) (h : SqL K H a xs) : SqL K H1 a xs := by
  rcases h with (h | ⟨o, h⟩) | h
  · exact Or.inl (Or.inl (e.lst h))
  · exact Or.inl (Or.inr ⟨o, e.keep _ _ (fun _ z => nomatch z) h⟩)
  · exact Or.inr h
theorem ne_same (v : V) : (!decide (v = v)) = false := by
  rw [decide_eq_true rfl]
  rfl
/-- an if on a number that is as it should be -/
theorem s_neD {te : TE} {σ : L2.St} {H : Hp} {i : Nat} {x : Int} {tu : TS} {D : Ends} (h : ∀ Q : VK, (∀ H', ExD H H' → Q (.int x) H') → te σ H Q) (hv : σ[i]? = some (some (.int x))) (k : ∀ H', ExD H H' → D.nx σ H') : tIfS (tTest (tOp rNe te (tVar i))) tu tNext D σ H :=
  h _ fun H' e => ⟨_, hv, rfl, _, rfl, ite_false_of (by rw [ne_same]; exact fun z => nomatch z) (k H' e)⟩
theorem q_neD {te : TE} {σ : L2.St} {H : Hp} {i : Nat} {x : Int} {tu tz : TS} {D : Ends} (h : ∀ Q : VK, (∀ H', ExD H H' → Q (.int x) H') → te σ H Q) (hv : σ[i]? = some (some (.int x))) (k : ∀ H', ExD H H' → tz D σ H') : tSeq (tIfS (tTest (tOp rNe te (tVar i))) tu tNext) tz D σ H := s_neD (D := { D with nx := tz D }) h hv k
theorem ep_rule {σ : L2.St} {i : Nat} {al : Bool} (T : Txt K mg) (hv : σ[i]? = some (some (.bl al))) : EvP (tOp (rIxL K) (tLst (tCons (KX.tSMeth0 (ga K "Rule") (sp_never K) (tC (.ref (ga K "Rule")))) (tCons (KX.tSMeth0 (ga K "Rule") (sp_always K) (tC (.ref (ga K "Rule")))) tNil))) (tCB (fun xs H Q => (∃ i, xs = [V.int i] ∧ Q (.int i) H) ∨ ∃ k, xs = [.bl k] ∧ Q (.int (if k then 1 else 0)) H) (tCons (tVar i) tNil))) σ H (fun v H' => ∃ r, v = .ref r ∧ RuleAt K H' r al) := fun H1 e Q q =>
  ⟨rfl, spp_never H1 (Ex.refl H1) _ (fun v H2 e2 ⟨r0, hv0, hr0⟩ => ⟨rfl, spp_always H2 (Ex.refl H2) _ (fun v1 H3 e3 ⟨r1, hv1, hr1⟩ => ⟨(by show 2 ≤ sizeLine; decide), fun p hp => ⟨_, hv, Or.inr ⟨al, rfl, p, [.ref r0, .ref r1], if al then 1 else 0, .ref (if al then r1 else r0), rfl, rfl, SqL.of (by rw [upd_same, hv0, hv1]), by cases al <;> rfl, q _ _ ((e2.trans e3).trans (Ex.new hp)) ⟨_, rfl, by
    cases al with
    | true => exact hr1.mono (Ex.new hp)
    | false => exact (hr0.mono e3).mono (Ex.new hp)⟩⟩⟩⟩) E0⟩) E0⟩
/-- lists of looks, written out -/
def EvLk (tas : TA) (σ : L2.St) (H : Hp) (n : Nat) : Prop := ∀ H1, Ex H H1 → ∀ Q : List V → Hp → Prop, (∀ vs H2, Ex H1 H2 → vs.length = n → (∀ z ∈ vs, ∃ p L, z = .ref p ∧ LooksAt H2 p L ∧ L ∈ looksL) → Q vs H2) → tas σ H1 Q
theorem lk_nil {σ : L2.St} : EvLk tNil σ H 0 := fun H1 _ Q q => q [] H1 (Ex.refl H1) rfl fun z hz => nomatch hz
theorem lk_cons {σ : L2.St} {ta : TA} {tr : TA} {n : Nat} (L : List Str) (hL : L ∈ looksL) (ha : EvA ta σ H (L.map V.str)) (hr : EvLk tr σ H n) : EvLk (tCons (tTup ta) tr) σ H (n + 1) := fun H1 e Q q =>
  eu_tup ha (by rw [List.length_map]; exact Nat.le_trans (looks_le L hL) (by decide)) H1 e _ fun p H2 hp e2 h2 => hr H2 (e.trans e2) _ fun vs H3 e3 hn hvs => q _ H3 (e2.trans e3) (by rw [List.length_cons, hn]) fun z hz => by
    rcases List.mem_cons.mp hz with hz | hz
    · exact ⟨p, L, hz, e3 _ _ h2, hL⟩
    · exact hvs z hz
theorem s_forLk {K : PySem.W.Frag} {σ : L2.St} {H : Hp} {tas : TA} {n j : Nat} {tu : TS} {D : Ends} (h : EvLk tas σ H n) (hn : n ≤ 1000) (k : ∀ q gs H', Ex H H' → H' q = some (.lst gs) → gs.length = n → (∀ z ∈ gs, ∃ p L, z = .ref p ∧ LooksAt H' p L ∧ L ∈ looksL) →
    ∃ Pv : Nat → L2.St → Hp → Prop, Pv 0 σ H' ∧ (∀ i σ' H2, i ≤ gs.length → Pv i σ' H2 → SqL K H2 q gs) ∧ (∀ i x σ' H2, gs[i]? = some x → Pv i σ' H2 → tu { D with nx := Pv (i + 1), ct := Pv (i + 1), bk := D.nx } (σ'.set j (some x)) H2) ∧ ∀ σ' H2, Pv gs.length σ' H2 → D.nx σ' H2) : tFor (iList K (tLst tas)) (gName j) tu D σ H :=
  h H (Ex.refl H) _ fun gs H1 e1 hg hgs => ⟨sz_of (by omega), fun q hq => ⟨q, rfl, ⟨gs, SqL.of upd_same⟩, by
    obtain ⟨Pv, k1, k2, k3, k4⟩ := k q gs _ (e1.trans (Ex.new hq)) upd_same hg fun z hz => by
      obtain ⟨p, L, a, b, d⟩ := hgs z hz
      exact ⟨p, L, a, (Ex.new hq) _ _ b, d⟩
    exact for_list Pv k1 k2 k3 k4⟩⟩
def sp_law (K : PySem.W.Frag) : Sp := fun vs H Q _ => ∃ (a : Addr) (ns : List Int), vs = [.ref a] ∧ ns.length ≤ 63 ∧ SqL K H a (ns.map V.int) ∧ ∀ H', Q (.bl true) H'
/-- where the loops stand -/
def TuI (K : PySem.W.Frag) (a : Addr) (ns : List Int) (σ : L2.St) (H' : Hp) : Prop := ∃ v1 v2 v3 v4 v5 v6 v7 v8 v9 v10 v11 v12 v14 : Option V, σ = [some (.ref a), v1, v2, v3, v4, v5, v6, v7, v8, v9, v10, v11, v12, none, v14] ∧ SqL K H' a (ns.map V.int)
def GrI (a s n l w r du : Addr) (t : Nat) (al : Bool) (H0 : Hp) (σ : L2.St) (H' : Hp) : Prop := ∃ v9 v10 v11 v12 v14 : Option V, σ = [some (.ref a), some (.int (t : Int)), some (.ref s), some (.ref n), some (.ref l), some (.bl al), some (.ref w), some (.ref r), some (.ref du), v9, v10, v11, v12, none, v14] ∧ ExD H0 H'
def NoI (a s n l w r du g : Addr) (t : Nat) (al : Bool) (c : Ch) (L : List Str) (H0 : Hp) (i : Nat) (σ : L2.St) (H' : Hp) : Prop := ∃ v11 v12 v14 : Option V, σ = [some (.ref a), some (.int (t : Int)), some (.ref s), some (.ref n), some (.ref l), some (.bl al), some (.ref w), some (.ref r), some (.ref du), some (.ref g), some (.int (c.seen al L (min i c.ts.length))), v11, v12, none, v14] ∧ ExD H0 H'
theorem due_min {σ : L2.St} {K : PySem.W.Frag} {H : Hp} {du g : Addr} {zs : List V} {c : Ch} {al : Bool} {L : List Str} {i : Nat} {k : Nat} {w : Nat → Int} (hw : ∀ x, wipe ((wipe σ [13]).set 13 (some x)) [13] = wipe σ [13]) (h8 : ∀ x, ((wipe σ [13]).set 13 (some x))[8]? = some (some (.ref du))) (h11 : ∀ x, ((wipe σ [13]).set 13 (some x))[11]? = some (some (.int (i : Int)))) (h13 : ∀ x, ((wipe σ [13]).set 13 (some x))[13]? = some (some x)) (h9 : σ[9]? = some (some (.ref g)))
    (hz : H du = some (.lst zs)) (hi : ∃ d, zs[i]? = some (.ref d) ∧ DueAt H d c al i) (ha : LooksAt H g L) (hL : L ∈ looksL) (hk : ∀ m, atI [V.int (c.S al m c.lo i), .int (c.S al m c.hi i)] (k : Int) = some (.int (c.S al m w i))) :
    Ev (tCB (rMin K) (tCons (tLc (iTup K (tVar 9)) (gName 13) tYes (tCB (fun xs H Q => (∃ i, xs = [V.int i] ∧ Q (.int i) H) ∨ ∃ k, xs = [.bl k] ∧ Q (.int (if k then 1 else 0)) H) (tCons (tOp (rIxT K) (tDGet (tOp (rIxL K) (tVar 8) (tVar 11)) (tVar 13)) (tC (.int (k : Int)))) tNil)) [13]) tNil)) σ H (.int (c.M al L w i)) := by
  have hL3 := looks_le L hL
  have hl : (L.map V.str).length = L.length := List.length_map _
  obtain ⟨d, hd, hD⟩ := hi
  refine ev_minN (ns := L.map fun m => c.S al m w i) ?_ (by rw [List.length_map]; exact looks_pos L hL)
  have : ((L.map fun m => c.S al m w i).map V.int) = given (L.map V.str).length (fun _ => true) fun j => .int (c.S al (L.getD j "") w i) := by
    rw [given_all, hl, range_getD (f := fun m => V.int (c.S al m w i)), List.map_map]
    rfl
  rw [this]
  refine el_lcT (fun _ => true) _ (ev_var h9) (SqT.of ha) (by omega) hw (fun _ _ _ _ _ => et_tYes) (fun j x H1 e1 hj _ => ?_)
  obtain ⟨rfl, hj'⟩ := look_at hj
  obtain ⟨kvs, t, hk1, hk2, hpr⟩ := (hD.mono e1).get (m := L.getD j "") (looks_mks L hL _ (by rw [getD_at hj']; exact List.getElem_mem hj'))
  exact ev_int1 (ev_op (ev_dget (k := Sum.inr (L.getD j "")) (ev_op (ev_var (h8 _)) (ev_var (h11 _)) (rv_ixL (SqL.of (e1 _ _ hz)) (atI_nat hd))) (ev_var (h13 _)) hk1 hk2) ev_c (rv_ixT (SqT.of hpr) (hk _)))
-- slots of law: 0 script 1 turn 2 source 3 nodes 4 arrows 5 always 6 way 7 rule 8 due 9 group 10 seen 11 node 12 low 13 mark 14 high
theorem sc_law : FnScope ["script", "turn", "source", "nodes", "arrows", "always", "way", "rule", "due", "group", "seen", "node", "low", "mark", "high"] ["script"] (defScope (top 99)) := ⟨rfl, rfl, rfl, by decide +kernel, rfl, by decide +kernel, by decide +kernel⟩
theorem k_law (T : Txt K mg) {fd : FuncData} (F : FunD K "law" "law" (defArgs (top 99)) (defBody (top 99)) (defScope (top 99)) [] [] (ga K "law") fd) (c_law_source : Cal P w K mg base 1 "_law_source" (sp_source K)) (c_law_chain : Cal P w K mg base 4 "_law_chain" sp_chain) (c_law_draw : Cal P w K mg base 1 "_law_draw" sp_draw) (c_Way : Mak P w K mg base 8 "Way" (ga K "Way") (sp_way_init K)) (c_never : Smt P w K mg base 3 (ga K "Rule") "never" (sp_never K)) (c_always : Smt P w K mg base 3 (ga K "Rule") "always" (sp_always K)) (c_law_ages : Cal P w K mg base 2 "_law_ages" sp_law_ages) (c_least_age : Cal P w K mg base 9 "least_age" (sp_least_age K)) (c_greatest_age : Cal P w K mg base 17 "greatest_age" (sp_greatest_age K)) (c_greatest_seen : Cal P w K mg base 19 "greatest_seen" (sp_greatest_seen K)) (c_Book : BkMk P w K mg base 6) : FnOk P w K mg base CX0 20 (ga K "law") fd ["script"] (sp_law K) := by
  refine fn_ok F sc_law (fun vs H Q E h => ?_) (fun cdv A outer s H vs Q E hr h => ?_)
  · obtain ⟨a, ns, rfl, hns, hS, k⟩ := h
    rfl
  · obtain ⟨a, ns, rfl, hns, hS, k⟩ := h
    have hu := hu_of hr
    obtain ⟨fdb, mvb, F_bk, B_bk⟩ := c_Book.ex
    refine ⟨_, (pss_cons (ps_for PassesOwn.never rfl (pi_range1 (by rfl) T.b_range (pa_cons (pe_callB (call_max2 rfl) (by rfl) T.b_max boot_max (pa_cons pe_int (pa_cons (pe_callB (call_min2 rfl) (by rfl) T.b_min boot_min (pa_cons (pe_callB (clen K) (by rfl) T.b_len boot_len (pa_cons (pv 0) pa_nil)) (pa_cons pe_int pa_nil))) pa_nil))) pa_nil)) (pg_name (i := 1) sc_law.nd rfl (by first | exact Or.inl rfl | exact Or.inr rfl))
      (pss_cons (ps_set (i := 2) sc_law.nd rfl (by first | exact Or.inl rfl | exact Or.inr rfl) (pcal c_law_source hr (pa_cons (pv 0) (pa_cons (pv 1) pa_nil))))
      (pss_cons (ps_asg (pcal c_law_chain hr (pa_cons (pv 2) pa_nil)) (pg_unl rfl (pgs_cons (pg_name (i := 3) sc_law.nd rfl (by first | exact Or.inl rfl | exact Or.inr rfl)) (pgs_cons (pg_name (i := 4) sc_law.nd rfl (by first | exact Or.inl rfl | exact Or.inr rfl)) pgs_nil))))
      (pss_cons (ps_set (i := 5) sc_law.nd rfl (by first | exact Or.inl rfl | exact Or.inr rfl) (pe_cmpR op_eq (pcal c_law_draw hr (pa_cons (pv 2) (pa_cons pe_int pa_nil))) pe_int (by rfl)))
      (pss_cons (ps_par (i := 6) (j := 7) rfl sc_law.nd rfl rfl (by decide) rfl rfl (pa_cons (pmak c_Way hr (pa_cons (pv 3) (pa_cons (pv 4) pa_nil))) (pa_cons (pe_ix (ixL K) (pe_lst (pa_cons (psmt c_never hr (pgo T.g_Rule)) (pa_cons (psmt c_always hr (pgo T.g_Rule)) pa_nil))) (pe_callTy call_int1 (by rfl) T.b_int boot_int (pa_cons (pv 5) pa_nil)) (fun _ _ => rfl)) pa_nil)) (by rfl))
      (pss_cons (ps_set (i := 8) sc_law.nd rfl (by first | exact Or.inl rfl | exact Or.inr rfl) (pcal c_law_ages hr (pa_cons (pv 3) (pa_cons (pv 4) (pa_cons (pv 5) pa_nil)))))
      (pss_one (ps_for PassesOwn.never rfl (piL K (pe_lst (pa_cons (pe_tup (pa_cons pe_str pa_nil)) (pa_cons (pe_tup (pa_cons pe_str pa_nil)) (pa_cons (pe_tup (pa_cons pe_str pa_nil)) (pa_cons (pe_tup (pa_cons pe_str (pa_cons pe_str pa_nil))) (pa_cons (pe_tup (pa_cons pe_str (pa_cons pe_str pa_nil))) (pa_cons (pe_tup (pa_cons pe_str (pa_cons pe_str pa_nil))) (pa_cons (pe_tup (pa_cons pe_str (pa_cons pe_str (pa_cons pe_str pa_nil)))) pa_nil))))))))) (pg_name (i := 9) sc_law.nd rfl (by first | exact Or.inl rfl | exact Or.inr rfl))
      (pss_cons (ps_set (i := 10) sc_law.nd rfl (by first | exact Or.inl rfl | exact Or.inr rfl) (pe_un un_neg pe_int))
      (pss_cons (ps_for PassesOwn.never rfl (pi_range1 (by rfl) T.b_range (pa_cons (pe_callB (clen K) (by rfl) T.b_len boot_len (pa_cons (pv 3) pa_nil)) pa_nil)) (pg_name (i := 11) sc_law.nd rfl (by first | exact Or.inl rfl | exact Or.inr rfl))
      (pss_cons (ps_set (i := 12) sc_law.nd rfl (by first | exact Or.inl rfl | exact Or.inr rfl) (pe_callB (cmin K) (by rfl) T.b_min boot_min (pa_cons (pe_lc rfl sc_law.nd (piT K (pv 9)) (blkOk_by (own := [("mark", 13)]) (N := ["script", "turn", "source", "nodes", "arrows", "always", "way", "rule", "due", "group", "seen", "node", "low", "mark", "high"]) (sc := defScope (top 99)) (by decide +kernel)) (fun _ _ _ _ _ => pg_name (i := 13) sc_law.nd rfl (by first | exact Or.inl rfl | exact Or.inr rfl)) (fun _ _ _ _ _ => pts_nil) (fun _ _ _ _ _ => (pe_callTy call_int1 (by rfl) T.b_int boot_int (pa_cons (pe_ix (ixT K) (pe_dget hu (pe_ix (ixL K) (pv 8) (pv 11) (fun _ _ => rfl)) (pv 13) (fun _ _ => rfl)) pe_int (fun _ _ => rfl)) pa_nil)))) pa_nil)))
      (pss_cons (ps_set (i := 14) sc_law.nd rfl (by first | exact Or.inl rfl | exact Or.inr rfl) (pe_callB (cmin K) (by rfl) T.b_min boot_min (pa_cons (pe_lc rfl sc_law.nd (piT K (pv 9)) (blkOk_by (own := [("mark", 13)]) (N := ["script", "turn", "source", "nodes", "arrows", "always", "way", "rule", "due", "group", "seen", "node", "low", "mark", "high"]) (sc := defScope (top 99)) (by decide +kernel)) (fun _ _ _ _ _ => pg_name (i := 13) sc_law.nd rfl (by first | exact Or.inl rfl | exact Or.inr rfl)) (fun _ _ _ _ _ => pts_nil) (fun _ _ _ _ _ => (pe_callTy call_int1 (by rfl) T.b_int boot_int (pa_cons (pe_ix (ixT K) (pe_dget hu (pe_ix (ixL K) (pv 8) (pv 11) (fun _ _ => rfl)) (pv 13) (fun _ _ => rfl)) pe_int (fun _ _ => rfl)) pa_nil)))) pa_nil)))
      (pss_cons (ps_if (pt_cmpR op_ne (pcal c_least_age hr (pa_cons (pv 6) (pa_cons (pv 7) (pa_cons (pv 9) (pa_cons (pv 11) pa_nil))))) (pv 12) (by rfl)) (pss_one (ps_ret pe_bl)) pss_nil)
      (pss_cons (ps_if (pt_cmpR op_ne (pcal c_greatest_age hr (pa_cons (pv 6) (pa_cons (pv 7) (pa_cons (pv 9) (pa_cons (pv 11) pa_nil))))) (pv 14) (by rfl)) (pss_one (ps_ret pe_bl)) pss_nil)
      (pss_one (ps_if (pt_cmpR op_lt (pv 11) (pe_callB (clen K) (by rfl) T.b_len boot_len (pa_cons (pv 4) pa_nil)) (by rfl)) (pss_one (ps_set (i := 10) sc_law.nd rfl (by first | exact Or.inl rfl | exact Or.inr rfl) (pe_callB (call_max2 rfl) (by rfl) T.b_max boot_max (pa_cons (pe_callTy call_int1 (by rfl) T.b_int boot_int (pa_cons (pv 10) pa_nil)) (pa_cons (pe_callTy call_int1 (by rfl) T.b_int boot_int (pa_cons (pe_op op_sub (pe_op op_add (pv 14) (pe_ix (ixT K) (pe_ix (ixL K) (pv 4) (pv 11) (fun _ _ => rfl)) pe_int (fun _ _ => rfl))) pe_int) pa_nil)) pa_nil))))) pss_nil)))))))
      (pss_one (ps_if (pt_cmpR op_ne (pcal c_greatest_seen hr (pa_cons (pv 6) (pa_cons (pv 7) (pa_cons (pe_makeK0 T.m_Book F_bk (hr.mono (by decide)) (by rfl) T.g_Book B_bk pass0 (pk_cons pe_int (pk_cons (pv 9) pk_nil))) pa_nil)))) (pv 10) (by rfl)) (pss_one (ps_ret pe_bl)) pss_nil))))))))))))
      (pss_one (ps_ret pe_bl))), ?_⟩
    have hT : ∃ N : Int, (0 ≤ N ∧ N ≤ 100000) ∧ EvA (tCons (tCB (fun xs H Q => ∃ i j, xs = [V.int i, .int j] ∧ Q (.int (if j > i then j else i)) H) (tCons (tC (.int 1)) (tCons (tCB (fun xs H Q => ∃ i j, xs = [V.int i, .int j] ∧ Q (.int (if j < i then j else i)) H) (tCons (tCB (rLenS K) (tCons (tVar 0) tNil)) (tCons (tC (.int 15)) tNil))) tNil))) tNil) (start ["script", "turn", "source", "nodes", "arrows", "always", "way", "rule", "due", "group", "seen", "node", "low", "mark", "high"] [.ref a]) H [.int N] := by
      refine ⟨if (if (15 : Int) < (ns.length : Int) then 15 else (ns.length : Int)) > 1 then (if (15 : Int) < (ns.length : Int) then 15 else (ns.length : Int)) else 1, ?_, ?_⟩
      · constructor
        · split
          · split <;> omega
          · omega
        · split
          · split <;> omega
          · omega
      · have hmin : Ev (tCB (fun xs H Q => ∃ i j, xs = [V.int i, .int j] ∧ Q (.int (if j < i then j else i)) H) (tCons (tCB (rLenS K) (tCons (tVar 0) tNil)) (tCons (tC (.int 15)) tNil))) (start ["script", "turn", "source", "nodes", "arrows", "always", "way", "rule", "due", "group", "seen", "node", "low", "mark", "high"] [.ref a]) H (.int (if (15 : Int) < (ns.length : Int) then 15 else (ns.length : Int))) := ev_cb (vs := [.int (ns.length : Int), .int 15]) (ea_cons (ev_is (ev_len2 (ev_var rfl) (.inl hS)) (by rw [List.length_map])) (ea_cons ev_c ea_nil)) fun H1 e1 Q q => ⟨_, _, rfl, q H1 (Ex.refl H1)⟩
        generalize (if (15 : Int) < (ns.length : Int) then 15 else (ns.length : Int)) = m at hmin ⊢
        exact ea_cons (ev_cb (vs := [.int 1, .int m]) (ea_cons ev_c (ea_cons hmin ea_nil)) fun H1 e1 Q q => ⟨_, _, rfl, q H1 (Ex.refl H1)⟩) ea_nil
    obtain ⟨N, hN, hT⟩ := hT
    refine q_forR1 hT hN (fun _ => TuI K a ns) (fun H1 e1 => ⟨none, none, none, none, none, none, none, none, none, none, none, none, none, rfl, ex_l e1 hS⟩) (fun t σ H0 _ p => ?_) (fun σ H1 p => ?_)
    · obtain ⟨v1, v2, v3, v4, v5, v6, v7, v8, v9, v10, v11, v12, v14, rfl, hS0⟩ := p
      refine q_raw ⟨_, rfl, _, rfl, a, ns, t, rfl, hS0, fun s H1 hs e1 hsrc => ?_⟩
      refine rawG ⟨_, rfl, s, rfl, hsrc, fun p n l c as bs H2 x2 hp hn hl h2 hNd hAr hok => ⟨p, _, rfl, SqL.of h2, rfl, _, _, rfl, _, _, rfl, rfl, ?_⟩⟩
      have d2 : ExD H0 H2 := x2.exd (ExD.of e1) hs
      have hsn : H1 s ≠ none := by
        obtain ⟨_, _, q, _⟩ := hsrc
        rw [q]
        exact fun z => nomatch z
      refine q_raw ⟨_, rfl, s, 2, rfl, by decide, by decide, x2.src', fun v H3 x3 hv => ?_⟩
      obtain ⟨dr, rfl, _, _⟩ := hv
      refine ⟨rfl, ?_⟩
      generalize hal : decide (V.int dr = V.int 0) = al
      have d3 : ExD H0 H3 := x3.exd d2 hs
      have hNd3 := hNd.stay x3.tups (x3.keep hNd.1 fun z => hsn (z ▸ hn))
      have hAr3 := hAr.stay x3.tups (x3.keep hAr.1 fun z => hsn (z ▸ hl))
      -- the way, the rule
      refine par_raw (c_raw (ep_make (PI := fun p dx H' => WayAt K H' p c) (ea_cons (ev_var rfl) (ea_cons (ev_var rfl) ea_nil)) (fun H4 e4 => ⟨n, l, c, as, bs, rfl, hNd3.mono e4, hAr3.mono e4, hok, rfl⟩) H3 (Ex.refl H3) _ fun v H4 e4 hv => ?_))
      obtain ⟨w, dx, rfl, _, hW⟩ := hv
      refine c_raw (ep_rule T (al := al) (i := 5) rfl H4 (Ex.refl H4) _ fun v H5 e5 hv => ⟨_, _, rfl, ?_⟩)
      obtain ⟨r, rfl, hR⟩ := hv
      have hW5 := hW.mono e5
      have e35 := e4.trans e5
      refine q_asgP (evp_call (ea_cons (ev_var rfl) (ea_cons (ev_var rfl) (ea_cons (ev_var rfl) ea_nil))) (spp_law_ages (hNd3.mono e35) (hAr3.mono e35) hok)) fun v H6 e6 hv => ?_
      obtain ⟨du, zs, rfl, hdu, hzl, hzs⟩ := hv
      -- the groups
      have hG : EvLk (tCons (tTup (tCons (tC (.str "read")) tNil)) (tCons (tTup (tCons (tC (.str "written")) tNil)) (tCons (tTup (tCons (tC (.str "changed")) tNil)) (tCons (tTup (tCons (tC (.str "read")) (tCons (tC (.str "written")) tNil))) (tCons (tTup (tCons (tC (.str "read")) (tCons (tC (.str "changed")) tNil))) (tCons (tTup (tCons (tC (.str "written")) (tCons (tC (.str "changed")) tNil))) (tCons (tTup (tCons (tC (.str "read")) (tCons (tC (.str "written")) (tCons (tC (.str "changed")) tNil)))) tNil))))))) [some (.ref a), some (.int (t : Int)), some (.ref s), some (.ref n), some (.ref l), some (.bl al), some (.ref w), some (.ref r), some (.ref du), v9, v10, v11, v12, none, v14] H6 7 :=
        lk_cons ["read"] (by decide +kernel) (ea_cons ev_c ea_nil) (lk_cons ["written"] (by decide +kernel) (ea_cons ev_c ea_nil) (lk_cons ["changed"] (by decide +kernel) (ea_cons ev_c ea_nil) (lk_cons ["read", "written"] (by decide +kernel) (ea_cons ev_c (ea_cons ev_c ea_nil)) (lk_cons ["read", "changed"] (by decide +kernel) (ea_cons ev_c (ea_cons ev_c ea_nil)) (lk_cons ["written", "changed"] (by decide +kernel) (ea_cons ev_c (ea_cons ev_c ea_nil)) (lk_cons ["read", "written", "changed"] (by decide +kernel) (ea_cons ev_c (ea_cons ev_c (ea_cons ev_c ea_nil))) lk_nil))))))
      refine s_forLk hG (by decide) fun q gs H8 e68 hq8 hgl hgs => ?_
      have d8 : ExD H0 H8 := d3.trans (.of ((e35.trans e6).trans e68))
      have e58 := e6.trans e68
      have hW8 := hW5.mono e58
      have hR8 := hR.mono e58
      have hNd8 := (hNd3.mono e35).mono e58
      have hAr8 := (hAr3.mono e35).mono e58
      have hdu8 := e68 _ _ hdu
      have hts := hok.len
      refine ⟨fun _ => GrI a s n l w r du t al H8, ⟨_, _, _, _, _, rfl, .refl H8⟩, fun _ σ H' _ p => ?_, fun gi x σ H' hgi p => ?_, fun σ H' p => ?_⟩
      · obtain ⟨_, _, _, _, _, _, d⟩ := p
        exact SqL.of (d.lst hq8)
      · obtain ⟨v9, v10, v11, v12, v14, rfl, d⟩ := p
        obtain ⟨g, L, rfl, hg8, hL⟩ := hgs x (List.mem_of_getElem? hgi)
        refine q_asg (v := .int (-1)) (ev_un ev_c ru_neg) fun H9 e9 => ?_
        have d9 := d.trans (.of e9)
        refine q_forR1 (n := (c.n : Int)) (ea_cons (ev_is (ev_len2 (ev_var rfl) (.inl (SqL.of (d9.lst hNd8.1)))) (by rw [hNd8.2.1]; rfl)) ea_nil) (by have := hok.le; omega) (fun i => NoI a s n l w r du g t al c L H8 i) (fun H10 e10 => ⟨v11, v12, v14, by rw [Nat.zero_min]; rfl, d9.trans (.of e10)⟩) (fun i σ H' hi p => ?_) (fun σ H' p => ?_)
        · obtain ⟨v11, v12, v14, rfl, d⟩ := p
          have hi' : i < c.n := by omega
          have hz := d.lst hdu8
          have hzi : ∃ d', zs[i]? = some (.ref d') ∧ DueAt H' d' c al i := by
            obtain ⟨d', q1, q2⟩ := hzs i hi'
            exact ⟨d', q1, (q2.mono e68).mond d⟩
          refine q_asg (v := .int (c.M al L c.lo i)) (due_min (k := 0) (w := c.lo) (fun _ => rfl) (fun _ => rfl) (fun _ => rfl) (fun _ => rfl) rfl hz hzi (d.tup hg8) hL fun _ => rfl) fun H10 e10 => ?_
          have d10 := d.trans (.of e10)
          refine q_asg (v := .int (c.M al L c.hi i)) (due_min (k := 1) (w := c.hi) (fun _ => rfl) (fun _ => rfl) (fun _ => rfl) (fun _ => rfl) rfl (d10.lst hdu8) (by
            obtain ⟨d', q1, q2⟩ := hzs i hi'
            exact ⟨d', q1, (q2.mono e68).mond d10⟩) (d10.tup hg8) hL fun _ => rfl) fun H11 e11 => ?_
          have d11 := d10.trans (.of e11)
          refine q_not (et_is (et_test (ev_op (ev_call (ea_cons (ev_var rfl) (ea_cons (ev_var rfl) (ea_cons (ev_var rfl) (ea_cons (ev_var rfl) ea_nil)))) (sv_least_age (hW8.mond d11) (hR8.mond d11) (d11.tup hg8) hL hi')) (ev_var rfl) (rv_ne rfl))) (ne_same _)) fun H12 e12 => ?_
          have d12 := d11.trans (.of e12)
          refine q_neD (fun Q q => ⟨_, rfl, _, rfl, _, rfl, _, rfl, _, ⟨w, r, g, c, al, L, i, rfl, hW8.mond d12, hR8.mond d12, d12.tup hg8, hL, hi', rfl⟩, fun v H' e hv => by rw [hv]; exact q H' e⟩) rfl fun H13 e13 => ?_
          have d13 := d12.trans e13
          have tst : EvT (tTest (tOp (rI0 fun i j => .bl (decide (i < j))) (tVar 11) (tCB (rLenS K) (tCons (tVar 4) tNil)))) [some (.ref a), some (.int (t : Int)), some (.ref s), some (.ref n), some (.ref l), some (.bl al), some (.ref w), some (.ref r), some (.ref du), some (.ref g), some (.int (c.seen al L (min i c.ts.length))), some (.int (i : Int)), some (.int (c.M al L c.lo i)), none, some (.int (c.M al L c.hi i))] H13 (decide ((i : Int) < (c.ts.length : Int))) := et_test (ev_op (ev_var rfl) (ev_is (ev_len2 (ev_var rfl) (.inl (SqL.of (d13.lst hAr8.1)))) (by rw [hAr8.2.1])) rv_I0)
          by_cases hlt : (i : Int) < (c.ts.length : Int)
          · rw [decide_eq_true hlt] at tst
            have hi2 : i < c.ts.length := by omega
            obtain ⟨b, hb1, hb2⟩ := hAr8.2.2 i hi2
            rw [List.append_nil] at hb2
            refine s_yes tst fun H14 e14 => ?_
            have d14 := d13.trans (.of e14)
            refine s_asg (v := .int (c.seen al L (min (i + 1) c.ts.length))) (ev_is (ev_max2 (ev_int1 (ev_var rfl)) (ev_int1 (ev_op (ev_op (ev_var rfl) (ev_op (ev_op (ev_var rfl) (ev_var rfl) (rv_ixL (SqL.of (d14.lst hAr8.1)) (atI_nat hb1))) ev_c (rv_ixT (SqT.of (d14.tup hb2)) rfl)) rv_I0) ev_c rv_I0))) ?_) fun H15 e15 => ⟨_, _, _, rfl, d14.trans (.of e15)⟩
            rw [Nat.min_eq_left (Nat.le_of_lt hi2), Nat.min_eq_left hi2, seen_step]
          · rw [decide_eq_false hlt] at tst
            refine s_not tst fun H14 e14 => ⟨some (.int (i : Int)), some (.int (c.M al L c.lo i)), some (.int (c.M al L c.hi i)), ?_, d13.trans (.of e14)⟩
            rw [show min (i + 1) c.ts.length = min i c.ts.length by omega]
            rfl
        · obtain ⟨v11, v12, v14, rfl, d⟩ := p
          rw [Int.toNat_natCast, show min c.n c.ts.length = c.ts.length by omega]
          refine s_neD (x := c.seen al L c.ts.length) (fun Q q => ⟨_, rfl, _, rfl, _, rfl, rfl, rfl, fun x dx nx nd ne => ?_⟩) rfl fun H10 e10 => ⟨_, _, _, _, _, rfl, d.trans e10⟩
          have e3 : Ex H' (L2.upd (L2.upd H' dx (.own x)) x (.ins (ga K "Book") dx [])) := fun b o hb => by
            rw [upd_ne (ne_of_none hb nx), upd_ne (ne_of_none hb nd)]
            exact hb
          refine ⟨x, dx, _, _, rfl, upd_same, ⟨g, L, rfl, e3 _ _ (d.tup hg8), hL, rfl⟩, fun H10 eb hB => ⟨rfl, ?_⟩⟩
          have e10 : Ex H' H10 := fun b o hb => eb b o (ne_of_none hb nx) (e3 b o hb)
          exact ⟨_, ⟨w, r, x, g, c, al, L, rfl, (hW8.mond d).mono e10, (hR8.mond d).mono e10, hB, rfl⟩, fun v H11 e11 hv => by rw [hv]; exact q H11 ((ExD.of e10).trans e11)⟩
      · obtain ⟨v9, v10, v11, v12, v14, rfl, d⟩ := p
        exact ⟨_, _, _, _, _, _, _, _, _, _, _, _, _, rfl, sq_d (d8.trans d) hS0⟩
    · obtain ⟨v1, v2, v3, v4, v5, v6, v7, v8, v9, v10, v11, v12, v14, rfl, _⟩ := p
      exact s_ret ev_c fun H2 _ => k H2
end
end K57
-- part End
/-! The head and the walks, joined. -/
namespace K57
open PySem PySem.Spec PyProof.Rows L2 He Evl
theorem law_fn {P : Program} {w : World} {K : PySem.W.Frag} {mg : Str → Option Value} {base : Heap} (T : Txt K mg) {fd : FuncData} (F : FunD K "law" "law" (defArgs (top 99)) (defBody (top 99)) (defScope (top 99)) [] [] (ga K "law") fd) : FnOk P w K mg base CX0 20 (ga K "law") fd ["script"] (sp_law K) := by
  have c_is_whole := k_is_whole (P := P) (w := w) (base := base) T
  have c_is_between := k_is_between T c_is_whole
  have c_is_listed := k_is_listed (P := P) (w := w) (base := base) T
  have c_is_part_of := k_is_part_of (P := P) (w := w) (base := base) T
  have c_is_time := k_is_time T c_is_between
  have c_is_deed := k_is_deed T c_is_time
  have c_makes := k_makes T c_is_deed
  have c_all_looks := k_all_looks (P := P) (w := w) (base := base) T
  have c_is_looks := k_is_looks T c_all_looks
  have c_backs := k_backs T c_is_deed
  have c_check_rule := k_check_rule (P := P) (w := w) (base := base) T
  have c_Rule := k_Rule_init (P := P) (w := w) (base := base) T
  have c_always := k_Rule_always T c_Rule
  have c_never := k_Rule_never T c_Rule
  have c_word := k_Rule_word (P := P) (w := w) (base := base) T
  have c_is_more := k_is_more (P := P) (w := w) (base := base) T
  have c_getitem := k_Way_getitem T c_is_between
  have c_len := k_Way_len (P := P) (w := w) (base := base) T
  have c_into := k_Way_into (P := P) (w := w) (base := base) T
  have c_arrows := k_Way_arrows (P := P) (w := w) (base := base) T
  have c_check_way := k_check_way (P := P) (w := w) (base := base) T
  have c_check_node := k_check_node T c_is_between c_len
  have c_is_arrow := k_is_arrow T c_is_between c_is_time c_is_part_of c_makes
  have c_reached_from := k_reached_from T c_makes
  have c_Way := k_Way_init T c_is_listed c_is_deed c_is_arrow c_reached_from
  have c_surely_set := k_surely_set T c_getitem c_word c_backs
  have c_joined := k_joined (P := P) (w := w) (base := base) T
  have c_Stretches := k_Stretches_init T c_joined
  have c_none := k_Stretches_none T c_Stretches
  have c_all_ages := k_all_ages T c_word c_len c_none
  have c_one_least := k_one_least T c_len c_word c_getitem c_surely_set c_into
  have c_least_table := k_least_table T c_all_ages c_one_least c_len
  have c_check_looks := k_check_looks T c_check_way c_check_rule c_is_looks c_check_node
  have c_least_age := k_least_age T c_check_looks c_least_table
  have c_is_told := k_Ages_is_told T c_word c_getitem
  have c_rest_of := k_Ages_rest_of T c_surely_set
  have c_nearest := k_Ages_nearest T c_surely_set
  have c_arriving := k_Ages_arriving T c_into c_is_more
  have c_table : Met P w K mg base 16 (ga K "Ages") "table" (sp_table K 3) := k_tables T c_len c_is_told c_nearest c_rest_of c_makes c_getitem c_arriving c_is_more 3
  have c_Ages := k_Ages_init T c_all_ages
  have c_greatest_age := k_greatest_age T c_check_looks c_Ages c_table
  have c_is_value := k_is_value T c_is_between c_is_looks c_is_part_of c_is_time
  have c_check_parts := k_check_parts T c_is_value
  have c_Book := k_Book_init T c_check_parts
  have c_looks := k_Book_looks (P := P) (w := w) (base := base) T
  have c_grain := k_Book_grain (P := P) (w := w) (base := base) T
  have c_check_book := k_check_book (P := P) (w := w) (base := base) T
  have c_check_all := k_check_all T c_check_way c_check_rule c_check_book
  have c_counts := k_counts (P := P) (w := w) (base := base) T
  have c_seen_most := k_seen_most T c_table c_looks c_arrows c_counts c_grain c_is_more
  have c_greatest_seen := k_greatest_seen T c_check_all c_seen_most c_Ages
  have c_law_source := k_law_source (P := P) (w := w) (base := base) T
  have c_law_draw := k_law_draw (P := P) (w := w) (base := base) T
  have c_law_pick := k_law_pick T c_law_draw
  have c_law_maker := k_law_maker T c_law_pick c_law_draw
  have c_law_user := k_law_user T c_law_pick c_law_draw
  have c_law_backs := k_law_backs (P := P) (w := w) (base := base) T
  have c_law_chain := k_law_chain T c_law_maker c_law_draw c_law_user
  have c_law_ages := k_law_ages T c_law_backs
  exact k_law T F c_law_source c_law_chain c_law_draw c_Way c_never c_always c_law_ages c_least_age c_greatest_age c_greatest_seen c_Book
theorem facts57 {P : Program} {w : World} {K : PySem.W.Frag} {h : Heap} {mg : Str → Option Value} {f : Addr} (X : K.In h) (G : h.Ns mainGlobals mg) (hfa : mg ("law" : Str) = some (.ref f)) (c : SaysB fkL ddL K) :
    ∃ fd : FuncData, (∀ (s : Shared) (v : Value), BindsTo s fd ⟨[v], []⟩ [("script", v)]) ∧ ∀ base : Heap, K.In base → base.Ns mainGlobals mg → FnOk P w K mg base CX0 20 f fd ["script"] (sp_law K) := by
  have T := txt_of X G c
  obtain ⟨fd, F⟩ := T.d_law
  have e := hfa.symm.trans T.g_law
  cases e
  have b := FunD.bindsA (ps := ["script"]) F fun _ _ _ _ _ _ us hl => match us, hl with | [_], _ => rfl
  exact ⟨fd, fun s v => b s [v] rfl, fun base _ _ => law_fn T F⟩
end K57
open PySem PySem.W PySem.Calls PyProof.Rows
theorem PySem.Challenge.cw_agedfiles_k57_whole_chains_of_deeds_holds : PySem.Challenge.rw_agedfiles_k57_whole_chains_of_deeds.Holds := by
  w_on; o_law
  refine HandSHeadRun.head_any (r := OpenLaw.row PySem.Challenge.rw_agedfiles_k57_whole_chains_of_deeds) (q := view (OpenLaw.row PySem.Challenge.rw_agedfiles_k57_whole_chains_of_deeds).prog [99]) (H := K57.hk57) (ob := K57.ob57) (M := 20000) (loose := K57.names) (d := HandSHeadRun.topDef (OpenLaw.row PySem.Challenge.rw_agedfiles_k57_whole_chains_of_deeds).prog 99) (kwd := []) K57.ob57_eq
    (by kernel_rfl) (fun s => by kernel_rfl) K57.run57 (by kernel_rfl) (by kernel_rfl) (by kernel_rfl) (by rfl) (by first | assumption | decide +kernel) (by decide +kernel) ⟨rfl, rfl, rfl, rfl, rfl, by decide +kernel⟩ ?hw ?hc
  case hw => w_witness2
  case hc =>
    refine L2.walk_ofE (l := PySem.Challenge.rw_agedfiles_k57_whole_chains_of_deeds) (n := 63) (k := 20) (x := "script") (CX := L2.CX0) rfl (by decide) (by kernel_rfl) ⟨rfl, by decide, by decide⟩ ?F (fun _ _ _ _ z => z)
    intro w mg fa h Y G hmg0
    obtain ⟨K, KX, c⟩ := Y
    have hmg : mg ("law" : PySem.Str) = some (.ref fa) := by
      have e : (HandSHeadRun.topDef (OpenLaw.row PySem.Challenge.rw_agedfiles_k57_whole_chains_of_deeds).prog 99).name = ("law" : PySem.Str) := by kernel_rfl
      rw [← e]
      exact hmg0
    obtain ⟨fd, hb, hF⟩ := K57.facts57 (P := (PySem.Challenge.rw_agedfiles_k57_whole_chains_of_deeds).prog) (w := w) KX G hmg c
    exact ⟨K, fd, K57.sp_law K, KX, hb, fun H a ns hl _ hS => ⟨a, ns, rfl, hl, hS, fun _ => rfl⟩, hF⟩
