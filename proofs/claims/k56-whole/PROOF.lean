import PyProof.Rows.All
import Wide.All
import OpenK.AllK
import Wide.FinOn
import KE.KStateDown
import Lean
import KE.KSuper
import KE.KOpsOwn
import HandS.ForMost
import HandS.More
import HandS.Star
import HandS.MethStar
import HandS.Property
import HandS.IsInst
import HandS.IterVal
import HandS.Exc
import HandS.TryOnly
import HandS.WordsExc
import HandS.Defaults
import HandS.Wide
import HandS.Conv
import HandS.DictTup
import HandS.DictComp
import HandS.Zip
import HandS.Flow
import HandS.Style
import HandS.TupAny
import HandS.Deep
import HandS.SetKeys
import HandS.RevRange
import HandS.Head0
import HandS.Head1
import HandS.Head2
import HandS.HeadEnd
import HandS.HeadHook1
import HandS.HeadHook2
import HandS.HeadHook3
import HandS.Walk
import HandS.Nested
import HandS.ClsMeth
import KE.GoesMore
import KE.KRevSl
import KE.KItemsList
import HandS.SortOrd
import HandS.MakeKwOnly
import HandS.SetBool
import HandS.SetTxt0
import PyProof.Rows.SortShellAny
import PySem.Challenge.RW_closenews_k56_whole_writers_and_mirrors
set_option Elab.async false
set_option linter.all false
set_option maxRecDepth 100000
set_option maxHeartbeats 4000000
namespace KX
open PySem PySem.Spec PyProof.Rows L2
/-! ### 1. the text by places -/
def top (i : Nat) : Stmt := PySem.Challenge.pw_closenews_k56_whole_writers_and_mirrors.main.body.getD i (.Pass ⟨0, 0, 0, 0⟩)
abbrev s_is_between : Stmt := top 27
abbrev s_is_string_of : Stmt := top 28
abbrev s_is_name : Stmt := top 29
abbrev s_is_word : Stmt := top 30
abbrev s_need_name : Stmt := top 31
abbrev s_need_word : Stmt := top 32
abbrev s_need_rule : Stmt := top 33
abbrev s_Notice_D_init_D : Stmt := inClass (top 34) 0
abbrev s_need_notice : Stmt := top 35
abbrev s_once : Stmt := top 37
abbrev s_folded : Stmt := top 38
abbrev s_Batch_D_init_D : Stmt := inClass (top 39) 0
abbrev s_Batch_D_len_D : Stmt := inClass (top 39) 1
abbrev s_are_nodes : Stmt := top 45
abbrev s_are_finals : Stmt := top 46
abbrev s_Graph_D_init_D : Stmt := inClass (top 47) 0
abbrev s_Graph_followed : Stmt := inClass (top 47) 1
abbrev s_Question_D_init_D : Stmt := inClass (top 48) 0
abbrev s_Question_first : Stmt := inClass (top 48) 1
abbrev s_Question_reached : Stmt := inClass (top 48) 5
abbrev s_Question_run : Stmt := inClass (top 48) 6
abbrev s_is_mirror_step : Stmt := top 54
abbrev s_Mirror_D_init_D : Stmt := inClass (top 55) 0
abbrev s_Mirror_steps : Stmt := inClass (top 55) 1
abbrev s_Mirror_question : Stmt := inClass (top 55) 2
abbrev s_Watch_begun : Stmt := inClass (top 56) 0
abbrev s_Watch_behind : Stmt := inClass (top 56) 5
abbrev s_Watch_alone : Stmt := inClass (top 56) 6
abbrev s_Watch_within : Stmt := inClass (top 56) 7
abbrev s_Watch_moves : Stmt := inClass (top 56) 8
abbrev s_Stale_lost : Stmt := inClass (top 57) 0
abbrev s_Stale_copied : Stmt := inClass (top 57) 1
abbrev s_Stale_received : Stmt := inClass (top 57) 2
abbrev s_Stale_told : Stmt := inClass (top 57) 3
abbrev s_Stale_is_bad : Stmt := inClass (top 57) 4
abbrev s_Keeper_D_init_D : Stmt := inClass (top 59) 0
abbrev s_Keeper_held : Stmt := inClass (top 59) 1
abbrev s_Keeper_D_call_D : Stmt := inClass (top 59) 3
abbrev s_Keeper_keep : Stmt := inClass (top 59) 4
abbrev s_Keeper_alone : Stmt := inClass (top 59) 5
abbrev s_Keeper_within : Stmt := inClass (top 59) 6
abbrev s_Keeper_update : Stmt := inClass (top 59) 7
abbrev s_Transaction_D_init_D : Stmt := inClass (top 62) 0
abbrev s_Transaction_need_open : Stmt := inClass (top 62) 2
abbrev s_Transaction_need_cell : Stmt := inClass (top 62) 3
abbrev s_Transaction_D_setitem_D : Stmt := inClass (top 62) 6
abbrev s_Transaction_D_iadd_D : Stmt := inClass (top 62) 7
abbrev s_Transaction_changes : Stmt := inClass (top 62) 8
abbrev s_Transaction_wishes : Stmt := inClass (top 62) 9
abbrev s_Transaction_listen : Stmt := inClass (top 62) 10
abbrev s_Transaction_unlisten : Stmt := inClass (top 62) 11
abbrev s_Transaction_batch : Stmt := inClass (top 62) 12
abbrev s_Transaction_rollback : Stmt := inClass (top 62) 15
abbrev s_Transaction_end : Stmt := inClass (top 62) 16
abbrev s_Transaction_commit : Stmt := inClass (top 62) 17
abbrev s_do_step : Stmt := top 63
abbrev s_Member_D_init_D : Stmt := inClass (top 66) 0
abbrev s_Member_need_no_work : Stmt := inClass (top 66) 1
abbrev s_Sender_begin : Stmt := inClass (top 67) 0
abbrev s_Sender_run : Stmt := inClass (top 67) 1
abbrev s_Listener_D_init_D : Stmt := inClass (top 68) 0
abbrev s_Listener_behind : Stmt := inClass (top 68) 3
abbrev s_Listener_receive : Stmt := inClass (top 68) 4
abbrev s_Listener_disconnect : Stmt := inClass (top 68) 5
abbrev s_Store_D_init_D : Stmt := inClass (top 73) 0
abbrev s_Store_present : Stmt := inClass (top 73) 1
abbrev s_Store_client : Stmt := inClass (top 73) 2
abbrev s_Store_keep : Stmt := inClass (top 73) 3
abbrev s_Store_room : Stmt := inClass (top 73) 6
abbrev s_is_writer_step : Stmt := top 78
abbrev s_words_of : Stmt := top 79
abbrev s_Writer_D_init_D : Stmt := inClass (top 80) 0
abbrev s_Writer_steps : Stmt := inClass (top 80) 1
abbrev s_L_rest : Stmt := top 83
abbrev s_L_draw : Stmt := top 84
abbrev s_L_pick : Stmt := top 85
abbrev s_L_mirror_step : Stmt := top 86
abbrev s_L_mirror_nodes : Stmt := top 87
abbrev s_L_writer_step : Stmt := top 88
abbrev s_L_writer_nodes : Stmt := top 89
abbrev s_L_final_run : Stmt := top 90
abbrev s_L_written : Stmt := top 91
abbrev s_L_lies : Stmt := top 92
abbrev s_L_pen : Stmt := top 93
abbrev s_L_cell_at : Stmt := top 94
abbrev s_L_pens : Stmt := top 95
abbrev s_L_rule : Stmt := top 96
abbrev s_L_start : Stmt := top 97
abbrev s_L_alone : Stmt := top 98
abbrev s_L_within : Stmt := top 99
abbrev s_L_after : Stmt := top 100
abbrev s_L_replayed : Stmt := top 101
abbrev s_L_cut_at_rest : Stmt := top 102
abbrev s_L_mirror_drawn : Stmt := top 103
abbrev s_L_good_mirror : Stmt := top 104
abbrev s_L_honest : Stmt := top 105
abbrev s_L_committed : Stmt := top 106
abbrev s_law : Stmt := top 107
/-! ### addresses behind the top (shown by the head) -/
abbrev a_Notice : Addr := 391
abbrev a_Batch : Addr := 515
abbrev a_Graph : Addr := 567
abbrev a_Question : Addr := 644
abbrev a_Mirror : Addr := 697
abbrev a_Watch : Addr := 772
abbrev a_Stale : Addr := 826
abbrev a_Keeper : Addr := 948
abbrev a_Transaction : Addr := 1078
abbrev a_Member : Addr := 1113
abbrev a_Sender : Addr := 1141
abbrev a_Listener : Addr := 1196
abbrev a_Client : Addr := 1215
abbrev a_Store : Addr := 1294
abbrev a_Writer : Addr := 1359
abbrev a_NewsError : Addr := 31
abbrev a_STEPS : Addr := 649
abbrev a_RULES : Addr := 299
abbrev a_UPDATES : Addr := 650
abbrev a_LENGTHS : Addr := 953
abbrev a_is_between : Addr := 306
abbrev a_is_string_of : Addr := 311
abbrev a_is_name : Addr := 318
abbrev a_is_word : Addr := 325
abbrev a_need_name : Addr := 332
abbrev a_need_word : Addr := 339
abbrev a_need_rule : Addr := 346
abbrev m_Notice___init__ : Addr := 360
abbrev a_need_notice : Addr := 402
abbrev a_once : Addr := 416
abbrev a_folded : Addr := 423
abbrev m_Batch___init__ : Addr := 437
abbrev m_Batch___len__ : Addr := 444
abbrev a_are_nodes : Addr := 526
abbrev a_are_finals : Addr := 531
abbrev m_Graph___init__ : Addr := 545
abbrev m_Graph_followed : Addr := 552
abbrev m_Question___init__ : Addr := 585
abbrev m_Question_first : Addr := 592
abbrev m_Question_reached : Addr := 620
abbrev m_Question_run : Addr := 627
abbrev a_is_mirror_step : Addr := 657
abbrev m_Mirror___init__ : Addr := 673
abbrev cell_Mirror : Addr := 661
abbrev code_Mirror : Addr := 672
abbrev m_Mirror_steps : Addr := 680
abbrev m_Mirror_question : Addr := 687
abbrev m_Watch_begun : Addr := 713
abbrev m_Watch_behind : Addr := 748
abbrev m_Watch_alone : Addr := 755
abbrev m_Watch_within : Addr := 762
abbrev m_Watch_moves : Addr := 769
abbrev m_Stale_lost : Addr := 788
abbrev m_Stale_copied : Addr := 795
abbrev m_Stale_received : Addr := 802
abbrev m_Stale_told : Addr := 809
abbrev m_Stale_is_bad : Addr := 816
abbrev m_Keeper___init__ : Addr := 894
abbrev m_Keeper_held : Addr := 901
abbrev m_Keeper___call__ : Addr := 917
abbrev m_Keeper_keep : Addr := 924
abbrev m_Keeper_alone : Addr := 931
abbrev m_Keeper_within : Addr := 938
abbrev m_Keeper_update : Addr := 945
abbrev m_Transaction___init__ : Addr := 967
abbrev m_Transaction_need_open : Addr := 982
abbrev m_Transaction_need_cell : Addr := 989
abbrev m_Transaction___setitem__ : Addr := 1010
abbrev m_Transaction___iadd__ : Addr := 1017
abbrev m_Transaction_changes : Addr := 1022
abbrev m_Transaction_wishes : Addr := 1027
abbrev m_Transaction_listen : Addr := 1032
abbrev m_Transaction_unlisten : Addr := 1037
abbrev m_Transaction_batch : Addr := 1042
abbrev m_Transaction_rollback : Addr := 1063
abbrev m_Transaction_end : Addr := 1070
abbrev m_Transaction_commit : Addr := 1075
abbrev a_do_step : Addr := 1089
abbrev m_Member___init__ : Addr := 1103
abbrev m_Member_need_no_work : Addr := 1110
abbrev m_Sender_begin : Addr := 1131
abbrev m_Sender_run : Addr := 1138
abbrev m_Listener___init__ : Addr := 1159
abbrev cell_Listener : Addr := 1147
abbrev code_Listener : Addr := 1158
abbrev m_Listener_behind : Addr := 1180
abbrev m_Listener_receive : Addr := 1186
abbrev m_Listener_disconnect : Addr := 1193
abbrev m_Store___init__ : Addr := 1230
abbrev m_Store_present : Addr := 1237
abbrev m_Store_client : Addr := 1244
abbrev m_Store_keep : Addr := 1249
abbrev m_Store_room : Addr := 1269
abbrev a_is_writer_step : Addr := 1307
abbrev a_words_of : Addr := 1312
abbrev m_Writer___init__ : Addr := 1328
abbrev cell_Writer : Addr := 1316
abbrev code_Writer : Addr := 1327
abbrev m_Writer_steps : Addr := 1335
abbrev a__law_rest : Addr := 1424
abbrev a__law_draw : Addr := 1431
abbrev a__law_pick : Addr := 1438
abbrev a__law_mirror_step : Addr := 1445
abbrev a__law_mirror_nodes : Addr := 1450
abbrev a__law_writer_step : Addr := 1457
abbrev a__law_writer_nodes : Addr := 1462
abbrev a__law_final_run : Addr := 1469
abbrev a__law_written : Addr := 1474
abbrev a__law_lies : Addr := 1481
abbrev a__law_pen : Addr := 1488
abbrev a__law_cell_at : Addr := 1495
abbrev a__law_pens : Addr := 1500
abbrev a__law_rule : Addr := 1507
abbrev a__law_start : Addr := 1514
abbrev a__law_alone : Addr := 1521
abbrev a__law_within : Addr := 1528
abbrev a__law_after : Addr := 1535
abbrev a__law_replayed : Addr := 1542
abbrev a__law_cut_at_rest : Addr := 1549
abbrev a__law_mirror_drawn : Addr := 1556
abbrev a__law_good_mirror : Addr := 1563
abbrev a__law_honest : Addr := 1570
abbrev a__law_committed : Addr := 1577
abbrev a_law : Addr := 1584
abbrev q_held : Addr := 902
abbrev q_room : Addr := 1270
/-! ### 2. the head's hook -/
structure FD where
  at_ : Addr
  code : Addr
  name : Str
  qual : Str
  st : Stmt
  clo : List (Str × Addr)
abbrev FV : Type := Option (Str × Str × Arguments × FuncBody × Scope × Addr × List (Str × Addr) × Value × Addr)
def fv (K : PySem.W.Frag) (a : Addr) : FV := match K.lookup a with
  | some ⟨_, _, .func fd, _⟩ => some (fd.name, fd.qualname, fd.params, fd.body, fd.scope, fd.globals, fd.closure, fd.code, fd.builtins)
  | _ => none
def FD.val (d : FD) : FV := some (d.name, d.qual, defArgs d.st, .stmts (defBody d.st), defScope d.st, mainGlobals, d.clo, .ref d.code, builtinsNs)
def dfl0 : Value → Bool
  | .none => true
  | _ => false
def FD.ok (K : PySem.W.Frag) (d : FD) : Bool := PySem.W.codeIn K (.ref d.code) d.qual && (match K.lookup d.at_ with
  | some ⟨.type t, _, .func fd, _⟩ => decide (t = "function") && dfl0 fd.defaults
  | _ => false)
/-- a def as it stands behind the top -/
structure FunC (K : PySem.W.Frag) (d : FD) (fd : FuncData) : Prop where
  ex : ∃ (od : Option Addr) (kV doc pm : Value) (an : Option Addr) (ct : Value) (osl : Array (Option Value)),
    fd = PySem.W.fnX d.name d.qual (defArgs d.st) (defBody d.st) (defScope d.st) d.clo .none kV doc pm an (.ref d.code) ct ∧ K.lookup d.at_ = some ⟨.type "function", od, .func fd, osl⟩ ∧ PySem.W.codeIn K (.ref d.code) d.qual = true
  kp : PySem.W.keepIn K (.ref d.at_) = true
  fn : PySem.W.isFn K (.ref d.at_) = true
  fi : PySem.W.fnIn K d.at_ = true
theorem FD.fun {K : PySem.W.Frag} {d : FD} (e : fv K d.at_ = d.val) (c : d.ok K = true) : ∃ fd, FunC K d fd := by
  obtain ⟨k1, c2⟩ := He.ba c
  unfold fv at e
  cases q : K.lookup d.at_ with
  | none =>
    rw [q] at c2
    cases c2
  | some o =>
    obtain ⟨oc, od, dt, osl⟩ := o
    rw [q] at c2 e
    cases dt with
    | func fd =>
      cases oc with
      | type t =>
        obtain ⟨n1, n2, n3, n4, n5, n6, n7, n8, n9, n10, n11, n12, n13, n14, n15⟩ := fd
        have e2 : (some (n1, n2, n3, n4, n5, n6, n7, n13, n15) : FV) = some (d.name, d.qual, defArgs d.st, .stmts (defBody d.st), defScope d.st, mainGlobals, d.clo, .ref d.code, builtinsNs) := e
        simp only [Option.some.injEq, Prod.mk.injEq] at e2
        obtain ⟨h1, h2, h3, h4, h5, h6, h7, h9, h8⟩ := e2
        obtain ⟨k0, k2⟩ := He.ba (show (decide (t = "function") && dfl0 n8) = true from c2)
        have kt : t = "function" := of_decide_eq_true k0
        have k3 : n8 = .none := by
          cases n8 <;> first | rfl | cases k2
        subst h1 h2 h3 h4 h5 h6 h7 h8 h9 k3 kt
        refine ⟨_, ⟨od, n9, n10, n11, n12, n14, osl, rfl, q, k1⟩, ?_, ?_, ?_⟩
        · show (match K.lookup d.at_ with
            | some ⟨_, _, .func _, _⟩ => true
            | some ⟨_, _, .cls _, _⟩ => PySem.W.specialIn K (.ref d.at_) "__call__" == some (some (.builtin "type.__call__"))
            | _ => false) = true
          rw [q]
        · have ty : PySem.W.typeIn K (.ref d.at_) = some (.type "function") := by
            show (K.lookup d.at_).map (·.cls) = _
            rw [q] <;> rfl
          unfold PySem.W.isFn
          rw [ty] <;> rfl
        · unfold PySem.W.fnIn
          rw [q]
      | _ => cases c2
    | _ => cases oc <;> cases c2
def bGlo (x : Str) (a : Addr) (K : PySem.W.Frag) : Bool := He.eqO (PySem.W.nsIn K mainGlobals x) (some (some (.ref a)))
def bCls (C : Addr) (K : PySem.W.Frag) : Bool := PySem.W.plainGet K C Str.empty && (PySem.W.hasDictIn K C && (PySem.W.plainOver K C && He.eqO (PySem.W.findIn K (.ref C) "__setattr__") (some (some (.builtin "object.__setattr__")))))
theorem bCls_ok {C : Addr} {K : PySem.W.Frag} (c : bCls C K = true) : Cls K C := by
  obtain ⟨c1, c⟩ := He.ba c
  obtain ⟨c2, c⟩ := He.ba c
  obtain ⟨c3, c4⟩ := He.ba c
  exact ⟨c1, c2, c3, He.eqO_ok c4⟩
def bNo (C : Addr) (f : Str) (K : PySem.W.Frag) : Bool := He.eqO (PySem.W.findIn K (.ref C) f) (some none)
theorem bNo_ok {C : Addr} {f : Str} {K : PySem.W.Frag} (c : bNo C f K = true) : NoAttr K C f := He.eqO_ok c
def bTup (a : Addr) (vs : List V) (K : PySem.W.Frag) : Bool := match K.lookup a with
  | some ⟨.type c, _, .seq its _, _⟩ => decide (c = "tuple") && (decide (its.size ≤ sizeLine) && He.relAll vs its.toList)
  | _ => false
theorem bTup_ok {K : PySem.W.Frag} {a : Addr} {vs : List V} (h : bTup a vs K = true) (H : Hp) : SqT K H a vs := by
  unfold bTup at h
  cases q : K.lookup a with
  | none =>
    rw [q] at h
    cases h
  | some o =>
    obtain ⟨oc, od, dt, osl⟩ := o
    rw [q] at h
    cases oc with
    | type c =>
      cases dt with
      | seq its n =>
        obtain ⟨h1, h2⟩ := He.ba (show (decide (c = "tuple") && (decide (its.size ≤ sizeLine) && He.relAll vs its.toList)) = true from h)
        obtain ⟨h3, h4⟩ := He.ba h2
        exact .inr ⟨_, its, n, q, congrArg Value.type (of_decide_eq_true h1), rfl, of_decide_eq_true h3, He.relAll_ok h4⟩
      | _ => cases h
    | _ => cases dt <;> cases h
def bMeth (C : Addr) (m : Str) (f : Addr) (K : PySem.W.Frag) : Bool := He.eqO (PySem.W.findIn K (.ref C) m) (some (some (.ref f))) && (PySem.W.isFn K (.ref f) && PySem.W.keepIn K (.ref f))
theorem bMeth_ok {C f : Addr} {m : Str} {K : PySem.W.Frag} (c : bMeth C m f K = true) : Meth K C m f := by
  obtain ⟨c1, c⟩ := He.ba c
  obtain ⟨c2, c3⟩ := He.ba c
  exact ⟨He.eqO_ok c1, c2, c3⟩
def bMk (C f : Addr) (K : PySem.W.Frag) : Bool := PySem.W.makesIn K C && (He.eqO (PySem.W.findIn K (.ref C) "__init__") (some (some (.ref f))) && (PySem.W.isFn K (.ref f) && PySem.W.keepIn K (.ref C)))
theorem bMk_ok {C f : Addr} {K : PySem.W.Frag} (c : bMk C f K = true) : Mk K C f := by
  obtain ⟨c1, c⟩ := He.ba c
  obtain ⟨c2, c⟩ := He.ba c
  obtain ⟨c3, c4⟩ := He.ba c
  exact ⟨c1, He.eqO_ok c2, c3, c4⟩
def bProp (C : Addr) (m : Str) (p g : Addr) (K : PySem.W.Frag) : Bool := He.eqO (PySem.W.findIn K (.ref C) m) (some (some (.ref p))) && (He.eqO (PySem.W.specialIn K (.ref p) "__get__") (some (some (.builtin "property.__get__"))) &&
  (decide (PySem.W.takesIn K (.ref p) = some true) && (match PySem.W.recIn K p "property" with
    | some (.ref z :: _) => decide (z = g)
    | _ => false)))
theorem bProp_ok {C p g : Addr} {m : Str} {K : PySem.W.Frag} (c : bProp C m p g K = true) : PropOf K C m p g := by
  obtain ⟨c1, c⟩ := He.ba c
  obtain ⟨c2, c⟩ := He.ba c
  obtain ⟨c3, c4⟩ := He.ba c
  refine ⟨He.eqO_ok c1, He.eqO_ok c2, of_decide_eq_true c3, ?_⟩
  have c5 : (match PySem.W.recIn K p "property" with
    | some (.ref z :: _) => decide (z = g)
    | _ => false) = true := c4
  cases q : PySem.W.recIn K p "property" with
  | none =>
    rw [q] at c5
    cases c5
  | some l =>
    rw [q] at c5
    cases l with
    | nil => cases c5
    | cons v r =>
      cases v with
      | ref z =>
        have e : z = g := of_decide_eq_true c5
        rw [e]
        exact ⟨r, rfl⟩
      | _ => cases c5
/-- a class's special method of its own -/
def bSpec (C : Addr) (m : Str) (f : Addr) (K : PySem.W.Frag) : Bool := He.eqO (PySem.W.findIn K (.ref C) m) (some (some (.ref f)))
theorem bSpec_ok {C f : Addr} {m : Str} {K : PySem.W.Frag} (c : bSpec C m f K = true) : PySem.W.findIn K (.ref C) m = some (some (.ref f)) := He.eqO_ok c
/-- super() in the __init__ (its cell, its code's object) of the class D, of an instance of the class C: the next __init__ is g -/
def bSuper (C D g cell code : Addr) (K : PySem.W.Frag) : Bool := He.eqO (PySem.W.ks_superIn K C D "__init__") (some (some (.ref g))) && (decide (PySem.W.typeIn K (.ref g) = some (.type "function")) &&
  (decide (PySem.W.mroIn K C (.ref D) = some true) && ((PySem.W.clsIn K D).isSome && ((match K.lookup cell with
    | some ⟨_, _, .cell (some (.ref z)), _⟩ => decide (z = D)
    | _ => false) && (match K.lookup code with
    | some ⟨_, _, .fields vs, _⟩ => (match (vs[2]? : Option Value) with
      | some (.str f _) => decide (f = "/claim/cut.py")
      | _ => false)
    | _ => false)))))
structure SupOf (K : PySem.W.Frag) (C D g cell code : Addr) : Prop where
  sup : PySem.W.ks_superIn K C D "__init__" = some (some (.ref g))
  ty : PySem.W.typeIn K (.ref g) = some (.type "function")
  mro : PySem.W.mroIn K C (.ref D) = some true
  cls : ∃ cd, PySem.W.clsIn K D = some cd
  cell : ∃ c d s, K.lookup cell = some ⟨c, d, .cell (some (.ref D)), s⟩
  code : ∃ c d vs s t, K.lookup code = some ⟨c, d, .fields vs, s⟩ ∧ vs[2]? = some (.str "/claim/cut.py" t)
theorem bSuper_ok {C D g cell code : Addr} {K : PySem.W.Frag} (c : bSuper C D g cell code K = true) : SupOf K C D g cell code := by
  obtain ⟨c1, c⟩ := He.ba c
  obtain ⟨c2, c⟩ := He.ba c
  obtain ⟨c3, c⟩ := He.ba c
  obtain ⟨c4, c⟩ := He.ba c
  obtain ⟨c5, c6⟩ := He.ba c
  refine ⟨He.eqO_ok c1, of_decide_eq_true c2, of_decide_eq_true c3, Option.isSome_iff_exists.mp c4, ?_, ?_⟩
  · have c7 : (match K.lookup cell with
      | some ⟨_, _, .cell (some (.ref z)), _⟩ => decide (z = D)
      | _ => false) = true := c5
    cases q : K.lookup cell with
    | none =>
      rw [q] at c7
      cases c7
    | some ob =>
      obtain ⟨oc, od, dt, osl⟩ := ob
      rw [q] at c7
      cases dt with
      | cell v =>
        cases v with
        | none => cases c7
        | some v =>
          cases v with
          | ref z =>
            have e : z = D := of_decide_eq_true c7
            rw [e]
            exact ⟨oc, od, osl, rfl⟩
          | _ => cases c7
      | _ => cases c7
  · have c7 : (match K.lookup code with
      | some ⟨_, _, .fields vs, _⟩ => (match (vs[2]? : Option Value) with
        | some (.str f _) => decide (f = "/claim/cut.py")
        | _ => false)
      | _ => false) = true := c6
    cases q : K.lookup code with
    | none =>
      rw [q] at c7
      cases c7
    | some ob =>
      obtain ⟨oc, od, dt, osl⟩ := ob
      rw [q] at c7
      cases dt with
      | fields vs =>
        have c8 : (match (vs[2]? : Option Value) with
          | some (.str f _) => decide (f = "/claim/cut.py")
          | _ => false) = true := c7
        cases e : vs[2]? with
        | none =>
          rw [e] at c8
          cases c8
        | some v =>
          rw [e] at c8
          cases v with
          | str f t =>
            have ef : f = "/claim/cut.py" := of_decide_eq_true c8
            rw [ef] at e
            exact ⟨oc, od, vs, osl, t, rfl, e⟩
          | _ => cases c8
      | _ => cases c7
/-- a keyword-only default that is an int -/
def bKw (a : Addr) (x : Str) (i : Int) (K : PySem.W.Frag) : Bool := match K.lookup a with
  | some ⟨_, _, .func fd, _⟩ => He.kwdB K fd.kwdefaults [(x, V.int i)]
  | _ => false
theorem bKw_ok {a : Addr} {x : Str} {i : Int} {K : PySem.W.Frag} (c : bKw a x i K = true) {oc : Value} {od : Option Addr} {fd : FuncData} {osl : Array (Option Value)} (l : K.lookup a = some ⟨oc, od, .func fd, osl⟩) : KwdV K fd.kwdefaults [(x, V.int i)] := by
  unfold bKw at c
  rw [l] at c
  exact He.kwdB_ok c
def bs0 : List (PySem.W.Frag → Bool) := [bGlo "is_between" a_is_between, bGlo "is_string_of" a_is_string_of, bGlo "is_name" a_is_name, bGlo "is_word" a_is_word, bGlo "need_name" a_need_name, bGlo "need_word" a_need_word, bGlo "need_rule" a_need_rule, bGlo "need_notice" a_need_notice, bGlo "once" a_once, bGlo "folded" a_folded, bGlo "are_nodes" a_are_nodes, bGlo "are_finals" a_are_finals, bGlo "is_mirror_step" a_is_mirror_step, bGlo "do_step" a_do_step, bGlo "is_writer_step" a_is_writer_step, bGlo "words_of" a_words_of, bGlo "_law_rest" a__law_rest, bGlo "_law_draw" a__law_draw, bGlo "_law_pick" a__law_pick, bGlo "_law_mirror_step" a__law_mirror_step, bGlo "_law_mirror_nodes" a__law_mirror_nodes, bGlo "_law_writer_step" a__law_writer_step, bGlo "_law_writer_nodes" a__law_writer_nodes, bGlo "_law_final_run" a__law_final_run, bGlo "_law_written" a__law_written]
def bs1 : List (PySem.W.Frag → Bool) := [bGlo "_law_lies" a__law_lies, bGlo "_law_pen" a__law_pen, bGlo "_law_cell_at" a__law_cell_at, bGlo "_law_pens" a__law_pens, bGlo "_law_rule" a__law_rule, bGlo "_law_start" a__law_start, bGlo "_law_alone" a__law_alone, bGlo "_law_within" a__law_within, bGlo "_law_after" a__law_after, bGlo "_law_replayed" a__law_replayed, bGlo "_law_cut_at_rest" a__law_cut_at_rest, bGlo "_law_mirror_drawn" a__law_mirror_drawn, bGlo "_law_good_mirror" a__law_good_mirror, bGlo "_law_honest" a__law_honest, bGlo "_law_committed" a__law_committed, bGlo "law" a_law, bGlo "Notice" a_Notice, bGlo "Batch" a_Batch, bGlo "Graph" a_Graph, bGlo "Mirror" a_Mirror, bGlo "Stale" a_Stale, bGlo "Keeper" a_Keeper, bGlo "Transaction" a_Transaction, bGlo "Client" a_Client, bGlo "Store" a_Store]
def bs2 : List (PySem.W.Frag → Bool) := [bGlo "Writer" a_Writer, bGlo "Listener" a_Listener, bGlo "Member" a_Member, bGlo "Question" a_Question, bGlo "Watch" a_Watch, bGlo "STEPS" a_STEPS, bGlo "RULES" a_RULES, bGlo "UPDATES" a_UPDATES, bGlo "LENGTHS" a_LENGTHS, bGlo "NewsError" a_NewsError, (He.Fa.free "isinstance").ok, (He.Fa.free "int").ok, (He.Fa.free "bool").ok, (He.Fa.free "str").ok, (He.Fa.free "tuple").ok, (He.Fa.free "len").ok, (He.Fa.free "all").ok, (He.Fa.free "range").ok, (He.Fa.free "zip").ok, (He.Fa.free "enumerate").ok, (He.Fa.free "sorted").ok, (He.Fa.free "min").ok, (He.Fa.free "max").ok, (He.Fa.free "dict").ok, (He.Fa.free "super").ok]
def bs3 : List (PySem.W.Frag → Bool) := [(He.Fa.int "LONGEST" 6).ok, (He.Fa.int "MOST_NODES" 6).ok, (He.Fa.int "MOST_EDGES" 3).ok, (He.Fa.int "OTHER" (-1)).ok, (He.Fa.int "MOST" 200).ok, (He.Fa.int "MOST_CELLS" 6).ok, (He.Fa.int "MOST_ROOM" 200).ok, (He.Fa.int "MOST_WORDS" 3).ok, (He.Fa.str "LETTERS" "abcdefghijklmnopqrstuvwxyz").ok, (He.Fa.str "SIGNS" "abcdefghijklmnopqrstuvwxyz0123456789").ok, (He.Fa.str "READ" "read").ok, bTup a_STEPS [V.str "begin", V.str "commit", V.str "rollback", V.str "listen", V.str "unlisten", V.str "read", V.str "receive", V.str "disconnect"], bTup a_UPDATES [V.str "take", V.str "newer", V.str "reread"], bTup a_RULES [V.str "first", V.str "last", V.str "all"], bCls a_Notice, bNo a_Notice "channel", bNo a_Notice "word", bCls a_Batch, bNo a_Batch "rule", bNo a_Batch "notices", bCls a_Mirror, bNo a_Mirror "nodes", bNo a_Mirror "finals", bCls a_Writer, bNo a_Writer "nodes"]
def bs4 : List (PySem.W.Frag → Bool) := [bNo a_Writer "finals", bCls a_Stale, bNo a_Stale "graph", bCls a_Keeper, bNo a_Keeper "guest", bNo a_Keeper "cell", bNo a_Keeper "way", bNo a_Keeper "work", bNo a_Keeper "number", bNo a_Keeper "log", bCls a_Transaction, bNo a_Transaction "store", bNo a_Transaction "owner", bNo a_Transaction "snapshot", bNo a_Transaction "began", bNo a_Transaction "rows", bNo a_Transaction "marks", bNo a_Transaction "standing", bCls a_Client, bNo a_Client "store", bNo a_Client "name", bNo a_Client "work", bNo a_Client "starts", bNo a_Client "position", bCls a_Store]
def bs5 : List (PySem.W.Frag → Bool) := [bNo a_Store "rule", bNo a_Store "most", bNo a_Store "cells", bNo a_Store "members", bNo a_Store "past", bNo a_Store "queue", bMeth a_Mirror "followed" m_Graph_followed, bMeth a_Mirror "steps" m_Mirror_steps, bMeth a_Mirror "question" m_Mirror_question, bMeth a_Writer "followed" m_Graph_followed, bMeth a_Writer "steps" m_Writer_steps, bMeth a_Stale "first" m_Question_first, bMeth a_Stale "moves" m_Watch_moves, bMeth a_Stale "is_bad" m_Stale_is_bad, bMeth a_Stale "reached" m_Question_reached, bMeth a_Stale "run" m_Question_run, bMeth a_Stale "begun" m_Watch_begun, bMeth a_Stale "lost" m_Stale_lost, bMeth a_Stale "copied" m_Stale_copied, bMeth a_Stale "received" m_Stale_received, bMeth a_Stale "told" m_Stale_told, bMeth a_Stale "behind" m_Watch_behind, bMeth a_Stale "alone" m_Watch_alone, bMeth a_Stale "within" m_Watch_within, bMeth a_Keeper "keep" m_Keeper_keep]
def bs6 : List (PySem.W.Frag → Bool) := [bMeth a_Keeper "alone" m_Keeper_alone, bMeth a_Keeper "within" m_Keeper_within, bMeth a_Keeper "update" m_Keeper_update, bMeth a_Transaction "need_open" m_Transaction_need_open, bMeth a_Transaction "need_cell" m_Transaction_need_cell, bMeth a_Transaction "changes" m_Transaction_changes, bMeth a_Transaction "wishes" m_Transaction_wishes, bMeth a_Transaction "listen" m_Transaction_listen, bMeth a_Transaction "unlisten" m_Transaction_unlisten, bMeth a_Transaction "batch" m_Transaction_batch, bMeth a_Transaction "rollback" m_Transaction_rollback, bMeth a_Transaction "end" m_Transaction_end, bMeth a_Transaction "commit" m_Transaction_commit, bMeth a_Client "need_no_work" m_Member_need_no_work, bMeth a_Client "begin" m_Sender_begin, bMeth a_Client "run" m_Sender_run, bMeth a_Client "behind" m_Listener_behind, bMeth a_Client "receive" m_Listener_receive, bMeth a_Client "disconnect" m_Listener_disconnect, bMeth a_Store "present" m_Store_present, bMeth a_Store "client" m_Store_client, bMeth a_Store "keep" m_Store_keep, bMk a_Notice m_Notice___init__, bMk a_Batch m_Batch___init__, bMk a_Mirror m_Mirror___init__]
def bs7 : List (PySem.W.Frag → Bool) := [bMk a_Writer m_Writer___init__, bMk a_Stale m_Question___init__, bMk a_Keeper m_Keeper___init__, bMk a_Transaction m_Transaction___init__, bMk a_Client m_Listener___init__, bMk a_Store m_Store___init__, bProp a_Keeper "held" q_held m_Keeper_held, bProp a_Store "room" q_room m_Store_room, bSpec a_Batch "__len__" m_Batch___len__, bSpec a_Transaction "__setitem__" m_Transaction___setitem__, bSpec a_Transaction "__iadd__" m_Transaction___iadd__, bSpec a_Keeper "__call__" m_Keeper___call__, bSuper a_Mirror a_Mirror m_Graph___init__ cell_Mirror code_Mirror, bSuper a_Writer a_Writer m_Graph___init__ cell_Writer code_Writer, bSuper a_Client a_Listener m_Member___init__ cell_Listener code_Listener, (fun K => He.eqO (PySem.W.findIn K (.ref a_Notice) "__class__") (some (some (.builtin "object.__class__"))) && (decide (PySem.W.specialIn K (.builtin "object.__class__") "__get__" = some (some (.builtin "getset_descriptor.__get__"))) && (decide (PySem.W.takesIn K (.builtin "object.__class__") = some true) && (decide (PySem.W.mroIn K a_Notice (.type "object") = some true) && decide (PySem.W.kitOne K (.ref a_Notice) (.ref a_Notice) = some true))))), (fun K => PySem.W.selfFirst K (a_Transaction)), (fun K => PySem.W.noSeq K (a_Transaction)), (fun K => He.eqO (PySem.W.nsIn K cStatics "thirdparty.any") (some none)), bKw (m_Listener_receive) "most" 200, bKw (m_Store___init__) "room" 20, (fun K => He.valsB K a_LENGTHS [("set", .int 3), ("say", .int 3), ("listen", .int 2), ("unlisten", .int 2)])]
def bs : List (PySem.W.Frag → Bool) := bs0 ++ (bs1 ++ (bs2 ++ (bs3 ++ (bs4 ++ (bs5 ++ (bs6 ++ (bs7)))))))
def d_is_between : FD := ⟨a_is_between, 305, "is_between", "is_between", s_is_between, []⟩
def d_is_string_of : FD := ⟨a_is_string_of, 310, "is_string_of", "is_string_of", s_is_string_of, []⟩
def d_is_name : FD := ⟨a_is_name, 317, "is_name", "is_name", s_is_name, []⟩
def d_is_word : FD := ⟨a_is_word, 324, "is_word", "is_word", s_is_word, []⟩
def d_need_name : FD := ⟨a_need_name, 331, "need_name", "need_name", s_need_name, []⟩
def d_need_word : FD := ⟨a_need_word, 338, "need_word", "need_word", s_need_word, []⟩
def d_need_rule : FD := ⟨a_need_rule, 345, "need_rule", "need_rule", s_need_rule, []⟩
def d_Notice_D_init_D : FD := ⟨m_Notice___init__, 359, "__init__", "Notice.__init__", s_Notice_D_init_D, []⟩
def d_need_notice : FD := ⟨a_need_notice, 401, "need_notice", "need_notice", s_need_notice, []⟩
def d_once : FD := ⟨a_once, 415, "once", "once", s_once, []⟩
def d_folded : FD := ⟨a_folded, 422, "folded", "folded", s_folded, []⟩
def d_Batch_D_init_D : FD := ⟨m_Batch___init__, 436, "__init__", "Batch.__init__", s_Batch_D_init_D, []⟩
def d_Batch_D_len_D : FD := ⟨m_Batch___len__, 443, "__len__", "Batch.__len__", s_Batch_D_len_D, []⟩
def d_are_nodes : FD := ⟨a_are_nodes, 525, "are_nodes", "are_nodes", s_are_nodes, []⟩
def d_are_finals : FD := ⟨a_are_finals, 530, "are_finals", "are_finals", s_are_finals, []⟩
def d_Graph_D_init_D : FD := ⟨m_Graph___init__, 544, "__init__", "Graph.__init__", s_Graph_D_init_D, []⟩
def d_Graph_followed : FD := ⟨m_Graph_followed, 551, "followed", "Graph.followed", s_Graph_followed, []⟩
def d_Question_D_init_D : FD := ⟨m_Question___init__, 584, "__init__", "Question.__init__", s_Question_D_init_D, []⟩
def d_Question_first : FD := ⟨m_Question_first, 591, "first", "Question.first", s_Question_first, []⟩
def d_Question_reached : FD := ⟨m_Question_reached, 619, "reached", "Question.reached", s_Question_reached, []⟩
def d_Question_run : FD := ⟨m_Question_run, 626, "run", "Question.run", s_Question_run, []⟩
def d_is_mirror_step : FD := ⟨a_is_mirror_step, 656, "is_mirror_step", "is_mirror_step", s_is_mirror_step, []⟩
def d_Mirror_D_init_D : FD := ⟨m_Mirror___init__, 672, "__init__", "Mirror.__init__", s_Mirror_D_init_D, [("__class__", cell_Mirror)]⟩
def d_Mirror_steps : FD := ⟨m_Mirror_steps, 679, "steps", "Mirror.steps", s_Mirror_steps, []⟩
def d_Mirror_question : FD := ⟨m_Mirror_question, 686, "question", "Mirror.question", s_Mirror_question, []⟩
def d_Watch_begun : FD := ⟨m_Watch_begun, 712, "begun", "Watch.begun", s_Watch_begun, []⟩
def d_Watch_behind : FD := ⟨m_Watch_behind, 747, "behind", "Watch.behind", s_Watch_behind, []⟩
def d_Watch_alone : FD := ⟨m_Watch_alone, 754, "alone", "Watch.alone", s_Watch_alone, []⟩
def d_Watch_within : FD := ⟨m_Watch_within, 761, "within", "Watch.within", s_Watch_within, []⟩
def d_Watch_moves : FD := ⟨m_Watch_moves, 768, "moves", "Watch.moves", s_Watch_moves, []⟩
def d_Stale_lost : FD := ⟨m_Stale_lost, 787, "lost", "Stale.lost", s_Stale_lost, []⟩
def d_Stale_copied : FD := ⟨m_Stale_copied, 794, "copied", "Stale.copied", s_Stale_copied, []⟩
def d_Stale_received : FD := ⟨m_Stale_received, 801, "received", "Stale.received", s_Stale_received, []⟩
def d_Stale_told : FD := ⟨m_Stale_told, 808, "told", "Stale.told", s_Stale_told, []⟩
def d_Stale_is_bad : FD := ⟨m_Stale_is_bad, 815, "is_bad", "Stale.is_bad", s_Stale_is_bad, []⟩
def d_Keeper_D_init_D : FD := ⟨m_Keeper___init__, 893, "__init__", "Keeper.__init__", s_Keeper_D_init_D, []⟩
def d_Keeper_held : FD := ⟨m_Keeper_held, 900, "held", "Keeper.held", s_Keeper_held, []⟩
def d_Keeper_D_call_D : FD := ⟨m_Keeper___call__, 916, "__call__", "Keeper.__call__", s_Keeper_D_call_D, []⟩
def d_Keeper_keep : FD := ⟨m_Keeper_keep, 923, "keep", "Keeper.keep", s_Keeper_keep, []⟩
def d_Keeper_alone : FD := ⟨m_Keeper_alone, 930, "alone", "Keeper.alone", s_Keeper_alone, []⟩
def d_Keeper_within : FD := ⟨m_Keeper_within, 937, "within", "Keeper.within", s_Keeper_within, []⟩
def d_Keeper_update : FD := ⟨m_Keeper_update, 944, "update", "Keeper.update", s_Keeper_update, []⟩
def d_Transaction_D_init_D : FD := ⟨m_Transaction___init__, 966, "__init__", "Transaction.__init__", s_Transaction_D_init_D, []⟩
def d_Transaction_need_open : FD := ⟨m_Transaction_need_open, 981, "need_open", "Transaction.need_open", s_Transaction_need_open, []⟩
def d_Transaction_need_cell : FD := ⟨m_Transaction_need_cell, 988, "need_cell", "Transaction.need_cell", s_Transaction_need_cell, []⟩
def d_Transaction_D_setitem_D : FD := ⟨m_Transaction___setitem__, 1009, "__setitem__", "Transaction.__setitem__", s_Transaction_D_setitem_D, []⟩
def d_Transaction_D_iadd_D : FD := ⟨m_Transaction___iadd__, 1016, "__iadd__", "Transaction.__iadd__", s_Transaction_D_iadd_D, []⟩
def d_Transaction_changes : FD := ⟨m_Transaction_changes, 1021, "changes", "Transaction.changes", s_Transaction_changes, []⟩
def d_Transaction_wishes : FD := ⟨m_Transaction_wishes, 1026, "wishes", "Transaction.wishes", s_Transaction_wishes, []⟩
def d_Transaction_listen : FD := ⟨m_Transaction_listen, 1031, "listen", "Transaction.listen", s_Transaction_listen, []⟩
def d_Transaction_unlisten : FD := ⟨m_Transaction_unlisten, 1036, "unlisten", "Transaction.unlisten", s_Transaction_unlisten, []⟩
def d_Transaction_batch : FD := ⟨m_Transaction_batch, 1041, "batch", "Transaction.batch", s_Transaction_batch, []⟩
def d_Transaction_rollback : FD := ⟨m_Transaction_rollback, 1062, "rollback", "Transaction.rollback", s_Transaction_rollback, []⟩
def d_Transaction_end : FD := ⟨m_Transaction_end, 1069, "end", "Transaction.end", s_Transaction_end, []⟩
def d_Transaction_commit : FD := ⟨m_Transaction_commit, 1074, "commit", "Transaction.commit", s_Transaction_commit, []⟩
def d_do_step : FD := ⟨a_do_step, 1088, "do_step", "do_step", s_do_step, []⟩
def d_Member_D_init_D : FD := ⟨m_Member___init__, 1102, "__init__", "Member.__init__", s_Member_D_init_D, []⟩
def d_Member_need_no_work : FD := ⟨m_Member_need_no_work, 1109, "need_no_work", "Member.need_no_work", s_Member_need_no_work, []⟩
def d_Sender_begin : FD := ⟨m_Sender_begin, 1130, "begin", "Sender.begin", s_Sender_begin, []⟩
def d_Sender_run : FD := ⟨m_Sender_run, 1137, "run", "Sender.run", s_Sender_run, []⟩
def d_Listener_D_init_D : FD := ⟨m_Listener___init__, 1158, "__init__", "Listener.__init__", s_Listener_D_init_D, [("__class__", cell_Listener)]⟩
def d_Listener_behind : FD := ⟨m_Listener_behind, 1179, "behind", "Listener.behind", s_Listener_behind, []⟩
def d_Listener_receive : FD := ⟨m_Listener_receive, 1185, "receive", "Listener.receive", s_Listener_receive, []⟩
def d_Listener_disconnect : FD := ⟨m_Listener_disconnect, 1192, "disconnect", "Listener.disconnect", s_Listener_disconnect, []⟩
def d_Store_D_init_D : FD := ⟨m_Store___init__, 1229, "__init__", "Store.__init__", s_Store_D_init_D, []⟩
def d_Store_present : FD := ⟨m_Store_present, 1236, "present", "Store.present", s_Store_present, []⟩
def d_Store_client : FD := ⟨m_Store_client, 1243, "client", "Store.client", s_Store_client, []⟩
def d_Store_keep : FD := ⟨m_Store_keep, 1248, "keep", "Store.keep", s_Store_keep, []⟩
def d_Store_room : FD := ⟨m_Store_room, 1268, "room", "Store.room", s_Store_room, []⟩
def d_is_writer_step : FD := ⟨a_is_writer_step, 1306, "is_writer_step", "is_writer_step", s_is_writer_step, []⟩
def d_words_of : FD := ⟨a_words_of, 1311, "words_of", "words_of", s_words_of, []⟩
def d_Writer_D_init_D : FD := ⟨m_Writer___init__, 1327, "__init__", "Writer.__init__", s_Writer_D_init_D, [("__class__", cell_Writer)]⟩
def d_Writer_steps : FD := ⟨m_Writer_steps, 1334, "steps", "Writer.steps", s_Writer_steps, []⟩
def d_L_rest : FD := ⟨a__law_rest, 1423, "_law_rest", "_law_rest", s_L_rest, []⟩
def d_L_draw : FD := ⟨a__law_draw, 1430, "_law_draw", "_law_draw", s_L_draw, []⟩
def d_L_pick : FD := ⟨a__law_pick, 1437, "_law_pick", "_law_pick", s_L_pick, []⟩
def d_L_mirror_step : FD := ⟨a__law_mirror_step, 1444, "_law_mirror_step", "_law_mirror_step", s_L_mirror_step, []⟩
def d_L_mirror_nodes : FD := ⟨a__law_mirror_nodes, 1449, "_law_mirror_nodes", "_law_mirror_nodes", s_L_mirror_nodes, []⟩
def d_L_writer_step : FD := ⟨a__law_writer_step, 1456, "_law_writer_step", "_law_writer_step", s_L_writer_step, []⟩
def d_L_writer_nodes : FD := ⟨a__law_writer_nodes, 1461, "_law_writer_nodes", "_law_writer_nodes", s_L_writer_nodes, []⟩
def d_L_final_run : FD := ⟨a__law_final_run, 1468, "_law_final_run", "_law_final_run", s_L_final_run, []⟩
def d_L_written : FD := ⟨a__law_written, 1473, "_law_written", "_law_written", s_L_written, []⟩
def d_L_lies : FD := ⟨a__law_lies, 1480, "_law_lies", "_law_lies", s_L_lies, []⟩
def d_L_pen : FD := ⟨a__law_pen, 1487, "_law_pen", "_law_pen", s_L_pen, []⟩
def d_L_cell_at : FD := ⟨a__law_cell_at, 1494, "_law_cell_at", "_law_cell_at", s_L_cell_at, []⟩
def d_L_pens : FD := ⟨a__law_pens, 1499, "_law_pens", "_law_pens", s_L_pens, []⟩
def d_L_rule : FD := ⟨a__law_rule, 1506, "_law_rule", "_law_rule", s_L_rule, []⟩
def d_L_start : FD := ⟨a__law_start, 1513, "_law_start", "_law_start", s_L_start, []⟩
def d_L_alone : FD := ⟨a__law_alone, 1520, "_law_alone", "_law_alone", s_L_alone, []⟩
def d_L_within : FD := ⟨a__law_within, 1527, "_law_within", "_law_within", s_L_within, []⟩
def d_L_after : FD := ⟨a__law_after, 1534, "_law_after", "_law_after", s_L_after, []⟩
def d_L_replayed : FD := ⟨a__law_replayed, 1541, "_law_replayed", "_law_replayed", s_L_replayed, []⟩
def d_L_cut_at_rest : FD := ⟨a__law_cut_at_rest, 1548, "_law_cut_at_rest", "_law_cut_at_rest", s_L_cut_at_rest, []⟩
def d_L_mirror_drawn : FD := ⟨a__law_mirror_drawn, 1555, "_law_mirror_drawn", "_law_mirror_drawn", s_L_mirror_drawn, []⟩
def d_L_good_mirror : FD := ⟨a__law_good_mirror, 1562, "_law_good_mirror", "_law_good_mirror", s_L_good_mirror, []⟩
def d_L_honest : FD := ⟨a__law_honest, 1569, "_law_honest", "_law_honest", s_L_honest, []⟩
def d_L_committed : FD := ⟨a__law_committed, 1576, "_law_committed", "_law_committed", s_L_committed, []⟩
def d_law : FD := ⟨a_law, 1583, "law", "law", s_law, []⟩
def fs0 : List FD := [d_is_between, d_is_string_of, d_is_name, d_is_word, d_need_name, d_need_word, d_need_rule, d_Notice_D_init_D, d_need_notice, d_once, d_folded, d_Batch_D_init_D, d_Batch_D_len_D, d_are_nodes, d_are_finals, d_Graph_D_init_D, d_Graph_followed, d_Question_D_init_D, d_Question_first, d_Question_reached, d_Question_run, d_is_mirror_step, d_Mirror_D_init_D, d_Mirror_steps, d_Mirror_question]
def fs1 : List FD := [d_Watch_begun, d_Watch_behind, d_Watch_alone, d_Watch_within, d_Watch_moves, d_Stale_lost, d_Stale_copied, d_Stale_received, d_Stale_told, d_Stale_is_bad, d_Keeper_D_init_D, d_Keeper_held, d_Keeper_D_call_D, d_Keeper_keep, d_Keeper_alone, d_Keeper_within, d_Keeper_update, d_Transaction_D_init_D, d_Transaction_need_open, d_Transaction_need_cell, d_Transaction_D_setitem_D, d_Transaction_D_iadd_D, d_Transaction_changes, d_Transaction_wishes, d_Transaction_listen]
def fs2 : List FD := [d_Transaction_unlisten, d_Transaction_batch, d_Transaction_rollback, d_Transaction_end, d_Transaction_commit, d_do_step, d_Member_D_init_D, d_Member_need_no_work, d_Sender_begin, d_Sender_run, d_Listener_D_init_D, d_Listener_behind, d_Listener_receive, d_Listener_disconnect, d_Store_D_init_D, d_Store_present, d_Store_client, d_Store_keep, d_Store_room, d_is_writer_step, d_words_of, d_Writer_D_init_D, d_Writer_steps, d_L_rest, d_L_draw]
def fs3 : List FD := [d_L_pick, d_L_mirror_step, d_L_mirror_nodes, d_L_writer_step, d_L_writer_nodes, d_L_final_run, d_L_written, d_L_lies, d_L_pen, d_L_cell_at, d_L_pens, d_L_rule, d_L_start, d_L_alone, d_L_within, d_L_after, d_L_replayed, d_L_cut_at_rest, d_L_mirror_drawn, d_L_good_mirror, d_L_honest, d_L_committed, d_law]
def fs : List FD := fs0 ++ (fs1 ++ (fs2 ++ (fs3)))
def en (w : World) (x : Str) (t : Nat) (v : Value) : DictEntry := ⟨PyData.keyHash w.params x, .str x t, v⟩
def o_3 (w : World) : Obj := ⟨(.type "dict"), none, .dict ⟨[en w "__name__" 165 (.str "law_closenews_k56_whole_writers_and_mirrors" 2076), en w "__doc__" 166 .none, en w "__package__" 167 .none, en w "__loader__" 168 (.builtin "__main__.__loader__#opaque"), en w "__spec__" 169 .none, en w "__annotations__" 170 (.ref 6), en w "__builtins__" 171 (.ref 4), en w "__file__" 173 (.str "/claim/cut.py" 172), en w "__cached__" 174 .none, en w "_wall" 193 (.ref 21), en w "NewsError" 213 (.ref 31), en w "InvalidName" 229 (.ref 44), en w "InvalidWord" 245 (.ref 56), en w "InvalidRule" 261 (.ref 68), en w "InvalidNotice" 277 (.ref 80), en w "InvalidRoom" 293 (.ref 92), en w "InvalidCells" 309 (.ref 104), en w "UnknownCell" 325 (.ref 116), en w "NameTaken" 341 (.ref 128), en w "TransactionOpen" 357 (.ref 140), en w "Ended" 373 (.ref 152), en w "InvalidStep" 389 (.ref 164), en w "InvalidNumber" 405 (.ref 176), en w "InvalidGraph" 421 (.ref 188), en w "InvalidRun" 437 (.ref 200), en w "InvalidWay" 453 (.ref 212), en w "InvalidText" 480 (.ref 233), en w "Conflict" 507 (.ref 254), en w "Full" 536 (.ref 275), en w "TooLarge" 565 (.ref 296), en w "LETTERS" 569 (.str "abcdefghijklmnopqrstuvwxyz" 568), en w "SIGNS" 571 (.str "abcdefghijklmnopqrstuvwxyz0123456789" 570), en w "LONGEST" 573 (.int (6) 572), en w "RULES" 577 (.ref 299), en w "is_between" 586 (.ref 306), en w "is_string_of" 592 (.ref 311), en w "is_name" 599 (.ref 318), en w "is_word" 606 (.ref 325), en w "need_name" 613 (.ref 332), en w "need_word" 620 (.ref 339), en w "need_rule" 627 (.ref 346), en w "Notice" 690 (.ref 391), en w "need_notice" 697 (.ref 402), en w "notice_in" 707 (.ref 409), en w "once" 717 (.ref 416), en w "folded" 725 (.ref 423), en w "Batch" 852 (.ref 515), en w "MOST_NODES" 856 (.int (6) 855), en w "MOST_EDGES" 858 (.int (3) 857), en w "MOST_REPAIRED" 860 (.int (8) 859), en w "OTHER" 863 (.int (-1) 862), en w "are_nodes" 873 (.ref 526), en w "are_finals" 879 (.ref 531), en w "Graph" 938 (.ref 567), en w "Question" 1034 (.ref 644), en w "STEPS" 1045 (.ref 649), en w "UPDATES" 1049 (.ref 650), en w "READ" 1051 (.str "read" 1050), en w "MANY" 1053 (.int (2) 1052), en w "is_mirror_step" 1060 (.ref 657), en w "Mirror" 1110 (.ref 697), en w "Watch" 1215 (.ref 772), en w "Stale" 1290 (.ref 826), en w "Back" 1355 (.ref 878), en w "Keeper" 1451 (.ref 948), en w "LENGTHS" 1466 (.ref 953), en w "Transaction" 1622 (.ref 1078), en w "do_step" 1630 (.ref 1089), en w "MOST" 1634 (.int (200) 1633), en w "Member" 1673 (.ref 1113), en w "Sender" 1707 (.ref 1141), en w "Listener" 1773 (.ref 1196), en w "Client" 1796 (.ref 1215), en w "MOST_CELLS" 1800 (.int (6) 1799), en w "MOST_ROOM" 1802 (.int (200) 1801), en w "Store" 1905 (.ref 1294), en w "WAYS" 1910 (.ref 1299), en w "MOST_WORDS" 1912 (.int (3) 1911), en w "BITS" 1916 (.ref 1300), en w "is_writer_step" 1923 (.ref 1307), en w "words_of" 1929 (.ref 1312), en w "Writer" 1990 (.ref 1359), en w "Lies" 2075 (.ref 1415), en w "_law_rest" 2085 (.ref 1424), en w "_law_draw" 2095 (.ref 1431), en w "_law_pick" 2103 (.ref 1438), en w "_law_mirror_step" 2111 (.ref 1445), en w "_law_mirror_nodes" 2117 (.ref 1450), en w "_law_writer_step" 2125 (.ref 1457), en w "_law_writer_nodes" 2131 (.ref 1462), en w "_law_final_run" 2144 (.ref 1469), en w "_law_written" 2150 (.ref 1474), en w "_law_lies" 2159 (.ref 1481), en w "_law_pen" 2166 (.ref 1488), en w "_law_cell_at" 2174 (.ref 1495), en w "_law_pens" 2180 (.ref 1500), en w "_law_rule" 2187 (.ref 1507), en w "_law_start" 2193 (.ref 1514), en w "_law_alone" 2206 (.ref 1521), en w "_law_within" 2219 (.ref 1528), en w "_law_after" 2232 (.ref 1535), en w "_law_replayed" 2245 (.ref 1542), en w "_law_cut_at_rest" 2257 (.ref 1549), en w "_law_mirror_drawn" 2270 (.ref 1556), en w "_law_good_mirror" 2280 (.ref 1563), en w "_law_honest" 2298 (.ref 1570), en w "_law_committed" 2309 (.ref 1577), en w "law" 2326 (.ref 1584)]⟩ 108, ⟨[]⟩⟩
def o_2 (w : World) : Obj := ⟨.none, none, .dict ⟨[]⟩ 0, ⟨[]⟩⟩
def o_391 (w : World) : Obj := ⟨(.type "type"), none, .cls { name := "Notice", bases := [(.type "object")], mro := [(.ref 391), (.type "object")], ns := 390, qualname := "Notice", hasDict := true, slotNames := [], subclasses := [], abstract := false, collection := none, hasDel := false }, ⟨[none, none, (some (.str "Notice" 628)), (some (.str "Notice" 636)), (some (.builtin "object.__new__")), (some (.bool true))]⟩⟩
def o_390 (w : World) : Obj := ⟨(.type "dict"), none, .dict ⟨[en w "__module__" 635 (.str "closenews.notices" 566), en w "__firstlineno__" 639 (.int (81) 638), en w "__init__" 648 (.ref 360), en w "__eq__" 656 (.ref 367), en w "__lt__" 664 (.ref 374), en w "__le__" 672 (.ref 381), en w "__repr__" 679 (.ref 388), en w "__static_attributes__" 682 (.ref 389), en w "__dict__" 684 (.ref 392), en w "__weakref__" 686 (.ref 393), en w "__doc__" 687 .none, en w "__hash__" 688 .none]⟩ 5, ⟨[]⟩⟩
def o_515 (w : World) : Obj := ⟨(.type "type"), none, .cls { name := "Batch", bases := [(.type "object")], mro := [(.ref 515), (.type "object")], ns := 514, qualname := "Batch", hasDict := true, slotNames := [], subclasses := [], abstract := false, collection := none, hasDel := false }, ⟨[none, none, (some (.str "Batch" 726)), (some (.str "Batch" 734)), (some (.builtin "object.__new__")), (some (.bool true))]⟩⟩
def o_514 (w : World) : Obj := ⟨(.type "dict"), none, .dict ⟨[en w "__module__" 733 (.str "closenews.notices" 566), en w "__firstlineno__" 737 (.int (128) 736), en w "__init__" 747 (.ref 437), en w "__len__" 754 (.ref 444), en w "__bool__" 761 (.ref 451), en w "__contains__" 767 (.ref 456), en w "__eq__" 775 (.ref 463), en w "__add__" 783 (.ref 470), en w "__radd__" 791 (.ref 477), en w "__str__" 797 (.ref 482), en w "__repr__" 803 (.ref 487), en w "begins" 811 (.ref 494), en w "part" 817 (.ref 499), en w "words" 823 (.ref 504), en w "read" 841 (.ref 511), en w "__static_attributes__" 844 (.ref 513), en w "__dict__" 846 (.ref 516), en w "__weakref__" 848 (.ref 517), en w "__doc__" 849 .none, en w "__hash__" 850 .none]⟩ 5, ⟨[]⟩⟩
def o_567 (w : World) : Obj := ⟨(.type "type"), none, .cls { name := "Graph", bases := [(.type "object")], mro := [(.ref 567), (.type "object")], ns := 566, qualname := "Graph", hasDict := true, slotNames := [], subclasses := [(.ref 697), (.ref 1359)], abstract := false, collection := none, hasDel := false }, ⟨[none, none, (some (.str "Graph" 880)), (some (.str "Graph" 888)), (some (.builtin "object.__new__")), (some (.bool true))]⟩⟩
def o_566 (w : World) : Obj := ⟨(.type "dict"), none, .dict ⟨[en w "__module__" 887 (.str "closenews.graphs" 853), en w "__firstlineno__" 891 (.int (214) 890), en w "__init__" 900 (.ref 545), en w "followed" 913 (.ref 552), en w "places" 919 (.ref 557), en w "with_more" 928 (.ref 564), en w "__static_attributes__" 931 (.ref 565), en w "__dict__" 933 (.ref 568), en w "__weakref__" 935 (.ref 569), en w "__doc__" 936 .none]⟩ 4, ⟨[]⟩⟩
def o_644 (w : World) : Obj := ⟨(.type "type"), none, .cls { name := "Question", bases := [(.type "object")], mro := [(.ref 644), (.type "object")], ns := 643, qualname := "Question", hasDict := true, slotNames := [], subclasses := [(.ref 772), (.ref 1415)], abstract := false, collection := none, hasDel := false }, ⟨[none, none, (some (.str "Question" 939)), (some (.str "Question" 947)), (some (.builtin "object.__new__")), (some (.bool true))]⟩⟩
def o_643 (w : World) : Obj := ⟨(.type "dict"), none, .dict ⟨[en w "__module__" 946 (.str "closenews.graphs" 853), en w "__firstlineno__" 950 (.int (243) 949), en w "__init__" 958 (.ref 585), en w "first" 965 (.ref 592), en w "moves" 973 (.ref 599), en w "is_bad" 981 (.ref 606), en w "is_state" 989 (.ref 613), en w "reached" 1001 (.ref 620), en w "run" 1010 (.ref 627), en w "table" 1017 (.ref 634), en w "holds" 1025 (.ref 641), en w "__static_attributes__" 1027 (.ref 642), en w "__dict__" 1029 (.ref 645), en w "__weakref__" 1031 (.ref 646), en w "__doc__" 1032 .none]⟩ 4, ⟨[]⟩⟩
def o_697 (w : World) : Obj := ⟨(.type "type"), none, .cls { name := "Mirror", bases := [(.ref 567)], mro := [(.ref 697), (.ref 567), (.type "object")], ns := 696, qualname := "Mirror", hasDict := true, slotNames := [], subclasses := [], abstract := false, collection := none, hasDel := false }, ⟨[(some (.ref 658)), none, (some (.str "Mirror" 1061)), (some (.str "Mirror" 1069)), (some (.builtin "object.__new__")), (some (.bool true))]⟩⟩
def o_696 (w : World) : Obj := ⟨(.type "dict"), none, .dict ⟨[en w "__module__" 1068 (.str "closenews.mirrors" 1035), en w "__firstlineno__" 1072 (.int (290) 1071), en w "__init__" 1082 (.ref 673), en w "steps" 1090 (.ref 680), en w "question" 1098 (.ref 687), en w "least_repair" 1105 (.ref 694), en w "__static_attributes__" 1106 (.ref 695), en w "__doc__" 1108 .none]⟩ 3, ⟨[]⟩⟩
def o_772 (w : World) : Obj := ⟨(.type "type"), none, .cls { name := "Watch", bases := [(.ref 644)], mro := [(.ref 772), (.ref 644), (.type "object")], ns := 771, qualname := "Watch", hasDict := true, slotNames := [], subclasses := [(.ref 826), (.ref 878)], abstract := false, collection := none, hasDel := false }, ⟨[(some (.ref 700)), none, (some (.str "Watch" 1111)), (some (.str "Watch" 1119)), (some (.builtin "object.__new__")), (some (.bool true))]⟩⟩
def o_771 (w : World) : Obj := ⟨(.type "dict"), none, .dict ⟨[en w "__module__" 1118 (.str "closenews.mirrors" 1035), en w "__firstlineno__" 1122 (.int (309) 1121), en w "begun" 1130 (.ref 713), en w "lost" 1138 (.ref 720), en w "copied" 1147 (.ref 727), en w "received" 1155 (.ref 734), en w "told" 1164 (.ref 741), en w "behind" 1174 (.ref 748), en w "alone" 1184 (.ref 755), en w "within" 1197 (.ref 762), en w "moves" 1211 (.ref 769), en w "__static_attributes__" 1212 (.ref 770), en w "__doc__" 1213 .none]⟩ 2, ⟨[]⟩⟩
def o_826 (w : World) : Obj := ⟨(.type "type"), none, .cls { name := "Stale", bases := [(.ref 772)], mro := [(.ref 826), (.ref 772), (.ref 644), (.type "object")], ns := 825, qualname := "Stale", hasDict := true, slotNames := [], subclasses := [], abstract := false, collection := none, hasDel := false }, ⟨[(some (.ref 775)), none, (some (.str "Stale" 1216)), (some (.str "Stale" 1224)), (some (.builtin "object.__new__")), (some (.bool true))]⟩⟩
def o_825 (w : World) : Obj := ⟨(.type "dict"), none, .dict ⟨[en w "__module__" 1223 (.str "closenews.mirrors" 1035), en w "__firstlineno__" 1227 (.int (367) 1226), en w "lost" 1235 (.ref 788), en w "copied" 1244 (.ref 795), en w "received" 1252 (.ref 802), en w "told" 1264 (.ref 809), en w "is_bad" 1278 (.ref 816), en w "is_state" 1286 (.ref 823), en w "__static_attributes__" 1287 (.ref 824), en w "__doc__" 1288 .none]⟩ 2, ⟨[]⟩⟩
def o_948 (w : World) : Obj := ⟨(.type "type"), none, .cls { name := "Keeper", bases := [(.type "object")], mro := [(.ref 948), (.type "object")], ns := 947, qualname := "Keeper", hasDict := true, slotNames := [], subclasses := [], abstract := false, collection := none, hasDel := false }, ⟨[none, none, (some (.str "Keeper" 1356)), (some (.str "Keeper" 1364)), (some (.builtin "object.__new__")), (some (.bool true))]⟩⟩
def o_947 (w : World) : Obj := ⟨(.type "dict"), none, .dict ⟨[en w "__module__" 1363 (.str "closenews.mirrors" 1035), en w "__firstlineno__" 1367 (.int (412) 1366), en w "__init__" 1377 (.ref 894), en w "held" 1385 (.ref 902), en w "seen" 1393 (.ref 910), en w "__call__" 1401 (.ref 917), en w "keep" 1411 (.ref 924), en w "alone" 1419 (.ref 931), en w "within" 1427 (.ref 938), en w "update" 1437 (.ref 945), en w "__static_attributes__" 1444 (.ref 946), en w "__dict__" 1446 (.ref 949), en w "__weakref__" 1448 (.ref 950), en w "__doc__" 1449 .none]⟩ 4, ⟨[]⟩⟩
def o_1078 (w : World) : Obj := ⟨(.type "type"), none, .cls { name := "Transaction", bases := [(.type "object")], mro := [(.ref 1078), (.type "object")], ns := 1077, qualname := "Transaction", hasDict := true, slotNames := [], subclasses := [], abstract := false, collection := none, hasDel := false }, ⟨[none, none, (some (.str "Transaction" 1467)), (some (.str "Transaction" 1475)), (some (.builtin "object.__new__")), (some (.bool true))]⟩⟩
def o_1077 (w : World) : Obj := ⟨(.type "dict"), none, .dict ⟨[en w "__module__" 1474 (.str "closenews.transactions" 1452), en w "__firstlineno__" 1478 (.int (483) 1477), en w "__init__" 1487 (.ref 967), en w "is_open" 1495 (.ref 975), en w "need_open" 1502 (.ref 982), en w "need_cell" 1510 (.ref 989), en w "__iter__" 1517 (.ref 996), en w "__getitem__" 1525 (.ref 1003), en w "__setitem__" 1534 (.ref 1010), en w "__iadd__" 1542 (.ref 1017), en w "changes" 1548 (.ref 1022), en w "wishes" 1554 (.ref 1027), en w "listen" 1560 (.ref 1032), en w "unlisten" 1566 (.ref 1037), en w "batch" 1572 (.ref 1042), en w "savepoint" 1579 (.ref 1049), en w "rollback_to" 1587 (.ref 1056), en w "rollback" 1594 (.ref 1063), en w "end" 1601 (.ref 1070), en w "commit" 1607 (.ref 1075), en w "__static_attributes__" 1615 (.ref 1076), en w "__dict__" 1617 (.ref 1079), en w "__weakref__" 1619 (.ref 1080), en w "__doc__" 1620 .none]⟩ 4, ⟨[]⟩⟩
def o_1113 (w : World) : Obj := ⟨(.type "type"), none, .cls { name := "Member", bases := [(.type "object")], mro := [(.ref 1113), (.type "object")], ns := 1112, qualname := "Member", hasDict := true, slotNames := [], subclasses := [(.ref 1141), (.ref 1196)], abstract := false, collection := none, hasDel := false }, ⟨[none, none, (some (.str "Member" 1635)), (some (.str "Member" 1643)), (some (.builtin "object.__new__")), (some (.bool true))]⟩⟩
def o_1112 (w : World) : Obj := ⟨(.type "dict"), none, .dict ⟨[en w "__module__" 1642 (.str "closenews.clients" 1631), en w "__firstlineno__" 1646 (.int (596) 1645), en w "__init__" 1655 (.ref 1103), en w "need_no_work" 1662 (.ref 1110), en w "__static_attributes__" 1666 (.ref 1111), en w "__dict__" 1668 (.ref 1114), en w "__weakref__" 1670 (.ref 1115), en w "__doc__" 1671 .none]⟩ 4, ⟨[]⟩⟩
def o_1141 (w : World) : Obj := ⟨(.type "type"), none, .cls { name := "Sender", bases := [(.ref 1113)], mro := [(.ref 1141), (.ref 1113), (.type "object")], ns := 1140, qualname := "Sender", hasDict := true, slotNames := [], subclasses := [(.ref 1215)], abstract := false, collection := none, hasDel := false }, ⟨[(some (.ref 1118)), none, (some (.str "Sender" 1674)), (some (.str "Sender" 1682)), (some (.builtin "object.__new__")), (some (.bool true))]⟩⟩
def o_1140 (w : World) : Obj := ⟨(.type "dict"), none, .dict ⟨[en w "__module__" 1681 (.str "closenews.clients" 1631), en w "__firstlineno__" 1685 (.int (606) 1684), en w "begin" 1692 (.ref 1131), en w "run" 1702 (.ref 1138), en w "__static_attributes__" 1704 (.ref 1139), en w "__doc__" 1705 .none]⟩ 2, ⟨[]⟩⟩
def o_1196 (w : World) : Obj := ⟨(.type "type"), none, .cls { name := "Listener", bases := [(.ref 1113)], mro := [(.ref 1196), (.ref 1113), (.type "object")], ns := 1195, qualname := "Listener", hasDict := true, slotNames := [], subclasses := [(.ref 1215)], abstract := false, collection := none, hasDel := false }, ⟨[(some (.ref 1144)), none, (some (.str "Listener" 1708)), (some (.str "Listener" 1716)), (some (.builtin "object.__new__")), (some (.bool true))]⟩⟩
def o_1195 (w : World) : Obj := ⟨(.type "dict"), none, .dict ⟨[en w "__module__" 1715 (.str "closenews.clients" 1631), en w "__firstlineno__" 1719 (.int (622) 1718), en w "__init__" 1729 (.ref 1159), en w "channels" 1737 (.ref 1167), en w "lag" 1745 (.ref 1175), en w "behind" 1751 (.ref 1180), en w "receive" 1759 (.ref 1186), en w "disconnect" 1766 (.ref 1193), en w "__static_attributes__" 1769 (.ref 1194), en w "__doc__" 1771 .none]⟩ 3, ⟨[]⟩⟩
def o_1215 (w : World) : Obj := ⟨(.type "type"), none, .cls { name := "Client", bases := [(.ref 1141), (.ref 1196)], mro := [(.ref 1215), (.ref 1141), (.ref 1196), (.ref 1113), (.type "object")], ns := 1214, qualname := "Client", hasDict := true, slotNames := [], subclasses := [], abstract := false, collection := none, hasDel := false }, ⟨[(some (.ref 1199)), none, (some (.str "Client" 1774)), (some (.str "Client" 1782)), (some (.builtin "object.__new__")), (some (.bool true))]⟩⟩
def o_1214 (w : World) : Obj := ⟨(.type "dict"), none, .dict ⟨[en w "__module__" 1781 (.str "closenews.clients" 1631), en w "__firstlineno__" 1785 (.int (666) 1784), en w "__repr__" 1792 (.ref 1212), en w "__static_attributes__" 1793 (.ref 1213), en w "__doc__" 1794 .none]⟩ 2, ⟨[]⟩⟩
def o_1294 (w : World) : Obj := ⟨(.type "type"), none, .cls { name := "Store", bases := [(.type "object")], mro := [(.ref 1294), (.type "object")], ns := 1293, qualname := "Store", hasDict := true, slotNames := [], subclasses := [], abstract := false, collection := none, hasDel := false }, ⟨[none, none, (some (.str "Store" 1803)), (some (.str "Store" 1811)), (some (.builtin "object.__new__")), (some (.bool true))]⟩⟩
def o_1293 (w : World) : Obj := ⟨(.type "dict"), none, .dict ⟨[en w "__module__" 1810 (.str "closenews.store" 1797), en w "__firstlineno__" 1814 (.int (673) 1813), en w "__init__" 1822 (.ref 1230), en w "present" 1830 (.ref 1237), en w "client" 1838 (.ref 1244), en w "keep" 1844 (.ref 1249), en w "commits" 1852 (.ref 1256), en w "waiting" 1859 (.ref 1262), en w "room" 1867 (.ref 1270), en w "resize" 1875 (.ref 1277), en w "slowest" 1882 (.ref 1284), en w "missed" 1891 (.ref 1291), en w "__static_attributes__" 1898 (.ref 1292), en w "__dict__" 1900 (.ref 1295), en w "__weakref__" 1902 (.ref 1296), en w "__doc__" 1903 .none]⟩ 4, ⟨[]⟩⟩
def o_1359 (w : World) : Obj := ⟨(.type "type"), none, .cls { name := "Writer", bases := [(.ref 567)], mro := [(.ref 1359), (.ref 567), (.type "object")], ns := 1358, qualname := "Writer", hasDict := true, slotNames := [], subclasses := [], abstract := false, collection := none, hasDel := false }, ⟨[(some (.ref 1313)), none, (some (.str "Writer" 1930)), (some (.str "Writer" 1938)), (some (.builtin "object.__new__")), (some (.bool true))]⟩⟩
def o_1358 (w : World) : Obj := ⟨(.type "dict"), none, .dict ⟨[en w "__module__" 1937 (.str "closenews.writers" 1906), en w "__firstlineno__" 1941 (.int (742) 1940), en w "__init__" 1951 (.ref 1328), en w "steps" 1959 (.ref 1335), en w "question" 1968 (.ref 1342), en w "endings" 1976 (.ref 1349), en w "least_repair" 1985 (.ref 1356), en w "__static_attributes__" 1986 (.ref 1357), en w "__doc__" 1988 .none]⟩ 3, ⟨[]⟩⟩
def o_31 (w : World) : Obj := ⟨(.type "type"), none, .cls { name := "NewsError", bases := [(.type "ValueError")], mro := [(.ref 31), (.type "ValueError"), (.type "Exception"), (.type "BaseException"), (.type "object")], ns := 30, qualname := "NewsError", hasDict := true, slotNames := [], subclasses := [(.ref 44), (.ref 56), (.ref 68), (.ref 80), (.ref 92), (.ref 104), (.ref 116), (.ref 128), (.ref 140), (.ref 152), (.ref 164), (.ref 176), (.ref 188), (.ref 200), (.ref 212), (.ref 233), (.ref 254), (.ref 275), (.ref 296)], abstract := false, collection := none, hasDel := false }, ⟨[(some (.ref 22)), none, (some (.str "NewsError" 196)), (some (.str "NewsError" 204)), (some (.builtin "ValueError.__new__")), (some (.bool true))]⟩⟩
def o_30 (w : World) : Obj := ⟨(.type "dict"), none, .dict ⟨[en w "__module__" 203 (.str "closenews.errors" 194), en w "__firstlineno__" 207 (.int (5) 206), en w "__static_attributes__" 208 (.ref 29), en w "__weakref__" 210 (.ref 32), en w "__doc__" 211 .none]⟩ 3, ⟨[]⟩⟩
def o_649 (w : World) : Obj := ⟨(.type "tuple"), none, .seq ⟨[(.str "begin" 1037), (.str "commit" 1038), (.str "rollback" 1039), (.str "listen" 1040), (.str "unlisten" 1041), (.str "read" 1042), (.str "receive" 1043), (.str "disconnect" 1044)]⟩ 0, ⟨[]⟩⟩
def o_299 (w : World) : Obj := ⟨(.type "tuple"), none, .seq ⟨[(.str "first" 574), (.str "last" 575), (.str "all" 576)]⟩ 0, ⟨[]⟩⟩
def o_650 (w : World) : Obj := ⟨(.type "tuple"), none, .seq ⟨[(.str "take" 1046), (.str "newer" 1047), (.str "reread" 1048)]⟩ 0, ⟨[]⟩⟩
def o_953 (w : World) : Obj := ⟨(.type "dict"), none, .dict ⟨[en w "set" 1454 (.int (3) 1455), en w "say" 1456 (.int (3) 1457), en w "listen" 1458 (.int (2) 1459), en w "unlisten" 1460 (.int (2) 1461)]⟩ 4, ⟨[]⟩⟩
def o_902 (w : World) : Obj := ⟨(.type "property"), none, .fields ⟨[(.ref 901), .none, .none, .none, (.str "held" 1385), (.bool false)]⟩, ⟨[]⟩⟩
def o_1270 (w : World) : Obj := ⟨(.type "property"), none, .fields ⟨[(.ref 1269), .none, .none, .none, (.str "room" 1867), (.bool false)]⟩, ⟨[]⟩⟩
def o_306 (w : World) : Obj := ⟨(.type "function"), none, .func { name := "is_between", qualname := "is_between", params := defArgs s_is_between, body := .stmts (defBody s_is_between), scope := defScope s_is_between, globals := 3, closure := [], defaults := .none, kwdefaults := .none, doc := .none, pyModule := (.str "closenews.notices" 566), annotations := none, code := (.ref 305), closureTuple := .none, builtins := 0 }, ⟨[]⟩⟩
def o_305 (w : World) : Obj := ⟨(.type "code"), none, .fields ⟨[(.str "is_between" 578), (.str "is_between" 579), (.str "/claim/cut.py" 580), (.int (64) 0), (.int (3) 0), (.int (0) 0), (.int (0) 0), (.int (3) 0), (.ref 300), (.bool true), (.int (181) 0), (.ref 301), .none, (.ref 302), (.ref 303), (.ref 304), (.int (584) 0), (.int (64) 0), (.str "/claim/cut.py" 585)]⟩, ⟨[]⟩⟩
def o_311 (w : World) : Obj := ⟨(.type "function"), none, .func { name := "is_string_of", qualname := "is_string_of", params := defArgs s_is_string_of, body := .stmts (defBody s_is_string_of), scope := defScope s_is_string_of, globals := 3, closure := [], defaults := .none, kwdefaults := .none, doc := .none, pyModule := (.str "closenews.notices" 566), annotations := none, code := (.ref 310), closureTuple := .none, builtins := 0 }, ⟨[]⟩⟩
def o_310 (w : World) : Obj := ⟨(.type "code"), none, .fields ⟨[(.str "is_string_of" 587), (.str "is_string_of" 588), (.str "/claim/cut.py" 589), (.int (66) 0), (.int (2) 0), (.int (0) 0), (.int (0) 0), (.int (3) 0), (.ref 307), (.bool true), (.int (181) 0), (.ref 308), .none, .none, .none, (.ref 309), (.int (590) 0), (.int (66) 0), (.str "/claim/cut.py" 591)]⟩, ⟨[]⟩⟩
def o_318 (w : World) : Obj := ⟨(.type "function"), none, .func { name := "is_name", qualname := "is_name", params := defArgs s_is_name, body := .stmts (defBody s_is_name), scope := defScope s_is_name, globals := 3, closure := [], defaults := .none, kwdefaults := .none, doc := .none, pyModule := (.str "closenews.notices" 566), annotations := none, code := (.ref 317), closureTuple := .none, builtins := 0 }, ⟨[]⟩⟩
def o_317 (w : World) : Obj := ⟨(.type "code"), none, .fields ⟨[(.str "is_name" 593), (.str "is_name" 594), (.str "/claim/cut.py" 595), (.int (68) 0), (.int (1) 0), (.int (0) 0), (.int (0) 0), (.int (3) 0), (.ref 312), (.bool true), (.int (181) 0), (.ref 313), .none, (.ref 314), (.ref 315), (.ref 316), (.int (597) 0), (.int (68) 0), (.str "/claim/cut.py" 598)]⟩, ⟨[]⟩⟩
def o_325 (w : World) : Obj := ⟨(.type "function"), none, .func { name := "is_word", qualname := "is_word", params := defArgs s_is_word, body := .stmts (defBody s_is_word), scope := defScope s_is_word, globals := 3, closure := [], defaults := .none, kwdefaults := .none, doc := .none, pyModule := (.str "closenews.notices" 566), annotations := none, code := (.ref 324), closureTuple := .none, builtins := 0 }, ⟨[]⟩⟩
def o_324 (w : World) : Obj := ⟨(.type "code"), none, .fields ⟨[(.str "is_word" 600), (.str "is_word" 601), (.str "/claim/cut.py" 602), (.int (70) 0), (.int (1) 0), (.int (0) 0), (.int (0) 0), (.int (3) 0), (.ref 319), (.bool true), (.int (181) 0), (.ref 320), .none, (.ref 321), (.ref 322), (.ref 323), (.int (604) 0), (.int (70) 0), (.str "/claim/cut.py" 605)]⟩, ⟨[]⟩⟩
def o_332 (w : World) : Obj := ⟨(.type "function"), none, .func { name := "need_name", qualname := "need_name", params := defArgs s_need_name, body := .stmts (defBody s_need_name), scope := defScope s_need_name, globals := 3, closure := [], defaults := .none, kwdefaults := .none, doc := .none, pyModule := (.str "closenews.notices" 566), annotations := none, code := (.ref 331), closureTuple := .none, builtins := 0 }, ⟨[]⟩⟩
def o_331 (w : World) : Obj := ⟨(.type "code"), none, .fields ⟨[(.str "need_name" 607), (.str "need_name" 608), (.str "/claim/cut.py" 609), (.int (72) 0), (.int (1) 0), (.int (0) 0), (.int (0) 0), (.int (3) 0), (.ref 326), (.bool true), (.int (181) 0), (.ref 327), .none, (.ref 328), (.ref 329), (.ref 330), (.int (611) 0), (.int (72) 0), (.str "/claim/cut.py" 612)]⟩, ⟨[]⟩⟩
def o_339 (w : World) : Obj := ⟨(.type "function"), none, .func { name := "need_word", qualname := "need_word", params := defArgs s_need_word, body := .stmts (defBody s_need_word), scope := defScope s_need_word, globals := 3, closure := [], defaults := .none, kwdefaults := .none, doc := .none, pyModule := (.str "closenews.notices" 566), annotations := none, code := (.ref 338), closureTuple := .none, builtins := 0 }, ⟨[]⟩⟩
def o_338 (w : World) : Obj := ⟨(.type "code"), none, .fields ⟨[(.str "need_word" 614), (.str "need_word" 615), (.str "/claim/cut.py" 616), (.int (75) 0), (.int (1) 0), (.int (0) 0), (.int (0) 0), (.int (3) 0), (.ref 333), (.bool true), (.int (181) 0), (.ref 334), .none, (.ref 335), (.ref 336), (.ref 337), (.int (618) 0), (.int (75) 0), (.str "/claim/cut.py" 619)]⟩, ⟨[]⟩⟩
def o_346 (w : World) : Obj := ⟨(.type "function"), none, .func { name := "need_rule", qualname := "need_rule", params := defArgs s_need_rule, body := .stmts (defBody s_need_rule), scope := defScope s_need_rule, globals := 3, closure := [], defaults := .none, kwdefaults := .none, doc := .none, pyModule := (.str "closenews.notices" 566), annotations := none, code := (.ref 345), closureTuple := .none, builtins := 0 }, ⟨[]⟩⟩
def o_345 (w : World) : Obj := ⟨(.type "code"), none, .fields ⟨[(.str "need_rule" 621), (.str "need_rule" 622), (.str "/claim/cut.py" 623), (.int (78) 0), (.int (1) 0), (.int (0) 0), (.int (0) 0), (.int (3) 0), (.ref 340), (.bool true), (.int (181) 0), (.ref 341), .none, (.ref 342), (.ref 343), (.ref 344), (.int (625) 0), (.int (78) 0), (.str "/claim/cut.py" 626)]⟩, ⟨[]⟩⟩
def o_360 (w : World) : Obj := ⟨(.type "function"), none, .func { name := "__init__", qualname := "Notice.__init__", params := defArgs s_Notice_D_init_D, body := .stmts (defBody s_Notice_D_init_D), scope := defScope s_Notice_D_init_D, globals := 3, closure := [], defaults := .none, kwdefaults := .none, doc := .none, pyModule := (.str "closenews.notices" 566), annotations := none, code := (.ref 359), closureTuple := .none, builtins := 0 }, ⟨[]⟩⟩
def o_359 (w : World) : Obj := ⟨(.type "code"), none, .fields ⟨[(.str "__init__" 640), (.str "Notice.__init__" 641), (.str "/claim/cut.py" 642), (.int (83) 0), (.int (3) 0), (.int (0) 0), (.int (0) 0), (.int (3) 0), (.ref 354), (.bool true), (.int (181) 0), (.ref 355), .none, (.ref 356), (.ref 357), (.ref 358), (.int (646) 0), (.int (83) 0), (.str "/claim/cut.py" 647)]⟩, ⟨[]⟩⟩
def o_402 (w : World) : Obj := ⟨(.type "function"), none, .func { name := "need_notice", qualname := "need_notice", params := defArgs s_need_notice, body := .stmts (defBody s_need_notice), scope := defScope s_need_notice, globals := 3, closure := [], defaults := .none, kwdefaults := .none, doc := .none, pyModule := (.str "closenews.notices" 566), annotations := none, code := (.ref 401), closureTuple := .none, builtins := 0 }, ⟨[]⟩⟩
def o_401 (w : World) : Obj := ⟨(.type "code"), none, .fields ⟨[(.str "need_notice" 691), (.str "need_notice" 692), (.str "/claim/cut.py" 693), (.int (106) 0), (.int (1) 0), (.int (0) 0), (.int (0) 0), (.int (3) 0), (.ref 396), (.bool true), (.int (181) 0), (.ref 397), .none, (.ref 398), (.ref 399), (.ref 400), (.int (695) 0), (.int (106) 0), (.str "/claim/cut.py" 696)]⟩, ⟨[]⟩⟩
def o_416 (w : World) : Obj := ⟨(.type "function"), none, .func { name := "once", qualname := "once", params := defArgs s_once, body := .stmts (defBody s_once), scope := defScope s_once, globals := 3, closure := [], defaults := .none, kwdefaults := .none, doc := .none, pyModule := (.str "closenews.notices" 566), annotations := none, code := (.ref 415), closureTuple := .none, builtins := 0 }, ⟨[]⟩⟩
def o_415 (w : World) : Obj := ⟨(.type "code"), none, .fields ⟨[(.str "once" 708), (.str "once" 709), (.str "/claim/cut.py" 710), (.int (114) 0), (.int (1) 0), (.int (0) 0), (.int (0) 0), (.int (3) 0), (.ref 410), (.bool true), (.int (181) 0), (.ref 411), .none, (.ref 412), (.ref 413), (.ref 414), (.int (715) 0), (.int (114) 0), (.str "/claim/cut.py" 716)]⟩, ⟨[]⟩⟩
def o_423 (w : World) : Obj := ⟨(.type "function"), none, .func { name := "folded", qualname := "folded", params := defArgs s_folded, body := .stmts (defBody s_folded), scope := defScope s_folded, globals := 3, closure := [], defaults := .none, kwdefaults := .none, doc := .none, pyModule := (.str "closenews.notices" 566), annotations := none, code := (.ref 422), closureTuple := .none, builtins := 0 }, ⟨[]⟩⟩
def o_422 (w : World) : Obj := ⟨(.type "code"), none, .fields ⟨[(.str "folded" 718), (.str "folded" 719), (.str "/claim/cut.py" 720), (.int (122) 0), (.int (2) 0), (.int (0) 0), (.int (0) 0), (.int (3) 0), (.ref 417), (.bool true), (.int (181) 0), (.ref 418), .none, (.ref 419), (.ref 420), (.ref 421), (.int (723) 0), (.int (122) 0), (.str "/claim/cut.py" 724)]⟩, ⟨[]⟩⟩
def o_437 (w : World) : Obj := ⟨(.type "function"), none, .func { name := "__init__", qualname := "Batch.__init__", params := defArgs s_Batch_D_init_D, body := .stmts (defBody s_Batch_D_init_D), scope := defScope s_Batch_D_init_D, globals := 3, closure := [], defaults := .none, kwdefaults := .none, doc := .none, pyModule := (.str "closenews.notices" 566), annotations := none, code := (.ref 436), closureTuple := .none, builtins := 0 }, ⟨[]⟩⟩
def o_436 (w : World) : Obj := ⟨(.type "code"), none, .fields ⟨[(.str "__init__" 738), (.str "Batch.__init__" 739), (.str "/claim/cut.py" 740), (.int (130) 0), (.int (2) 0), (.int (0) 0), (.int (0) 0), (.int (7) 0), (.ref 431), (.bool true), (.int (181) 0), (.ref 432), .none, (.ref 433), (.ref 434), (.ref 435), (.int (745) 0), (.int (130) 0), (.str "/claim/cut.py" 746)]⟩, ⟨[]⟩⟩
def o_444 (w : World) : Obj := ⟨(.type "function"), none, .func { name := "__len__", qualname := "Batch.__len__", params := defArgs s_Batch_D_len_D, body := .stmts (defBody s_Batch_D_len_D), scope := defScope s_Batch_D_len_D, globals := 3, closure := [], defaults := .none, kwdefaults := .none, doc := .none, pyModule := (.str "closenews.notices" 566), annotations := none, code := (.ref 443), closureTuple := .none, builtins := 0 }, ⟨[]⟩⟩
def o_443 (w : World) : Obj := ⟨(.type "code"), none, .fields ⟨[(.str "__len__" 748), (.str "Batch.__len__" 749), (.str "/claim/cut.py" 750), (.int (137) 0), (.int (1) 0), (.int (0) 0), (.int (0) 0), (.int (3) 0), (.ref 438), (.bool true), (.int (181) 0), (.ref 439), .none, (.ref 440), (.ref 441), (.ref 442), (.int (752) 0), (.int (137) 0), (.str "/claim/cut.py" 753)]⟩, ⟨[]⟩⟩
def o_526 (w : World) : Obj := ⟨(.type "function"), none, .func { name := "are_nodes", qualname := "are_nodes", params := defArgs s_are_nodes, body := .stmts (defBody s_are_nodes), scope := defScope s_are_nodes, globals := 3, closure := [], defaults := .none, kwdefaults := .none, doc := .none, pyModule := (.str "closenews.graphs" 853), annotations := none, code := (.ref 525), closureTuple := .none, builtins := 0 }, ⟨[]⟩⟩
def o_525 (w : World) : Obj := ⟨(.type "code"), none, .fields ⟨[(.str "are_nodes" 864), (.str "are_nodes" 865), (.str "/claim/cut.py" 866), (.int (198) 0), (.int (2) 0), (.int (0) 0), (.int (0) 0), (.int (3) 0), (.ref 520), (.bool true), (.int (181) 0), (.ref 521), .none, (.ref 522), (.ref 523), (.ref 524), (.int (871) 0), (.int (198) 0), (.str "/claim/cut.py" 872)]⟩, ⟨[]⟩⟩
def o_531 (w : World) : Obj := ⟨(.type "function"), none, .func { name := "are_finals", qualname := "are_finals", params := defArgs s_are_finals, body := .stmts (defBody s_are_finals), scope := defScope s_are_finals, globals := 3, closure := [], defaults := .none, kwdefaults := .none, doc := .none, pyModule := (.str "closenews.graphs" 853), annotations := none, code := (.ref 530), closureTuple := .none, builtins := 0 }, ⟨[]⟩⟩
def o_530 (w : World) : Obj := ⟨(.type "code"), none, .fields ⟨[(.str "are_finals" 874), (.str "are_finals" 875), (.str "/claim/cut.py" 876), (.int (210) 0), (.int (2) 0), (.int (0) 0), (.int (0) 0), (.int (3) 0), (.ref 527), (.bool true), (.int (181) 0), (.ref 528), .none, .none, .none, (.ref 529), (.int (877) 0), (.int (210) 0), (.str "/claim/cut.py" 878)]⟩, ⟨[]⟩⟩
def o_545 (w : World) : Obj := ⟨(.type "function"), none, .func { name := "__init__", qualname := "Graph.__init__", params := defArgs s_Graph_D_init_D, body := .stmts (defBody s_Graph_D_init_D), scope := defScope s_Graph_D_init_D, globals := 3, closure := [], defaults := .none, kwdefaults := .none, doc := .none, pyModule := (.str "closenews.graphs" 853), annotations := none, code := (.ref 544), closureTuple := .none, builtins := 0 }, ⟨[]⟩⟩
def o_544 (w : World) : Obj := ⟨(.type "code"), none, .fields ⟨[(.str "__init__" 892), (.str "Graph.__init__" 893), (.str "/claim/cut.py" 894), (.int (216) 0), (.int (3) 0), (.int (0) 0), (.int (0) 0), (.int (3) 0), (.ref 539), (.bool true), (.int (181) 0), (.ref 540), .none, (.ref 541), (.ref 542), (.ref 543), (.int (898) 0), (.int (216) 0), (.str "/claim/cut.py" 899)]⟩, ⟨[]⟩⟩
def o_552 (w : World) : Obj := ⟨(.type "function"), none, .func { name := "followed", qualname := "Graph.followed", params := defArgs s_Graph_followed, body := .stmts (defBody s_Graph_followed), scope := defScope s_Graph_followed, globals := 3, closure := [], defaults := .none, kwdefaults := .none, doc := .none, pyModule := (.str "closenews.graphs" 853), annotations := none, code := (.ref 551), closureTuple := .none, builtins := 0 }, ⟨[]⟩⟩
def o_551 (w : World) : Obj := ⟨(.type "code"), none, .fields ⟨[(.str "followed" 901), (.str "Graph.followed" 902), (.str "/claim/cut.py" 903), (.int (220) 0), (.int (3) 0), (.int (0) 0), (.int (0) 0), (.int (3) 0), (.ref 546), (.bool true), (.int (181) 0), (.ref 547), .none, (.ref 548), (.ref 549), (.ref 550), (.int (911) 0), (.int (220) 0), (.str "/claim/cut.py" 912)]⟩, ⟨[]⟩⟩
def o_585 (w : World) : Obj := ⟨(.type "function"), none, .func { name := "__init__", qualname := "Question.__init__", params := defArgs s_Question_D_init_D, body := .stmts (defBody s_Question_D_init_D), scope := defScope s_Question_D_init_D, globals := 3, closure := [], defaults := .none, kwdefaults := .none, doc := .none, pyModule := (.str "closenews.graphs" 853), annotations := none, code := (.ref 584), closureTuple := .none, builtins := 0 }, ⟨[]⟩⟩
def o_584 (w : World) : Obj := ⟨(.type "code"), none, .fields ⟨[(.str "__init__" 951), (.str "Question.__init__" 952), (.str "/claim/cut.py" 953), (.int (245) 0), (.int (2) 0), (.int (0) 0), (.int (0) 0), (.int (3) 0), (.ref 579), (.bool true), (.int (181) 0), (.ref 580), .none, (.ref 581), (.ref 582), (.ref 583), (.int (956) 0), (.int (245) 0), (.str "/claim/cut.py" 957)]⟩, ⟨[]⟩⟩
def o_592 (w : World) : Obj := ⟨(.type "function"), none, .func { name := "first", qualname := "Question.first", params := defArgs s_Question_first, body := .stmts (defBody s_Question_first), scope := defScope s_Question_first, globals := 3, closure := [], defaults := .none, kwdefaults := .none, doc := .none, pyModule := (.str "closenews.graphs" 853), annotations := none, code := (.ref 591), closureTuple := .none, builtins := 0 }, ⟨[]⟩⟩
def o_591 (w : World) : Obj := ⟨(.type "code"), none, .fields ⟨[(.str "first" 959), (.str "Question.first" 960), (.str "/claim/cut.py" 961), (.int (248) 0), (.int (1) 0), (.int (0) 0), (.int (0) 0), (.int (3) 0), (.ref 586), (.bool true), (.int (181) 0), (.ref 587), .none, (.ref 588), (.ref 589), (.ref 590), (.int (963) 0), (.int (248) 0), (.str "/claim/cut.py" 964)]⟩, ⟨[]⟩⟩
def o_620 (w : World) : Obj := ⟨(.type "function"), none, .func { name := "reached", qualname := "Question.reached", params := defArgs s_Question_reached, body := .stmts (defBody s_Question_reached), scope := defScope s_Question_reached, globals := 3, closure := [], defaults := .none, kwdefaults := .none, doc := .none, pyModule := (.str "closenews.graphs" 853), annotations := none, code := (.ref 619), closureTuple := .none, builtins := 0 }, ⟨[]⟩⟩
def o_619 (w : World) : Obj := ⟨(.type "code"), none, .fields ⟨[(.str "reached" 990), (.str "Question.reached" 991), (.str "/claim/cut.py" 992), (.int (260) 0), (.int (1) 0), (.int (0) 0), (.int (0) 0), (.int (3) 0), (.ref 614), (.bool true), (.int (181) 0), (.ref 615), .none, (.ref 616), (.ref 617), (.ref 618), (.int (999) 0), (.int (260) 0), (.str "/claim/cut.py" 1000)]⟩, ⟨[]⟩⟩
def o_627 (w : World) : Obj := ⟨(.type "function"), none, .func { name := "run", qualname := "Question.run", params := defArgs s_Question_run, body := .stmts (defBody s_Question_run), scope := defScope s_Question_run, globals := 3, closure := [], defaults := .none, kwdefaults := .none, doc := .none, pyModule := (.str "closenews.graphs" 853), annotations := none, code := (.ref 626), closureTuple := .none, builtins := 0 }, ⟨[]⟩⟩
def o_626 (w : World) : Obj := ⟨(.type "code"), none, .fields ⟨[(.str "run" 1002), (.str "Question.run" 1003), (.str "/claim/cut.py" 1004), (.int (272) 0), (.int (1) 0), (.int (0) 0), (.int (0) 0), (.int (3) 0), (.ref 621), (.bool true), (.int (181) 0), (.ref 622), .none, (.ref 623), (.ref 624), (.ref 625), (.int (1008) 0), (.int (272) 0), (.str "/claim/cut.py" 1009)]⟩, ⟨[]⟩⟩
def o_657 (w : World) : Obj := ⟨(.type "function"), none, .func { name := "is_mirror_step", qualname := "is_mirror_step", params := defArgs s_is_mirror_step, body := .stmts (defBody s_is_mirror_step), scope := defScope s_is_mirror_step, globals := 3, closure := [], defaults := .none, kwdefaults := .none, doc := .none, pyModule := (.str "closenews.mirrors" 1035), annotations := none, code := (.ref 656), closureTuple := .none, builtins := 0 }, ⟨[]⟩⟩
def o_656 (w : World) : Obj := ⟨(.type "code"), none, .fields ⟨[(.str "is_mirror_step" 1054), (.str "is_mirror_step" 1055), (.str "/claim/cut.py" 1056), (.int (288) 0), (.int (1) 0), (.int (0) 0), (.int (0) 0), (.int (3) 0), (.ref 651), (.bool true), (.int (181) 0), (.ref 652), .none, (.ref 653), (.ref 654), (.ref 655), (.int (1058) 0), (.int (288) 0), (.str "/claim/cut.py" 1059)]⟩, ⟨[]⟩⟩
def o_673 (w : World) : Obj := ⟨(.type "function"), none, .func { name := "__init__", qualname := "Mirror.__init__", params := defArgs s_Mirror_D_init_D, body := .stmts (defBody s_Mirror_D_init_D), scope := defScope s_Mirror_D_init_D, globals := 3, closure := [("__class__", 661)], defaults := .none, kwdefaults := .none, doc := .none, pyModule := (.str "closenews.mirrors" 1035), annotations := none, code := (.ref 672), closureTuple := (.ref 666), builtins := 0 }, ⟨[]⟩⟩
def o_672 (w : World) : Obj := ⟨(.type "code"), none, .fields ⟨[(.str "__init__" 1073), (.str "Mirror.__init__" 1074), (.str "/claim/cut.py" 1075), (.int (292) 0), (.int (3) 0), (.int (0) 0), (.int (0) 0), (.int (3) 0), (.ref 667), (.bool true), (.int (181) 0), (.ref 668), .none, (.ref 669), (.ref 670), (.ref 671), (.int (1080) 0), (.int (292) 0), (.str "/claim/cut.py" 1081)]⟩, ⟨[]⟩⟩
def o_661 (w : World) : Obj := ⟨(.type "cell"), none, .cell (some (.ref 697)), ⟨[]⟩⟩
def o_680 (w : World) : Obj := ⟨(.type "function"), none, .func { name := "steps", qualname := "Mirror.steps", params := defArgs s_Mirror_steps, body := .stmts (defBody s_Mirror_steps), scope := defScope s_Mirror_steps, globals := 3, closure := [], defaults := .none, kwdefaults := .none, doc := .none, pyModule := (.str "closenews.mirrors" 1035), annotations := none, code := (.ref 679), closureTuple := .none, builtins := 0 }, ⟨[]⟩⟩
def o_679 (w : World) : Obj := ⟨(.type "code"), none, .fields ⟨[(.str "steps" 1083), (.str "Mirror.steps" 1084), (.str "/claim/cut.py" 1085), (.int (297) 0), (.int (2) 0), (.int (0) 0), (.int (0) 0), (.int (3) 0), (.ref 674), (.bool true), (.int (181) 0), (.ref 675), .none, (.ref 676), (.ref 677), (.ref 678), (.int (1088) 0), (.int (297) 0), (.str "/claim/cut.py" 1089)]⟩, ⟨[]⟩⟩
def o_687 (w : World) : Obj := ⟨(.type "function"), none, .func { name := "question", qualname := "Mirror.question", params := defArgs s_Mirror_question, body := .stmts (defBody s_Mirror_question), scope := defScope s_Mirror_question, globals := 3, closure := [], defaults := .none, kwdefaults := .none, doc := .none, pyModule := (.str "closenews.mirrors" 1035), annotations := none, code := (.ref 686), closureTuple := .none, builtins := 0 }, ⟨[]⟩⟩
def o_686 (w : World) : Obj := ⟨(.type "code"), none, .fields ⟨[(.str "question" 1091), (.str "Mirror.question" 1092), (.str "/claim/cut.py" 1093), (.int (300) 0), (.int (2) 0), (.int (0) 0), (.int (0) 0), (.int (3) 0), (.ref 681), (.bool true), (.int (181) 0), (.ref 682), .none, (.ref 683), (.ref 684), (.ref 685), (.int (1096) 0), (.int (300) 0), (.str "/claim/cut.py" 1097)]⟩, ⟨[]⟩⟩
def o_713 (w : World) : Obj := ⟨(.type "function"), none, .func { name := "begun", qualname := "Watch.begun", params := defArgs s_Watch_begun, body := .stmts (defBody s_Watch_begun), scope := defScope s_Watch_begun, globals := 3, closure := [], defaults := .none, kwdefaults := .none, doc := .none, pyModule := (.str "closenews.mirrors" 1035), annotations := none, code := (.ref 712), closureTuple := .none, builtins := 0 }, ⟨[]⟩⟩
def o_712 (w : World) : Obj := ⟨(.type "code"), none, .fields ⟨[(.str "begun" 1123), (.str "Watch.begun" 1124), (.str "/claim/cut.py" 1125), (.int (311) 0), (.int (2) 0), (.int (0) 0), (.int (0) 0), (.int (3) 0), (.ref 707), (.bool true), (.int (181) 0), (.ref 708), .none, (.ref 709), (.ref 710), (.ref 711), (.int (1128) 0), (.int (311) 0), (.str "/claim/cut.py" 1129)]⟩, ⟨[]⟩⟩
def o_748 (w : World) : Obj := ⟨(.type "function"), none, .func { name := "behind", qualname := "Watch.behind", params := defArgs s_Watch_behind, body := .stmts (defBody s_Watch_behind), scope := defScope s_Watch_behind, globals := 3, closure := [], defaults := .none, kwdefaults := .none, doc := .none, pyModule := (.str "closenews.mirrors" 1035), annotations := none, code := (.ref 747), closureTuple := .none, builtins := 0 }, ⟨[]⟩⟩
def o_747 (w : World) : Obj := ⟨(.type "code"), none, .fields ⟨[(.str "behind" 1165), (.str "Watch.behind" 1166), (.str "/claim/cut.py" 1167), (.int (326) 0), (.int (4) 0), (.int (0) 0), (.int (0) 0), (.int (3) 0), (.ref 742), (.bool true), (.int (181) 0), (.ref 743), .none, (.ref 744), (.ref 745), (.ref 746), (.int (1172) 0), (.int (326) 0), (.str "/claim/cut.py" 1173)]⟩, ⟨[]⟩⟩
def o_755 (w : World) : Obj := ⟨(.type "function"), none, .func { name := "alone", qualname := "Watch.alone", params := defArgs s_Watch_alone, body := .stmts (defBody s_Watch_alone), scope := defScope s_Watch_alone, globals := 3, closure := [], defaults := .none, kwdefaults := .none, doc := .none, pyModule := (.str "closenews.mirrors" 1035), annotations := none, code := (.ref 754), closureTuple := .none, builtins := 0 }, ⟨[]⟩⟩
def o_754 (w : World) : Obj := ⟨(.type "code"), none, .fields ⟨[(.str "alone" 1175), (.str "Watch.alone" 1176), (.str "/claim/cut.py" 1177), (.int (335) 0), (.int (4) 0), (.int (0) 0), (.int (0) 0), (.int (3) 0), (.ref 749), (.bool true), (.int (181) 0), (.ref 750), .none, (.ref 751), (.ref 752), (.ref 753), (.int (1182) 0), (.int (335) 0), (.str "/claim/cut.py" 1183)]⟩, ⟨[]⟩⟩
def o_762 (w : World) : Obj := ⟨(.type "function"), none, .func { name := "within", qualname := "Watch.within", params := defArgs s_Watch_within, body := .stmts (defBody s_Watch_within), scope := defScope s_Watch_within, globals := 3, closure := [], defaults := .none, kwdefaults := .none, doc := .none, pyModule := (.str "closenews.mirrors" 1035), annotations := none, code := (.ref 761), closureTuple := .none, builtins := 0 }, ⟨[]⟩⟩
def o_761 (w : World) : Obj := ⟨(.type "code"), none, .fields ⟨[(.str "within" 1185), (.str "Watch.within" 1186), (.str "/claim/cut.py" 1187), (.int (346) 0), (.int (4) 0), (.int (0) 0), (.int (0) 0), (.int (3) 0), (.ref 756), (.bool true), (.int (181) 0), (.ref 757), .none, (.ref 758), (.ref 759), (.ref 760), (.int (1195) 0), (.int (346) 0), (.str "/claim/cut.py" 1196)]⟩, ⟨[]⟩⟩
def o_769 (w : World) : Obj := ⟨(.type "function"), none, .func { name := "moves", qualname := "Watch.moves", params := defArgs s_Watch_moves, body := .stmts (defBody s_Watch_moves), scope := defScope s_Watch_moves, globals := 3, closure := [], defaults := .none, kwdefaults := .none, doc := .none, pyModule := (.str "closenews.mirrors" 1035), annotations := none, code := (.ref 768), closureTuple := .none, builtins := 0 }, ⟨[]⟩⟩
def o_768 (w : World) : Obj := ⟨(.type "code"), none, .fields ⟨[(.str "moves" 1198), (.str "Watch.moves" 1199), (.str "/claim/cut.py" 1200), (.int (360) 0), (.int (2) 0), (.int (0) 0), (.int (0) 0), (.int (3) 0), (.ref 763), (.bool true), (.int (181) 0), (.ref 764), .none, (.ref 765), (.ref 766), (.ref 767), (.int (1209) 0), (.int (360) 0), (.str "/claim/cut.py" 1210)]⟩, ⟨[]⟩⟩
def o_788 (w : World) : Obj := ⟨(.type "function"), none, .func { name := "lost", qualname := "Stale.lost", params := defArgs s_Stale_lost, body := .stmts (defBody s_Stale_lost), scope := defScope s_Stale_lost, globals := 3, closure := [], defaults := .none, kwdefaults := .none, doc := .none, pyModule := (.str "closenews.mirrors" 1035), annotations := none, code := (.ref 787), closureTuple := .none, builtins := 0 }, ⟨[]⟩⟩
def o_787 (w : World) : Obj := ⟨(.type "code"), none, .fields ⟨[(.str "lost" 1228), (.str "Stale.lost" 1229), (.str "/claim/cut.py" 1230), (.int (369) 0), (.int (2) 0), (.int (0) 0), (.int (0) 0), (.int (3) 0), (.ref 782), (.bool true), (.int (181) 0), (.ref 783), .none, (.ref 784), (.ref 785), (.ref 786), (.int (1233) 0), (.int (369) 0), (.str "/claim/cut.py" 1234)]⟩, ⟨[]⟩⟩
def o_795 (w : World) : Obj := ⟨(.type "function"), none, .func { name := "copied", qualname := "Stale.copied", params := defArgs s_Stale_copied, body := .stmts (defBody s_Stale_copied), scope := defScope s_Stale_copied, globals := 3, closure := [], defaults := .none, kwdefaults := .none, doc := .none, pyModule := (.str "closenews.mirrors" 1035), annotations := none, code := (.ref 794), closureTuple := .none, builtins := 0 }, ⟨[]⟩⟩
def o_794 (w : World) : Obj := ⟨(.type "code"), none, .fields ⟨[(.str "copied" 1236), (.str "Stale.copied" 1237), (.str "/claim/cut.py" 1238), (.int (372) 0), (.int (3) 0), (.int (0) 0), (.int (0) 0), (.int (3) 0), (.ref 789), (.bool true), (.int (181) 0), (.ref 790), .none, (.ref 791), (.ref 792), (.ref 793), (.int (1242) 0), (.int (372) 0), (.str "/claim/cut.py" 1243)]⟩, ⟨[]⟩⟩
def o_802 (w : World) : Obj := ⟨(.type "function"), none, .func { name := "received", qualname := "Stale.received", params := defArgs s_Stale_received, body := .stmts (defBody s_Stale_received), scope := defScope s_Stale_received, globals := 3, closure := [], defaults := .none, kwdefaults := .none, doc := .none, pyModule := (.str "closenews.mirrors" 1035), annotations := none, code := (.ref 801), closureTuple := .none, builtins := 0 }, ⟨[]⟩⟩
def o_801 (w : World) : Obj := ⟨(.type "code"), none, .fields ⟨[(.str "received" 1245), (.str "Stale.received" 1246), (.str "/claim/cut.py" 1247), (.int (375) 0), (.int (2) 0), (.int (0) 0), (.int (0) 0), (.int (3) 0), (.ref 796), (.bool true), (.int (181) 0), (.ref 797), .none, (.ref 798), (.ref 799), (.ref 800), (.int (1250) 0), (.int (375) 0), (.str "/claim/cut.py" 1251)]⟩, ⟨[]⟩⟩
def o_809 (w : World) : Obj := ⟨(.type "function"), none, .func { name := "told", qualname := "Stale.told", params := defArgs s_Stale_told, body := .stmts (defBody s_Stale_told), scope := defScope s_Stale_told, globals := 3, closure := [], defaults := .none, kwdefaults := .none, doc := .none, pyModule := (.str "closenews.mirrors" 1035), annotations := none, code := (.ref 808), closureTuple := .none, builtins := 0 }, ⟨[]⟩⟩
def o_808 (w : World) : Obj := ⟨(.type "code"), none, .fields ⟨[(.str "told" 1253), (.str "Stale.told" 1254), (.str "/claim/cut.py" 1255), (.int (378) 0), (.int (3) 0), (.int (0) 0), (.int (0) 0), (.int (3) 0), (.ref 803), (.bool true), (.int (181) 0), (.ref 804), .none, (.ref 805), (.ref 806), (.ref 807), (.int (1262) 0), (.int (378) 0), (.str "/claim/cut.py" 1263)]⟩, ⟨[]⟩⟩
def o_816 (w : World) : Obj := ⟨(.type "function"), none, .func { name := "is_bad", qualname := "Stale.is_bad", params := defArgs s_Stale_is_bad, body := .stmts (defBody s_Stale_is_bad), scope := defScope s_Stale_is_bad, globals := 3, closure := [], defaults := .none, kwdefaults := .none, doc := .none, pyModule := (.str "closenews.mirrors" 1035), annotations := none, code := (.ref 815), closureTuple := .none, builtins := 0 }, ⟨[]⟩⟩
def o_815 (w : World) : Obj := ⟨(.type "code"), none, .fields ⟨[(.str "is_bad" 1265), (.str "Stale.is_bad" 1266), (.str "/claim/cut.py" 1267), (.int (382) 0), (.int (2) 0), (.int (0) 0), (.int (0) 0), (.int (3) 0), (.ref 810), (.bool true), (.int (181) 0), (.ref 811), .none, (.ref 812), (.ref 813), (.ref 814), (.int (1276) 0), (.int (382) 0), (.str "/claim/cut.py" 1277)]⟩, ⟨[]⟩⟩
def o_894 (w : World) : Obj := ⟨(.type "function"), none, .func { name := "__init__", qualname := "Keeper.__init__", params := defArgs s_Keeper_D_init_D, body := .stmts (defBody s_Keeper_D_init_D), scope := defScope s_Keeper_D_init_D, globals := 3, closure := [], defaults := .none, kwdefaults := .none, doc := .none, pyModule := (.str "closenews.mirrors" 1035), annotations := none, code := (.ref 893), closureTuple := .none, builtins := 0 }, ⟨[]⟩⟩
def o_893 (w : World) : Obj := ⟨(.type "code"), none, .fields ⟨[(.str "__init__" 1368), (.str "Keeper.__init__" 1369), (.str "/claim/cut.py" 1370), (.int (414) 0), (.int (4) 0), (.int (0) 0), (.int (0) 0), (.int (3) 0), (.ref 888), (.bool true), (.int (181) 0), (.ref 889), .none, (.ref 890), (.ref 891), (.ref 892), (.int (1375) 0), (.int (414) 0), (.str "/claim/cut.py" 1376)]⟩, ⟨[]⟩⟩
def o_901 (w : World) : Obj := ⟨(.type "function"), none, .func { name := "held", qualname := "Keeper.held", params := defArgs s_Keeper_held, body := .stmts (defBody s_Keeper_held), scope := defScope s_Keeper_held, globals := 3, closure := [], defaults := .none, kwdefaults := .none, doc := .none, pyModule := (.str "closenews.mirrors" 1035), annotations := none, code := (.ref 900), closureTuple := .none, builtins := 0 }, ⟨[]⟩⟩
def o_900 (w : World) : Obj := ⟨(.type "code"), none, .fields ⟨[(.str "held" 1378), (.str "Keeper.held" 1379), (.str "/claim/cut.py" 1380), (.int (425) 0), (.int (1) 0), (.int (0) 0), (.int (0) 0), (.int (3) 0), (.ref 895), (.bool true), (.int (181) 0), (.ref 896), .none, (.ref 897), (.ref 898), (.ref 899), (.int (1382) 0), (.int (425) 0), (.str "/claim/cut.py" 1383)]⟩, ⟨[]⟩⟩
def o_917 (w : World) : Obj := ⟨(.type "function"), none, .func { name := "__call__", qualname := "Keeper.__call__", params := defArgs s_Keeper_D_call_D, body := .stmts (defBody s_Keeper_D_call_D), scope := defScope s_Keeper_D_call_D, globals := 3, closure := [], defaults := .none, kwdefaults := .none, doc := .none, pyModule := (.str "closenews.mirrors" 1035), annotations := none, code := (.ref 916), closureTuple := .none, builtins := 0 }, ⟨[]⟩⟩
def o_916 (w : World) : Obj := ⟨(.type "code"), none, .fields ⟨[(.str "__call__" 1394), (.str "Keeper.__call__" 1395), (.str "/claim/cut.py" 1396), (.int (433) 0), (.int (2) 0), (.int (0) 0), (.int (0) 0), (.int (3) 0), (.ref 911), (.bool true), (.int (181) 0), (.ref 912), .none, (.ref 913), (.ref 914), (.ref 915), (.int (1399) 0), (.int (433) 0), (.str "/claim/cut.py" 1400)]⟩, ⟨[]⟩⟩
def o_924 (w : World) : Obj := ⟨(.type "function"), none, .func { name := "keep", qualname := "Keeper.keep", params := defArgs s_Keeper_keep, body := .stmts (defBody s_Keeper_keep), scope := defScope s_Keeper_keep, globals := 3, closure := [], defaults := .none, kwdefaults := .none, doc := .none, pyModule := (.str "closenews.mirrors" 1035), annotations := none, code := (.ref 923), closureTuple := .none, builtins := 0 }, ⟨[]⟩⟩
def o_923 (w : World) : Obj := ⟨(.type "code"), none, .fields ⟨[(.str "keep" 1402), (.str "Keeper.keep" 1403), (.str "/claim/cut.py" 1404), (.int (447) 0), (.int (2) 0), (.int (0) 0), (.int (0) 0), (.int (3) 0), (.ref 918), (.bool true), (.int (181) 0), (.ref 919), .none, (.ref 920), (.ref 921), (.ref 922), (.int (1409) 0), (.int (447) 0), (.str "/claim/cut.py" 1410)]⟩, ⟨[]⟩⟩
def o_931 (w : World) : Obj := ⟨(.type "function"), none, .func { name := "alone", qualname := "Keeper.alone", params := defArgs s_Keeper_alone, body := .stmts (defBody s_Keeper_alone), scope := defScope s_Keeper_alone, globals := 3, closure := [], defaults := .none, kwdefaults := .none, doc := .none, pyModule := (.str "closenews.mirrors" 1035), annotations := none, code := (.ref 930), closureTuple := .none, builtins := 0 }, ⟨[]⟩⟩
def o_930 (w : World) : Obj := ⟨(.type "code"), none, .fields ⟨[(.str "alone" 1412), (.str "Keeper.alone" 1413), (.str "/claim/cut.py" 1414), (.int (452) 0), (.int (2) 0), (.int (0) 0), (.int (0) 0), (.int (3) 0), (.ref 925), (.bool true), (.int (181) 0), (.ref 926), .none, (.ref 927), (.ref 928), (.ref 929), (.int (1417) 0), (.int (452) 0), (.str "/claim/cut.py" 1418)]⟩, ⟨[]⟩⟩
def o_938 (w : World) : Obj := ⟨(.type "function"), none, .func { name := "within", qualname := "Keeper.within", params := defArgs s_Keeper_within, body := .stmts (defBody s_Keeper_within), scope := defScope s_Keeper_within, globals := 3, closure := [], defaults := .none, kwdefaults := .none, doc := .none, pyModule := (.str "closenews.mirrors" 1035), annotations := none, code := (.ref 937), closureTuple := .none, builtins := 0 }, ⟨[]⟩⟩
def o_937 (w : World) : Obj := ⟨(.type "code"), none, .fields ⟨[(.str "within" 1420), (.str "Keeper.within" 1421), (.str "/claim/cut.py" 1422), (.int (460) 0), (.int (2) 0), (.int (0) 0), (.int (0) 0), (.int (3) 0), (.ref 932), (.bool true), (.int (181) 0), (.ref 933), .none, (.ref 934), (.ref 935), (.ref 936), (.int (1425) 0), (.int (460) 0), (.str "/claim/cut.py" 1426)]⟩, ⟨[]⟩⟩
def o_945 (w : World) : Obj := ⟨(.type "function"), none, .func { name := "update", qualname := "Keeper.update", params := defArgs s_Keeper_update, body := .stmts (defBody s_Keeper_update), scope := defScope s_Keeper_update, globals := 3, closure := [], defaults := .none, kwdefaults := .none, doc := .none, pyModule := (.str "closenews.mirrors" 1035), annotations := none, code := (.ref 944), closureTuple := .none, builtins := 0 }, ⟨[]⟩⟩
def o_944 (w : World) : Obj := ⟨(.type "code"), none, .fields ⟨[(.str "update" 1428), (.str "Keeper.update" 1429), (.str "/claim/cut.py" 1430), (.int (472) 0), (.int (2) 0), (.int (0) 0), (.int (0) 0), (.int (3) 0), (.ref 939), (.bool true), (.int (181) 0), (.ref 940), .none, (.ref 941), (.ref 942), (.ref 943), (.int (1435) 0), (.int (472) 0), (.str "/claim/cut.py" 1436)]⟩, ⟨[]⟩⟩
def o_967 (w : World) : Obj := ⟨(.type "function"), none, .func { name := "__init__", qualname := "Transaction.__init__", params := defArgs s_Transaction_D_init_D, body := .stmts (defBody s_Transaction_D_init_D), scope := defScope s_Transaction_D_init_D, globals := 3, closure := [], defaults := .none, kwdefaults := .none, doc := .none, pyModule := (.str "closenews.transactions" 1452), annotations := none, code := (.ref 966), closureTuple := .none, builtins := 0 }, ⟨[]⟩⟩
def o_966 (w : World) : Obj := ⟨(.type "code"), none, .fields ⟨[(.str "__init__" 1479), (.str "Transaction.__init__" 1480), (.str "/claim/cut.py" 1481), (.int (485) 0), (.int (3) 0), (.int (0) 0), (.int (0) 0), (.int (3) 0), (.ref 961), (.bool true), (.int (181) 0), (.ref 962), .none, (.ref 963), (.ref 964), (.ref 965), (.int (1485) 0), (.int (485) 0), (.str "/claim/cut.py" 1486)]⟩, ⟨[]⟩⟩
def o_982 (w : World) : Obj := ⟨(.type "function"), none, .func { name := "need_open", qualname := "Transaction.need_open", params := defArgs s_Transaction_need_open, body := .stmts (defBody s_Transaction_need_open), scope := defScope s_Transaction_need_open, globals := 3, closure := [], defaults := .none, kwdefaults := .none, doc := .none, pyModule := (.str "closenews.transactions" 1452), annotations := none, code := (.ref 981), closureTuple := .none, builtins := 0 }, ⟨[]⟩⟩
def o_981 (w : World) : Obj := ⟨(.type "code"), none, .fields ⟨[(.str "need_open" 1496), (.str "Transaction.need_open" 1497), (.str "/claim/cut.py" 1498), (.int (498) 0), (.int (1) 0), (.int (0) 0), (.int (0) 0), (.int (3) 0), (.ref 976), (.bool true), (.int (181) 0), (.ref 977), .none, (.ref 978), (.ref 979), (.ref 980), (.int (1500) 0), (.int (498) 0), (.str "/claim/cut.py" 1501)]⟩, ⟨[]⟩⟩
def o_989 (w : World) : Obj := ⟨(.type "function"), none, .func { name := "need_cell", qualname := "Transaction.need_cell", params := defArgs s_Transaction_need_cell, body := .stmts (defBody s_Transaction_need_cell), scope := defScope s_Transaction_need_cell, globals := 3, closure := [], defaults := .none, kwdefaults := .none, doc := .none, pyModule := (.str "closenews.transactions" 1452), annotations := none, code := (.ref 988), closureTuple := .none, builtins := 0 }, ⟨[]⟩⟩
def o_988 (w : World) : Obj := ⟨(.type "code"), none, .fields ⟨[(.str "need_cell" 1503), (.str "Transaction.need_cell" 1504), (.str "/claim/cut.py" 1505), (.int (502) 0), (.int (2) 0), (.int (0) 0), (.int (0) 0), (.int (3) 0), (.ref 983), (.bool true), (.int (181) 0), (.ref 984), .none, (.ref 985), (.ref 986), (.ref 987), (.int (1508) 0), (.int (502) 0), (.str "/claim/cut.py" 1509)]⟩, ⟨[]⟩⟩
def o_1010 (w : World) : Obj := ⟨(.type "function"), none, .func { name := "__setitem__", qualname := "Transaction.__setitem__", params := defArgs s_Transaction_D_setitem_D, body := .stmts (defBody s_Transaction_D_setitem_D), scope := defScope s_Transaction_D_setitem_D, globals := 3, closure := [], defaults := .none, kwdefaults := .none, doc := .none, pyModule := (.str "closenews.transactions" 1452), annotations := none, code := (.ref 1009), closureTuple := .none, builtins := 0 }, ⟨[]⟩⟩
def o_1009 (w : World) : Obj := ⟨(.type "code"), none, .fields ⟨[(.str "__setitem__" 1526), (.str "Transaction.__setitem__" 1527), (.str "/claim/cut.py" 1528), (.int (514) 0), (.int (3) 0), (.int (0) 0), (.int (0) 0), (.int (3) 0), (.ref 1004), (.bool true), (.int (181) 0), (.ref 1005), .none, (.ref 1006), (.ref 1007), (.ref 1008), (.int (1532) 0), (.int (514) 0), (.str "/claim/cut.py" 1533)]⟩, ⟨[]⟩⟩
def o_1017 (w : World) : Obj := ⟨(.type "function"), none, .func { name := "__iadd__", qualname := "Transaction.__iadd__", params := defArgs s_Transaction_D_iadd_D, body := .stmts (defBody s_Transaction_D_iadd_D), scope := defScope s_Transaction_D_iadd_D, globals := 3, closure := [], defaults := .none, kwdefaults := .none, doc := .none, pyModule := (.str "closenews.transactions" 1452), annotations := none, code := (.ref 1016), closureTuple := .none, builtins := 0 }, ⟨[]⟩⟩
def o_1016 (w : World) : Obj := ⟨(.type "code"), none, .fields ⟨[(.str "__iadd__" 1535), (.str "Transaction.__iadd__" 1536), (.str "/claim/cut.py" 1537), (.int (520) 0), (.int (2) 0), (.int (0) 0), (.int (0) 0), (.int (3) 0), (.ref 1011), (.bool true), (.int (181) 0), (.ref 1012), .none, (.ref 1013), (.ref 1014), (.ref 1015), (.int (1540) 0), (.int (520) 0), (.str "/claim/cut.py" 1541)]⟩, ⟨[]⟩⟩
def o_1022 (w : World) : Obj := ⟨(.type "function"), none, .func { name := "changes", qualname := "Transaction.changes", params := defArgs s_Transaction_changes, body := .stmts (defBody s_Transaction_changes), scope := defScope s_Transaction_changes, globals := 3, closure := [], defaults := .none, kwdefaults := .none, doc := .none, pyModule := (.str "closenews.transactions" 1452), annotations := none, code := (.ref 1021), closureTuple := .none, builtins := 0 }, ⟨[]⟩⟩
def o_1021 (w : World) : Obj := ⟨(.type "code"), none, .fields ⟨[(.str "changes" 1543), (.str "Transaction.changes" 1544), (.str "/claim/cut.py" 1545), (.int (526) 0), (.int (1) 0), (.int (0) 0), (.int (0) 0), (.int (3) 0), (.ref 1018), (.bool true), (.int (181) 0), (.ref 1019), .none, .none, .none, (.ref 1020), (.int (1546) 0), (.int (526) 0), (.str "/claim/cut.py" 1547)]⟩, ⟨[]⟩⟩
def o_1027 (w : World) : Obj := ⟨(.type "function"), none, .func { name := "wishes", qualname := "Transaction.wishes", params := defArgs s_Transaction_wishes, body := .stmts (defBody s_Transaction_wishes), scope := defScope s_Transaction_wishes, globals := 3, closure := [], defaults := .none, kwdefaults := .none, doc := .none, pyModule := (.str "closenews.transactions" 1452), annotations := none, code := (.ref 1026), closureTuple := .none, builtins := 0 }, ⟨[]⟩⟩
def o_1026 (w : World) : Obj := ⟨(.type "code"), none, .fields ⟨[(.str "wishes" 1549), (.str "Transaction.wishes" 1550), (.str "/claim/cut.py" 1551), (.int (529) 0), (.int (1) 0), (.int (0) 0), (.int (0) 0), (.int (3) 0), (.ref 1023), (.bool true), (.int (181) 0), (.ref 1024), .none, .none, .none, (.ref 1025), (.int (1552) 0), (.int (529) 0), (.str "/claim/cut.py" 1553)]⟩, ⟨[]⟩⟩
def o_1032 (w : World) : Obj := ⟨(.type "function"), none, .func { name := "listen", qualname := "Transaction.listen", params := defArgs s_Transaction_listen, body := .stmts (defBody s_Transaction_listen), scope := defScope s_Transaction_listen, globals := 3, closure := [], defaults := .none, kwdefaults := .none, doc := .none, pyModule := (.str "closenews.transactions" 1452), annotations := none, code := (.ref 1031), closureTuple := .none, builtins := 0 }, ⟨[]⟩⟩
def o_1031 (w : World) : Obj := ⟨(.type "code"), none, .fields ⟨[(.str "listen" 1555), (.str "Transaction.listen" 1556), (.str "/claim/cut.py" 1557), (.int (532) 0), (.int (1) 0), (.int (0) 0), (.int (0) 0), (.int (7) 0), (.ref 1028), (.bool true), (.int (181) 0), (.ref 1029), .none, .none, .none, (.ref 1030), (.int (1558) 0), (.int (532) 0), (.str "/claim/cut.py" 1559)]⟩, ⟨[]⟩⟩
def o_1037 (w : World) : Obj := ⟨(.type "function"), none, .func { name := "unlisten", qualname := "Transaction.unlisten", params := defArgs s_Transaction_unlisten, body := .stmts (defBody s_Transaction_unlisten), scope := defScope s_Transaction_unlisten, globals := 3, closure := [], defaults := .none, kwdefaults := .none, doc := .none, pyModule := (.str "closenews.transactions" 1452), annotations := none, code := (.ref 1036), closureTuple := .none, builtins := 0 }, ⟨[]⟩⟩
def o_1036 (w : World) : Obj := ⟨(.type "code"), none, .fields ⟨[(.str "unlisten" 1561), (.str "Transaction.unlisten" 1562), (.str "/claim/cut.py" 1563), (.int (538) 0), (.int (1) 0), (.int (0) 0), (.int (0) 0), (.int (7) 0), (.ref 1033), (.bool true), (.int (181) 0), (.ref 1034), .none, .none, .none, (.ref 1035), (.int (1564) 0), (.int (538) 0), (.str "/claim/cut.py" 1565)]⟩, ⟨[]⟩⟩
def o_1042 (w : World) : Obj := ⟨(.type "function"), none, .func { name := "batch", qualname := "Transaction.batch", params := defArgs s_Transaction_batch, body := .stmts (defBody s_Transaction_batch), scope := defScope s_Transaction_batch, globals := 3, closure := [], defaults := .none, kwdefaults := .none, doc := .none, pyModule := (.str "closenews.transactions" 1452), annotations := none, code := (.ref 1041), closureTuple := .none, builtins := 0 }, ⟨[]⟩⟩
def o_1041 (w : World) : Obj := ⟨(.type "code"), none, .fields ⟨[(.str "batch" 1567), (.str "Transaction.batch" 1568), (.str "/claim/cut.py" 1569), (.int (544) 0), (.int (1) 0), (.int (0) 0), (.int (0) 0), (.int (3) 0), (.ref 1038), (.bool true), (.int (181) 0), (.ref 1039), .none, .none, .none, (.ref 1040), (.int (1570) 0), (.int (544) 0), (.str "/claim/cut.py" 1571)]⟩, ⟨[]⟩⟩
def o_1063 (w : World) : Obj := ⟨(.type "function"), none, .func { name := "rollback", qualname := "Transaction.rollback", params := defArgs s_Transaction_rollback, body := .stmts (defBody s_Transaction_rollback), scope := defScope s_Transaction_rollback, globals := 3, closure := [], defaults := .none, kwdefaults := .none, doc := .none, pyModule := (.str "closenews.transactions" 1452), annotations := none, code := (.ref 1062), closureTuple := .none, builtins := 0 }, ⟨[]⟩⟩
def o_1062 (w : World) : Obj := ⟨(.type "code"), none, .fields ⟨[(.str "rollback" 1588), (.str "Transaction.rollback" 1589), (.str "/claim/cut.py" 1590), (.int (555) 0), (.int (1) 0), (.int (0) 0), (.int (0) 0), (.int (3) 0), (.ref 1057), (.bool true), (.int (181) 0), (.ref 1058), .none, (.ref 1059), (.ref 1060), (.ref 1061), (.int (1592) 0), (.int (555) 0), (.str "/claim/cut.py" 1593)]⟩, ⟨[]⟩⟩
def o_1070 (w : World) : Obj := ⟨(.type "function"), none, .func { name := "end", qualname := "Transaction.end", params := defArgs s_Transaction_end, body := .stmts (defBody s_Transaction_end), scope := defScope s_Transaction_end, globals := 3, closure := [], defaults := .none, kwdefaults := .none, doc := .none, pyModule := (.str "closenews.transactions" 1452), annotations := none, code := (.ref 1069), closureTuple := .none, builtins := 0 }, ⟨[]⟩⟩
def o_1069 (w : World) : Obj := ⟨(.type "code"), none, .fields ⟨[(.str "end" 1595), (.str "Transaction.end" 1596), (.str "/claim/cut.py" 1597), (.int (559) 0), (.int (1) 0), (.int (0) 0), (.int (0) 0), (.int (3) 0), (.ref 1064), (.bool true), (.int (181) 0), (.ref 1065), .none, (.ref 1066), (.ref 1067), (.ref 1068), (.int (1599) 0), (.int (559) 0), (.str "/claim/cut.py" 1600)]⟩, ⟨[]⟩⟩
def o_1075 (w : World) : Obj := ⟨(.type "function"), none, .func { name := "commit", qualname := "Transaction.commit", params := defArgs s_Transaction_commit, body := .stmts (defBody s_Transaction_commit), scope := defScope s_Transaction_commit, globals := 3, closure := [], defaults := .none, kwdefaults := .none, doc := .none, pyModule := (.str "closenews.transactions" 1452), annotations := none, code := (.ref 1074), closureTuple := .none, builtins := 0 }, ⟨[]⟩⟩
def o_1074 (w : World) : Obj := ⟨(.type "code"), none, .fields ⟨[(.str "commit" 1602), (.str "Transaction.commit" 1603), (.str "/claim/cut.py" 1604), (.int (563) 0), (.int (1) 0), (.int (0) 0), (.int (0) 0), (.int (3) 0), (.ref 1071), (.bool true), (.int (181) 0), (.ref 1072), .none, .none, .none, (.ref 1073), (.int (1605) 0), (.int (563) 0), (.str "/claim/cut.py" 1606)]⟩, ⟨[]⟩⟩
def o_1089 (w : World) : Obj := ⟨(.type "function"), none, .func { name := "do_step", qualname := "do_step", params := defArgs s_do_step, body := .stmts (defBody s_do_step), scope := defScope s_do_step, globals := 3, closure := [], defaults := .none, kwdefaults := .none, doc := .none, pyModule := (.str "closenews.transactions" 1452), annotations := none, code := (.ref 1088), closureTuple := .none, builtins := 0 }, ⟨[]⟩⟩
def o_1088 (w : World) : Obj := ⟨(.type "code"), none, .fields ⟨[(.str "do_step" 1623), (.str "do_step" 1624), (.str "/claim/cut.py" 1625), (.int (581) 0), (.int (2) 0), (.int (0) 0), (.int (0) 0), (.int (3) 0), (.ref 1083), (.bool true), (.int (181) 0), (.ref 1084), .none, (.ref 1085), (.ref 1086), (.ref 1087), (.int (1628) 0), (.int (581) 0), (.str "/claim/cut.py" 1629)]⟩, ⟨[]⟩⟩
def o_1103 (w : World) : Obj := ⟨(.type "function"), none, .func { name := "__init__", qualname := "Member.__init__", params := defArgs s_Member_D_init_D, body := .stmts (defBody s_Member_D_init_D), scope := defScope s_Member_D_init_D, globals := 3, closure := [], defaults := .none, kwdefaults := .none, doc := .none, pyModule := (.str "closenews.clients" 1631), annotations := none, code := (.ref 1102), closureTuple := .none, builtins := 0 }, ⟨[]⟩⟩
def o_1102 (w : World) : Obj := ⟨(.type "code"), none, .fields ⟨[(.str "__init__" 1647), (.str "Member.__init__" 1648), (.str "/claim/cut.py" 1649), (.int (598) 0), (.int (3) 0), (.int (0) 0), (.int (0) 0), (.int (3) 0), (.ref 1097), (.bool true), (.int (181) 0), (.ref 1098), .none, (.ref 1099), (.ref 1100), (.ref 1101), (.int (1653) 0), (.int (598) 0), (.str "/claim/cut.py" 1654)]⟩, ⟨[]⟩⟩
def o_1110 (w : World) : Obj := ⟨(.type "function"), none, .func { name := "need_no_work", qualname := "Member.need_no_work", params := defArgs s_Member_need_no_work, body := .stmts (defBody s_Member_need_no_work), scope := defScope s_Member_need_no_work, globals := 3, closure := [], defaults := .none, kwdefaults := .none, doc := .none, pyModule := (.str "closenews.clients" 1631), annotations := none, code := (.ref 1109), closureTuple := .none, builtins := 0 }, ⟨[]⟩⟩
def o_1109 (w : World) : Obj := ⟨(.type "code"), none, .fields ⟨[(.str "need_no_work" 1656), (.str "Member.need_no_work" 1657), (.str "/claim/cut.py" 1658), (.int (603) 0), (.int (1) 0), (.int (0) 0), (.int (0) 0), (.int (3) 0), (.ref 1104), (.bool true), (.int (181) 0), (.ref 1105), .none, (.ref 1106), (.ref 1107), (.ref 1108), (.int (1660) 0), (.int (603) 0), (.str "/claim/cut.py" 1661)]⟩, ⟨[]⟩⟩
def o_1131 (w : World) : Obj := ⟨(.type "function"), none, .func { name := "begin", qualname := "Sender.begin", params := defArgs s_Sender_begin, body := .stmts (defBody s_Sender_begin), scope := defScope s_Sender_begin, globals := 3, closure := [], defaults := .none, kwdefaults := .none, doc := .none, pyModule := (.str "closenews.clients" 1631), annotations := none, code := (.ref 1130), closureTuple := .none, builtins := 0 }, ⟨[]⟩⟩
def o_1130 (w : World) : Obj := ⟨(.type "code"), none, .fields ⟨[(.str "begin" 1686), (.str "Sender.begin" 1687), (.str "/claim/cut.py" 1688), (.int (608) 0), (.int (1) 0), (.int (0) 0), (.int (0) 0), (.int (3) 0), (.ref 1125), (.bool true), (.int (181) 0), (.ref 1126), .none, (.ref 1127), (.ref 1128), (.ref 1129), (.int (1690) 0), (.int (608) 0), (.str "/claim/cut.py" 1691)]⟩, ⟨[]⟩⟩
def o_1138 (w : World) : Obj := ⟨(.type "function"), none, .func { name := "run", qualname := "Sender.run", params := defArgs s_Sender_run, body := .stmts (defBody s_Sender_run), scope := defScope s_Sender_run, globals := 3, closure := [], defaults := .none, kwdefaults := .none, doc := .none, pyModule := (.str "closenews.clients" 1631), annotations := none, code := (.ref 1137), closureTuple := .none, builtins := 0 }, ⟨[]⟩⟩
def o_1137 (w : World) : Obj := ⟨(.type "code"), none, .fields ⟨[(.str "run" 1693), (.str "Sender.run" 1694), (.str "/claim/cut.py" 1695), (.int (613) 0), (.int (1) 0), (.int (0) 0), (.int (0) 0), (.int (7) 0), (.ref 1132), (.bool true), (.int (181) 0), (.ref 1133), .none, (.ref 1134), (.ref 1135), (.ref 1136), (.int (1700) 0), (.int (613) 0), (.str "/claim/cut.py" 1701)]⟩, ⟨[]⟩⟩
def o_1159 (w : World) : Obj := ⟨(.type "function"), none, .func { name := "__init__", qualname := "Listener.__init__", params := defArgs s_Listener_D_init_D, body := .stmts (defBody s_Listener_D_init_D), scope := defScope s_Listener_D_init_D, globals := 3, closure := [("__class__", 1147)], defaults := .none, kwdefaults := .none, doc := .none, pyModule := (.str "closenews.clients" 1631), annotations := none, code := (.ref 1158), closureTuple := (.ref 1152), builtins := 0 }, ⟨[]⟩⟩
def o_1158 (w : World) : Obj := ⟨(.type "code"), none, .fields ⟨[(.str "__init__" 1720), (.str "Listener.__init__" 1721), (.str "/claim/cut.py" 1722), (.int (624) 0), (.int (3) 0), (.int (0) 0), (.int (0) 0), (.int (3) 0), (.ref 1153), (.bool true), (.int (181) 0), (.ref 1154), .none, (.ref 1155), (.ref 1156), (.ref 1157), (.int (1727) 0), (.int (624) 0), (.str "/claim/cut.py" 1728)]⟩, ⟨[]⟩⟩
def o_1147 (w : World) : Obj := ⟨(.type "cell"), none, .cell (some (.ref 1196)), ⟨[]⟩⟩
def o_1180 (w : World) : Obj := ⟨(.type "function"), none, .func { name := "behind", qualname := "Listener.behind", params := defArgs s_Listener_behind, body := .stmts (defBody s_Listener_behind), scope := defScope s_Listener_behind, globals := 3, closure := [], defaults := .none, kwdefaults := .none, doc := .none, pyModule := (.str "closenews.clients" 1631), annotations := none, code := (.ref 1179), closureTuple := .none, builtins := 0 }, ⟨[]⟩⟩
def o_1179 (w : World) : Obj := ⟨(.type "code"), none, .fields ⟨[(.str "behind" 1746), (.str "Listener.behind" 1747), (.str "/claim/cut.py" 1748), (.int (637) 0), (.int (2) 0), (.int (0) 0), (.int (0) 0), (.int (3) 0), (.ref 1176), (.bool true), (.int (181) 0), (.ref 1177), .none, .none, .none, (.ref 1178), (.int (1749) 0), (.int (637) 0), (.str "/claim/cut.py" 1750)]⟩, ⟨[]⟩⟩
def o_1186 (w : World) : Obj := ⟨(.type "function"), none, .func { name := "receive", qualname := "Listener.receive", params := defArgs s_Listener_receive, body := .stmts (defBody s_Listener_receive), scope := defScope s_Listener_receive, globals := 3, closure := [], defaults := .none, kwdefaults := (.ref 1181), doc := .none, pyModule := (.str "closenews.clients" 1631), annotations := none, code := (.ref 1185), closureTuple := .none, builtins := 0 }, ⟨[]⟩⟩
def o_1185 (w : World) : Obj := ⟨(.type "code"), none, .fields ⟨[(.str "receive" 1754), (.str "Listener.receive" 1755), (.str "/claim/cut.py" 1756), (.int (647) 0), (.int (1) 0), (.int (0) 0), (.int (1) 0), (.int (3) 0), (.ref 1182), (.bool true), (.int (181) 0), (.ref 1183), .none, .none, .none, (.ref 1184), (.int (1757) 0), (.int (647) 0), (.str "/claim/cut.py" 1758)]⟩, ⟨[]⟩⟩
def o_1181 (w : World) : Obj := ⟨(.type "dict"), none, .dict ⟨[en w "most" 1753 (.int (200) 1752)]⟩ 1, ⟨[]⟩⟩
def o_1193 (w : World) : Obj := ⟨(.type "function"), none, .func { name := "disconnect", qualname := "Listener.disconnect", params := defArgs s_Listener_disconnect, body := .stmts (defBody s_Listener_disconnect), scope := defScope s_Listener_disconnect, globals := 3, closure := [], defaults := .none, kwdefaults := .none, doc := .none, pyModule := (.str "closenews.clients" 1631), annotations := none, code := (.ref 1192), closureTuple := .none, builtins := 0 }, ⟨[]⟩⟩
def o_1192 (w : World) : Obj := ⟨(.type "code"), none, .fields ⟨[(.str "disconnect" 1760), (.str "Listener.disconnect" 1761), (.str "/claim/cut.py" 1762), (.int (661) 0), (.int (1) 0), (.int (0) 0), (.int (0) 0), (.int (3) 0), (.ref 1187), (.bool true), (.int (181) 0), (.ref 1188), .none, (.ref 1189), (.ref 1190), (.ref 1191), (.int (1764) 0), (.int (661) 0), (.str "/claim/cut.py" 1765)]⟩, ⟨[]⟩⟩
def o_1230 (w : World) : Obj := ⟨(.type "function"), none, .func { name := "__init__", qualname := "Store.__init__", params := defArgs s_Store_D_init_D, body := .stmts (defBody s_Store_D_init_D), scope := defScope s_Store_D_init_D, globals := 3, closure := [], defaults := .none, kwdefaults := (.ref 1225), doc := .none, pyModule := (.str "closenews.store" 1797), annotations := none, code := (.ref 1229), closureTuple := .none, builtins := 0 }, ⟨[]⟩⟩
def o_1229 (w : World) : Obj := ⟨(.type "code"), none, .fields ⟨[(.str "__init__" 1817), (.str "Store.__init__" 1818), (.str "/claim/cut.py" 1819), (.int (675) 0), (.int (2) 0), (.int (0) 0), (.int (1) 0), (.int (11) 0), (.ref 1226), (.bool true), (.int (181) 0), (.ref 1227), .none, .none, .none, (.ref 1228), (.int (1820) 0), (.int (675) 0), (.str "/claim/cut.py" 1821)]⟩, ⟨[]⟩⟩
def o_1225 (w : World) : Obj := ⟨(.type "dict"), none, .dict ⟨[en w "room" 1816 (.int (20) 1815)]⟩ 1, ⟨[]⟩⟩
def o_1237 (w : World) : Obj := ⟨(.type "function"), none, .func { name := "present", qualname := "Store.present", params := defArgs s_Store_present, body := .stmts (defBody s_Store_present), scope := defScope s_Store_present, globals := 3, closure := [], defaults := .none, kwdefaults := .none, doc := .none, pyModule := (.str "closenews.store" 1797), annotations := none, code := (.ref 1236), closureTuple := .none, builtins := 0 }, ⟨[]⟩⟩
def o_1236 (w : World) : Obj := ⟨(.type "code"), none, .fields ⟨[(.str "present" 1823), (.str "Store.present" 1824), (.str "/claim/cut.py" 1825), (.int (690) 0), (.int (2) 0), (.int (0) 0), (.int (0) 0), (.int (3) 0), (.ref 1231), (.bool true), (.int (181) 0), (.ref 1232), .none, (.ref 1233), (.ref 1234), (.ref 1235), (.int (1828) 0), (.int (690) 0), (.str "/claim/cut.py" 1829)]⟩, ⟨[]⟩⟩
def o_1244 (w : World) : Obj := ⟨(.type "function"), none, .func { name := "client", qualname := "Store.client", params := defArgs s_Store_client, body := .stmts (defBody s_Store_client), scope := defScope s_Store_client, globals := 3, closure := [], defaults := .none, kwdefaults := .none, doc := .none, pyModule := (.str "closenews.store" 1797), annotations := none, code := (.ref 1243), closureTuple := .none, builtins := 0 }, ⟨[]⟩⟩
def o_1243 (w : World) : Obj := ⟨(.type "code"), none, .fields ⟨[(.str "client" 1831), (.str "Store.client" 1832), (.str "/claim/cut.py" 1833), (.int (695) 0), (.int (2) 0), (.int (0) 0), (.int (0) 0), (.int (3) 0), (.ref 1238), (.bool true), (.int (181) 0), (.ref 1239), .none, (.ref 1240), (.ref 1241), (.ref 1242), (.int (1836) 0), (.int (695) 0), (.str "/claim/cut.py" 1837)]⟩, ⟨[]⟩⟩
def o_1249 (w : World) : Obj := ⟨(.type "function"), none, .func { name := "keep", qualname := "Store.keep", params := defArgs s_Store_keep, body := .stmts (defBody s_Store_keep), scope := defScope s_Store_keep, globals := 3, closure := [], defaults := .none, kwdefaults := .none, doc := .none, pyModule := (.str "closenews.store" 1797), annotations := none, code := (.ref 1248), closureTuple := .none, builtins := 0 }, ⟨[]⟩⟩
def o_1248 (w : World) : Obj := ⟨(.type "code"), none, .fields ⟨[(.str "keep" 1839), (.str "Store.keep" 1840), (.str "/claim/cut.py" 1841), (.int (702) 0), (.int (4) 0), (.int (0) 0), (.int (0) 0), (.int (3) 0), (.ref 1245), (.bool true), (.int (181) 0), (.ref 1246), .none, .none, .none, (.ref 1247), (.int (1842) 0), (.int (702) 0), (.str "/claim/cut.py" 1843)]⟩, ⟨[]⟩⟩
def o_1269 (w : World) : Obj := ⟨(.type "function"), none, .func { name := "room", qualname := "Store.room", params := defArgs s_Store_room, body := .stmts (defBody s_Store_room), scope := defScope s_Store_room, globals := 3, closure := [], defaults := .none, kwdefaults := .none, doc := .none, pyModule := (.str "closenews.store" 1797), annotations := none, code := (.ref 1268), closureTuple := .none, builtins := 0 }, ⟨[]⟩⟩
def o_1268 (w : World) : Obj := ⟨(.type "code"), none, .fields ⟨[(.str "room" 1860), (.str "Store.room" 1861), (.str "/claim/cut.py" 1862), (.int (718) 0), (.int (1) 0), (.int (0) 0), (.int (0) 0), (.int (3) 0), (.ref 1263), (.bool true), (.int (181) 0), (.ref 1264), .none, (.ref 1265), (.ref 1266), (.ref 1267), (.int (1864) 0), (.int (718) 0), (.str "/claim/cut.py" 1865)]⟩, ⟨[]⟩⟩
def o_1307 (w : World) : Obj := ⟨(.type "function"), none, .func { name := "is_writer_step", qualname := "is_writer_step", params := defArgs s_is_writer_step, body := .stmts (defBody s_is_writer_step), scope := defScope s_is_writer_step, globals := 3, closure := [], defaults := .none, kwdefaults := .none, doc := .none, pyModule := (.str "closenews.writers" 1906), annotations := none, code := (.ref 1306), closureTuple := .none, builtins := 0 }, ⟨[]⟩⟩
def o_1306 (w : World) : Obj := ⟨(.type "code"), none, .fields ⟨[(.str "is_writer_step" 1917), (.str "is_writer_step" 1918), (.str "/claim/cut.py" 1919), (.int (734) 0), (.int (1) 0), (.int (0) 0), (.int (0) 0), (.int (3) 0), (.ref 1301), (.bool true), (.int (181) 0), (.ref 1302), .none, (.ref 1303), (.ref 1304), (.ref 1305), (.int (1921) 0), (.int (734) 0), (.str "/claim/cut.py" 1922)]⟩, ⟨[]⟩⟩
def o_1312 (w : World) : Obj := ⟨(.type "function"), none, .func { name := "words_of", qualname := "words_of", params := defArgs s_words_of, body := .stmts (defBody s_words_of), scope := defScope s_words_of, globals := 3, closure := [], defaults := .none, kwdefaults := .none, doc := .none, pyModule := (.str "closenews.writers" 1906), annotations := none, code := (.ref 1311), closureTuple := .none, builtins := 0 }, ⟨[]⟩⟩
def o_1311 (w : World) : Obj := ⟨(.type "code"), none, .fields ⟨[(.str "words_of" 1924), (.str "words_of" 1925), (.str "/claim/cut.py" 1926), (.int (740) 0), (.int (1) 0), (.int (0) 0), (.int (0) 0), (.int (3) 0), (.ref 1308), (.bool true), (.int (181) 0), (.ref 1309), .none, .none, .none, (.ref 1310), (.int (1927) 0), (.int (740) 0), (.str "/claim/cut.py" 1928)]⟩, ⟨[]⟩⟩
def o_1328 (w : World) : Obj := ⟨(.type "function"), none, .func { name := "__init__", qualname := "Writer.__init__", params := defArgs s_Writer_D_init_D, body := .stmts (defBody s_Writer_D_init_D), scope := defScope s_Writer_D_init_D, globals := 3, closure := [("__class__", 1316)], defaults := .none, kwdefaults := .none, doc := .none, pyModule := (.str "closenews.writers" 1906), annotations := none, code := (.ref 1327), closureTuple := (.ref 1321), builtins := 0 }, ⟨[]⟩⟩
def o_1327 (w : World) : Obj := ⟨(.type "code"), none, .fields ⟨[(.str "__init__" 1942), (.str "Writer.__init__" 1943), (.str "/claim/cut.py" 1944), (.int (744) 0), (.int (3) 0), (.int (0) 0), (.int (0) 0), (.int (3) 0), (.ref 1322), (.bool true), (.int (181) 0), (.ref 1323), .none, (.ref 1324), (.ref 1325), (.ref 1326), (.int (1949) 0), (.int (744) 0), (.str "/claim/cut.py" 1950)]⟩, ⟨[]⟩⟩
def o_1316 (w : World) : Obj := ⟨(.type "cell"), none, .cell (some (.ref 1359)), ⟨[]⟩⟩
def o_1335 (w : World) : Obj := ⟨(.type "function"), none, .func { name := "steps", qualname := "Writer.steps", params := defArgs s_Writer_steps, body := .stmts (defBody s_Writer_steps), scope := defScope s_Writer_steps, globals := 3, closure := [], defaults := .none, kwdefaults := .none, doc := .none, pyModule := (.str "closenews.writers" 1906), annotations := none, code := (.ref 1334), closureTuple := .none, builtins := 0 }, ⟨[]⟩⟩
def o_1334 (w : World) : Obj := ⟨(.type "code"), none, .fields ⟨[(.str "steps" 1952), (.str "Writer.steps" 1953), (.str "/claim/cut.py" 1954), (.int (751) 0), (.int (2) 0), (.int (0) 0), (.int (0) 0), (.int (3) 0), (.ref 1329), (.bool true), (.int (181) 0), (.ref 1330), .none, (.ref 1331), (.ref 1332), (.ref 1333), (.int (1957) 0), (.int (751) 0), (.str "/claim/cut.py" 1958)]⟩, ⟨[]⟩⟩
def o_1424 (w : World) : Obj := ⟨(.type "function"), none, .func { name := "_law_rest", qualname := "_law_rest", params := defArgs s_L_rest, body := .stmts (defBody s_L_rest), scope := defScope s_L_rest, globals := 3, closure := [], defaults := .none, kwdefaults := .none, doc := .none, pyModule := (.str "law_closenews_k56_whole_writers_and_mirrors" 2076), annotations := none, code := (.ref 1423), closureTuple := .none, builtins := 0 }, ⟨[]⟩⟩
def o_1423 (w : World) : Obj := ⟨(.type "code"), none, .fields ⟨[(.str "_law_rest" 2078), (.str "_law_rest" 2079), (.str "/claim/cut.py" 2080), (.int (803) 0), (.int (2) 0), (.int (0) 0), (.int (0) 0), (.int (3) 0), (.ref 1418), (.bool true), (.int (181) 0), (.ref 1419), .none, (.ref 1420), (.ref 1421), (.ref 1422), (.int (2083) 0), (.int (803) 0), (.str "/claim/cut.py" 2084)]⟩, ⟨[]⟩⟩
def o_1431 (w : World) : Obj := ⟨(.type "function"), none, .func { name := "_law_draw", qualname := "_law_draw", params := defArgs s_L_draw, body := .stmts (defBody s_L_draw), scope := defScope s_L_draw, globals := 3, closure := [], defaults := .none, kwdefaults := .none, doc := .none, pyModule := (.str "law_closenews_k56_whole_writers_and_mirrors" 2076), annotations := none, code := (.ref 1430), closureTuple := .none, builtins := 0 }, ⟨[]⟩⟩
def o_1430 (w : World) : Obj := ⟨(.type "code"), none, .fields ⟨[(.str "_law_draw" 2086), (.str "_law_draw" 2087), (.str "/claim/cut.py" 2088), (.int (805) 0), (.int (2) 0), (.int (0) 0), (.int (0) 0), (.int (3) 0), (.ref 1425), (.bool true), (.int (181) 0), (.ref 1426), .none, (.ref 1427), (.ref 1428), (.ref 1429), (.int (2093) 0), (.int (805) 0), (.str "/claim/cut.py" 2094)]⟩, ⟨[]⟩⟩
def o_1438 (w : World) : Obj := ⟨(.type "function"), none, .func { name := "_law_pick", qualname := "_law_pick", params := defArgs s_L_pick, body := .stmts (defBody s_L_pick), scope := defScope s_L_pick, globals := 3, closure := [], defaults := .none, kwdefaults := .none, doc := .none, pyModule := (.str "law_closenews_k56_whole_writers_and_mirrors" 2076), annotations := none, code := (.ref 1437), closureTuple := .none, builtins := 0 }, ⟨[]⟩⟩
def o_1437 (w : World) : Obj := ⟨(.type "code"), none, .fields ⟨[(.str "_law_pick" 2096), (.str "_law_pick" 2097), (.str "/claim/cut.py" 2098), (.int (815) 0), (.int (2) 0), (.int (0) 0), (.int (0) 0), (.int (3) 0), (.ref 1432), (.bool true), (.int (181) 0), (.ref 1433), .none, (.ref 1434), (.ref 1435), (.ref 1436), (.int (2101) 0), (.int (815) 0), (.str "/claim/cut.py" 2102)]⟩, ⟨[]⟩⟩
def o_1445 (w : World) : Obj := ⟨(.type "function"), none, .func { name := "_law_mirror_step", qualname := "_law_mirror_step", params := defArgs s_L_mirror_step, body := .stmts (defBody s_L_mirror_step), scope := defScope s_L_mirror_step, globals := 3, closure := [], defaults := .none, kwdefaults := .none, doc := .none, pyModule := (.str "law_closenews_k56_whole_writers_and_mirrors" 2076), annotations := none, code := (.ref 1444), closureTuple := .none, builtins := 0 }, ⟨[]⟩⟩
def o_1444 (w : World) : Obj := ⟨(.type "code"), none, .fields ⟨[(.str "_law_mirror_step" 2104), (.str "_law_mirror_step" 2105), (.str "/claim/cut.py" 2106), (.int (817) 0), (.int (1) 0), (.int (0) 0), (.int (0) 0), (.int (3) 0), (.ref 1439), (.bool true), (.int (181) 0), (.ref 1440), .none, (.ref 1441), (.ref 1442), (.ref 1443), (.int (2109) 0), (.int (817) 0), (.str "/claim/cut.py" 2110)]⟩, ⟨[]⟩⟩
def o_1450 (w : World) : Obj := ⟨(.type "function"), none, .func { name := "_law_mirror_nodes", qualname := "_law_mirror_nodes", params := defArgs s_L_mirror_nodes, body := .stmts (defBody s_L_mirror_nodes), scope := defScope s_L_mirror_nodes, globals := 3, closure := [], defaults := .none, kwdefaults := .none, doc := .none, pyModule := (.str "law_closenews_k56_whole_writers_and_mirrors" 2076), annotations := none, code := (.ref 1449), closureTuple := .none, builtins := 0 }, ⟨[]⟩⟩
def o_1449 (w : World) : Obj := ⟨(.type "code"), none, .fields ⟨[(.str "_law_mirror_nodes" 2112), (.str "_law_mirror_nodes" 2113), (.str "/claim/cut.py" 2114), (.int (820) 0), (.int (2) 0), (.int (0) 0), (.int (0) 0), (.int (3) 0), (.ref 1446), (.bool true), (.int (181) 0), (.ref 1447), .none, .none, .none, (.ref 1448), (.int (2115) 0), (.int (820) 0), (.str "/claim/cut.py" 2116)]⟩, ⟨[]⟩⟩
def o_1457 (w : World) : Obj := ⟨(.type "function"), none, .func { name := "_law_writer_step", qualname := "_law_writer_step", params := defArgs s_L_writer_step, body := .stmts (defBody s_L_writer_step), scope := defScope s_L_writer_step, globals := 3, closure := [], defaults := .none, kwdefaults := .none, doc := .none, pyModule := (.str "law_closenews_k56_whole_writers_and_mirrors" 2076), annotations := none, code := (.ref 1456), closureTuple := .none, builtins := 0 }, ⟨[]⟩⟩
def o_1456 (w : World) : Obj := ⟨(.type "code"), none, .fields ⟨[(.str "_law_writer_step" 2118), (.str "_law_writer_step" 2119), (.str "/claim/cut.py" 2120), (.int (829) 0), (.int (1) 0), (.int (0) 0), (.int (0) 0), (.int (3) 0), (.ref 1451), (.bool true), (.int (181) 0), (.ref 1452), .none, (.ref 1453), (.ref 1454), (.ref 1455), (.int (2123) 0), (.int (829) 0), (.str "/claim/cut.py" 2124)]⟩, ⟨[]⟩⟩
def o_1462 (w : World) : Obj := ⟨(.type "function"), none, .func { name := "_law_writer_nodes", qualname := "_law_writer_nodes", params := defArgs s_L_writer_nodes, body := .stmts (defBody s_L_writer_nodes), scope := defScope s_L_writer_nodes, globals := 3, closure := [], defaults := .none, kwdefaults := .none, doc := .none, pyModule := (.str "law_closenews_k56_whole_writers_and_mirrors" 2076), annotations := none, code := (.ref 1461), closureTuple := .none, builtins := 0 }, ⟨[]⟩⟩
def o_1461 (w : World) : Obj := ⟨(.type "code"), none, .fields ⟨[(.str "_law_writer_nodes" 2126), (.str "_law_writer_nodes" 2127), (.str "/claim/cut.py" 2128), (.int (834) 0), (.int (2) 0), (.int (0) 0), (.int (0) 0), (.int (3) 0), (.ref 1458), (.bool true), (.int (181) 0), (.ref 1459), .none, .none, .none, (.ref 1460), (.int (2129) 0), (.int (834) 0), (.str "/claim/cut.py" 2130)]⟩, ⟨[]⟩⟩
def o_1469 (w : World) : Obj := ⟨(.type "function"), none, .func { name := "_law_final_run", qualname := "_law_final_run", params := defArgs s_L_final_run, body := .stmts (defBody s_L_final_run), scope := defScope s_L_final_run, globals := 3, closure := [], defaults := .none, kwdefaults := .none, doc := .none, pyModule := (.str "law_closenews_k56_whole_writers_and_mirrors" 2076), annotations := none, code := (.ref 1468), closureTuple := .none, builtins := 0 }, ⟨[]⟩⟩
def o_1468 (w : World) : Obj := ⟨(.type "code"), none, .fields ⟨[(.str "_law_final_run" 2132), (.str "_law_final_run" 2133), (.str "/claim/cut.py" 2134), (.int (840) 0), (.int (3) 0), (.int (0) 0), (.int (0) 0), (.int (3) 0), (.ref 1463), (.bool true), (.int (181) 0), (.ref 1464), .none, (.ref 1465), (.ref 1466), (.ref 1467), (.int (2142) 0), (.int (840) 0), (.str "/claim/cut.py" 2143)]⟩, ⟨[]⟩⟩
def o_1474 (w : World) : Obj := ⟨(.type "function"), none, .func { name := "_law_written", qualname := "_law_written", params := defArgs s_L_written, body := .stmts (defBody s_L_written), scope := defScope s_L_written, globals := 3, closure := [], defaults := .none, kwdefaults := .none, doc := .none, pyModule := (.str "law_closenews_k56_whole_writers_and_mirrors" 2076), annotations := none, code := (.ref 1473), closureTuple := .none, builtins := 0 }, ⟨[]⟩⟩
def o_1473 (w : World) : Obj := ⟨(.type "code"), none, .fields ⟨[(.str "_law_written" 2145), (.str "_law_written" 2146), (.str "/claim/cut.py" 2147), (.int (851) 0), (.int (4) 0), (.int (0) 0), (.int (0) 0), (.int (3) 0), (.ref 1470), (.bool true), (.int (181) 0), (.ref 1471), .none, .none, .none, (.ref 1472), (.int (2148) 0), (.int (851) 0), (.str "/claim/cut.py" 2149)]⟩, ⟨[]⟩⟩
def o_1481 (w : World) : Obj := ⟨(.type "function"), none, .func { name := "_law_lies", qualname := "_law_lies", params := defArgs s_L_lies, body := .stmts (defBody s_L_lies), scope := defScope s_L_lies, globals := 3, closure := [], defaults := .none, kwdefaults := .none, doc := .none, pyModule := (.str "law_closenews_k56_whole_writers_and_mirrors" 2076), annotations := none, code := (.ref 1480), closureTuple := .none, builtins := 0 }, ⟨[]⟩⟩
def o_1480 (w : World) : Obj := ⟨(.type "code"), none, .fields ⟨[(.str "_law_lies" 2151), (.str "_law_lies" 2152), (.str "/claim/cut.py" 2153), (.int (858) 0), (.int (3) 0), (.int (0) 0), (.int (0) 0), (.int (3) 0), (.ref 1475), (.bool true), (.int (181) 0), (.ref 1476), .none, (.ref 1477), (.ref 1478), (.ref 1479), (.int (2157) 0), (.int (858) 0), (.str "/claim/cut.py" 2158)]⟩, ⟨[]⟩⟩
def o_1488 (w : World) : Obj := ⟨(.type "function"), none, .func { name := "_law_pen", qualname := "_law_pen", params := defArgs s_L_pen, body := .stmts (defBody s_L_pen), scope := defScope s_L_pen, globals := 3, closure := [], defaults := .none, kwdefaults := .none, doc := .none, pyModule := (.str "law_closenews_k56_whole_writers_and_mirrors" 2076), annotations := none, code := (.ref 1487), closureTuple := .none, builtins := 0 }, ⟨[]⟩⟩
def o_1487 (w : World) : Obj := ⟨(.type "code"), none, .fields ⟨[(.str "_law_pen" 2160), (.str "_law_pen" 2161), (.str "/claim/cut.py" 2162), (.int (862) 0), (.int (1) 0), (.int (0) 0), (.int (0) 0), (.int (3) 0), (.ref 1482), (.bool true), (.int (181) 0), (.ref 1483), .none, (.ref 1484), (.ref 1485), (.ref 1486), (.int (2164) 0), (.int (862) 0), (.str "/claim/cut.py" 2165)]⟩, ⟨[]⟩⟩
def o_1495 (w : World) : Obj := ⟨(.type "function"), none, .func { name := "_law_cell_at", qualname := "_law_cell_at", params := defArgs s_L_cell_at, body := .stmts (defBody s_L_cell_at), scope := defScope s_L_cell_at, globals := 3, closure := [], defaults := .none, kwdefaults := .none, doc := .none, pyModule := (.str "law_closenews_k56_whole_writers_and_mirrors" 2076), annotations := none, code := (.ref 1494), closureTuple := .none, builtins := 0 }, ⟨[]⟩⟩
def o_1494 (w : World) : Obj := ⟨(.type "code"), none, .fields ⟨[(.str "_law_cell_at" 2167), (.str "_law_cell_at" 2168), (.str "/claim/cut.py" 2169), (.int (864) 0), (.int (2) 0), (.int (0) 0), (.int (0) 0), (.int (3) 0), (.ref 1489), (.bool true), (.int (181) 0), (.ref 1490), .none, (.ref 1491), (.ref 1492), (.ref 1493), (.int (2172) 0), (.int (864) 0), (.str "/claim/cut.py" 2173)]⟩, ⟨[]⟩⟩
def o_1500 (w : World) : Obj := ⟨(.type "function"), none, .func { name := "_law_pens", qualname := "_law_pens", params := defArgs s_L_pens, body := .stmts (defBody s_L_pens), scope := defScope s_L_pens, globals := 3, closure := [], defaults := .none, kwdefaults := .none, doc := .none, pyModule := (.str "law_closenews_k56_whole_writers_and_mirrors" 2076), annotations := none, code := (.ref 1499), closureTuple := .none, builtins := 0 }, ⟨[]⟩⟩
def o_1499 (w : World) : Obj := ⟨(.type "code"), none, .fields ⟨[(.str "_law_pens" 2175), (.str "_law_pens" 2176), (.str "/claim/cut.py" 2177), (.int (868) 0), (.int (2) 0), (.int (0) 0), (.int (0) 0), (.int (3) 0), (.ref 1496), (.bool true), (.int (181) 0), (.ref 1497), .none, .none, .none, (.ref 1498), (.int (2178) 0), (.int (868) 0), (.str "/claim/cut.py" 2179)]⟩, ⟨[]⟩⟩
def o_1507 (w : World) : Obj := ⟨(.type "function"), none, .func { name := "_law_rule", qualname := "_law_rule", params := defArgs s_L_rule, body := .stmts (defBody s_L_rule), scope := defScope s_L_rule, globals := 3, closure := [], defaults := .none, kwdefaults := .none, doc := .none, pyModule := (.str "law_closenews_k56_whole_writers_and_mirrors" 2076), annotations := none, code := (.ref 1506), closureTuple := .none, builtins := 0 }, ⟨[]⟩⟩
def o_1506 (w : World) : Obj := ⟨(.type "code"), none, .fields ⟨[(.str "_law_rule" 2181), (.str "_law_rule" 2182), (.str "/claim/cut.py" 2183), (.int (870) 0), (.int (1) 0), (.int (0) 0), (.int (0) 0), (.int (3) 0), (.ref 1501), (.bool true), (.int (181) 0), (.ref 1502), .none, (.ref 1503), (.ref 1504), (.ref 1505), (.int (2185) 0), (.int (870) 0), (.str "/claim/cut.py" 2186)]⟩, ⟨[]⟩⟩
def o_1514 (w : World) : Obj := ⟨(.type "function"), none, .func { name := "_law_start", qualname := "_law_start", params := defArgs s_L_start, body := .stmts (defBody s_L_start), scope := defScope s_L_start, globals := 3, closure := [], defaults := .none, kwdefaults := .none, doc := .none, pyModule := (.str "law_closenews_k56_whole_writers_and_mirrors" 2076), annotations := none, code := (.ref 1513), closureTuple := .none, builtins := 0 }, ⟨[]⟩⟩
def o_1513 (w : World) : Obj := ⟨(.type "code"), none, .fields ⟨[(.str "_law_start" 2188), (.str "_law_start" 2189), (.str "/claim/cut.py" 2190), (.int (872) 0), (.int (0) 0), (.int (0) 0), (.int (0) 0), (.int (3) 0), (.ref 1508), (.bool true), (.int (181) 0), (.ref 1509), .none, (.ref 1510), (.ref 1511), (.ref 1512), (.int (2191) 0), (.int (872) 0), (.str "/claim/cut.py" 2192)]⟩, ⟨[]⟩⟩
def o_1521 (w : World) : Obj := ⟨(.type "function"), none, .func { name := "_law_alone", qualname := "_law_alone", params := defArgs s_L_alone, body := .stmts (defBody s_L_alone), scope := defScope s_L_alone, globals := 3, closure := [], defaults := .none, kwdefaults := .none, doc := .none, pyModule := (.str "law_closenews_k56_whole_writers_and_mirrors" 2076), annotations := none, code := (.ref 1520), closureTuple := .none, builtins := 0 }, ⟨[]⟩⟩
def o_1520 (w : World) : Obj := ⟨(.type "code"), none, .fields ⟨[(.str "_law_alone" 2194), (.str "_law_alone" 2195), (.str "/claim/cut.py" 2196), (.int (874) 0), (.int (2) 0), (.int (0) 0), (.int (0) 0), (.int (3) 0), (.ref 1515), (.bool true), (.int (181) 0), (.ref 1516), .none, (.ref 1517), (.ref 1518), (.ref 1519), (.int (2204) 0), (.int (874) 0), (.str "/claim/cut.py" 2205)]⟩, ⟨[]⟩⟩
def o_1528 (w : World) : Obj := ⟨(.type "function"), none, .func { name := "_law_within", qualname := "_law_within", params := defArgs s_L_within, body := .stmts (defBody s_L_within), scope := defScope s_L_within, globals := 3, closure := [], defaults := .none, kwdefaults := .none, doc := .none, pyModule := (.str "law_closenews_k56_whole_writers_and_mirrors" 2076), annotations := none, code := (.ref 1527), closureTuple := .none, builtins := 0 }, ⟨[]⟩⟩
def o_1527 (w : World) : Obj := ⟨(.type "code"), none, .fields ⟨[(.str "_law_within" 2207), (.str "_law_within" 2208), (.str "/claim/cut.py" 2209), (.int (885) 0), (.int (2) 0), (.int (0) 0), (.int (0) 0), (.int (3) 0), (.ref 1522), (.bool true), (.int (181) 0), (.ref 1523), .none, (.ref 1524), (.ref 1525), (.ref 1526), (.int (2217) 0), (.int (885) 0), (.str "/claim/cut.py" 2218)]⟩, ⟨[]⟩⟩
def o_1535 (w : World) : Obj := ⟨(.type "function"), none, .func { name := "_law_after", qualname := "_law_after", params := defArgs s_L_after, body := .stmts (defBody s_L_after), scope := defScope s_L_after, globals := 3, closure := [], defaults := .none, kwdefaults := .none, doc := .none, pyModule := (.str "law_closenews_k56_whole_writers_and_mirrors" 2076), annotations := none, code := (.ref 1534), closureTuple := .none, builtins := 0 }, ⟨[]⟩⟩
def o_1534 (w : World) : Obj := ⟨(.type "code"), none, .fields ⟨[(.str "_law_after" 2220), (.str "_law_after" 2221), (.str "/claim/cut.py" 2222), (.int (896) 0), (.int (2) 0), (.int (0) 0), (.int (0) 0), (.int (3) 0), (.ref 1529), (.bool true), (.int (181) 0), (.ref 1530), .none, (.ref 1531), (.ref 1532), (.ref 1533), (.int (2230) 0), (.int (896) 0), (.str "/claim/cut.py" 2231)]⟩, ⟨[]⟩⟩
def o_1542 (w : World) : Obj := ⟨(.type "function"), none, .func { name := "_law_replayed", qualname := "_law_replayed", params := defArgs s_L_replayed, body := .stmts (defBody s_L_replayed), scope := defScope s_L_replayed, globals := 3, closure := [], defaults := .none, kwdefaults := .none, doc := .none, pyModule := (.str "law_closenews_k56_whole_writers_and_mirrors" 2076), annotations := none, code := (.ref 1541), closureTuple := .none, builtins := 0 }, ⟨[]⟩⟩
def o_1541 (w : World) : Obj := ⟨(.type "code"), none, .fields ⟨[(.str "_law_replayed" 2233), (.str "_law_replayed" 2234), (.str "/claim/cut.py" 2235), (.int (905) 0), (.int (2) 0), (.int (0) 0), (.int (0) 0), (.int (3) 0), (.ref 1536), (.bool true), (.int (181) 0), (.ref 1537), .none, (.ref 1538), (.ref 1539), (.ref 1540), (.int (2243) 0), (.int (905) 0), (.str "/claim/cut.py" 2244)]⟩, ⟨[]⟩⟩
def o_1549 (w : World) : Obj := ⟨(.type "function"), none, .func { name := "_law_cut_at_rest", qualname := "_law_cut_at_rest", params := defArgs s_L_cut_at_rest, body := .stmts (defBody s_L_cut_at_rest), scope := defScope s_L_cut_at_rest, globals := 3, closure := [], defaults := .none, kwdefaults := .none, doc := .none, pyModule := (.str "law_closenews_k56_whole_writers_and_mirrors" 2076), annotations := none, code := (.ref 1548), closureTuple := .none, builtins := 0 }, ⟨[]⟩⟩
def o_1548 (w : World) : Obj := ⟨(.type "code"), none, .fields ⟨[(.str "_law_cut_at_rest" 2246), (.str "_law_cut_at_rest" 2247), (.str "/claim/cut.py" 2248), (.int (911) 0), (.int (3) 0), (.int (0) 0), (.int (0) 0), (.int (3) 0), (.ref 1543), (.bool true), (.int (181) 0), (.ref 1544), .none, (.ref 1545), (.ref 1546), (.ref 1547), (.int (2255) 0), (.int (911) 0), (.str "/claim/cut.py" 2256)]⟩, ⟨[]⟩⟩
def o_1556 (w : World) : Obj := ⟨(.type "function"), none, .func { name := "_law_mirror_drawn", qualname := "_law_mirror_drawn", params := defArgs s_L_mirror_drawn, body := .stmts (defBody s_L_mirror_drawn), scope := defScope s_L_mirror_drawn, globals := 3, closure := [], defaults := .none, kwdefaults := .none, doc := .none, pyModule := (.str "law_closenews_k56_whole_writers_and_mirrors" 2076), annotations := none, code := (.ref 1555), closureTuple := .none, builtins := 0 }, ⟨[]⟩⟩
def o_1555 (w : World) : Obj := ⟨(.type "code"), none, .fields ⟨[(.str "_law_mirror_drawn" 2258), (.str "_law_mirror_drawn" 2259), (.str "/claim/cut.py" 2260), (.int (917) 0), (.int (3) 0), (.int (0) 0), (.int (0) 0), (.int (3) 0), (.ref 1550), (.bool true), (.int (181) 0), (.ref 1551), .none, (.ref 1552), (.ref 1553), (.ref 1554), (.int (2268) 0), (.int (917) 0), (.str "/claim/cut.py" 2269)]⟩, ⟨[]⟩⟩
def o_1563 (w : World) : Obj := ⟨(.type "function"), none, .func { name := "_law_good_mirror", qualname := "_law_good_mirror", params := defArgs s_L_good_mirror, body := .stmts (defBody s_L_good_mirror), scope := defScope s_L_good_mirror, globals := 3, closure := [], defaults := .none, kwdefaults := .none, doc := .none, pyModule := (.str "law_closenews_k56_whole_writers_and_mirrors" 2076), annotations := none, code := (.ref 1562), closureTuple := .none, builtins := 0 }, ⟨[]⟩⟩
def o_1562 (w : World) : Obj := ⟨(.type "code"), none, .fields ⟨[(.str "_law_good_mirror" 2271), (.str "_law_good_mirror" 2272), (.str "/claim/cut.py" 2273), (.int (924) 0), (.int (1) 0), (.int (0) 0), (.int (0) 0), (.int (3) 0), (.ref 1557), (.bool true), (.int (181) 0), (.ref 1558), .none, (.ref 1559), (.ref 1560), (.ref 1561), (.int (2278) 0), (.int (924) 0), (.str "/claim/cut.py" 2279)]⟩, ⟨[]⟩⟩
def o_1570 (w : World) : Obj := ⟨(.type "function"), none, .func { name := "_law_honest", qualname := "_law_honest", params := defArgs s_L_honest, body := .stmts (defBody s_L_honest), scope := defScope s_L_honest, globals := 3, closure := [], defaults := .none, kwdefaults := .none, doc := .none, pyModule := (.str "law_closenews_k56_whole_writers_and_mirrors" 2076), annotations := none, code := (.ref 1569), closureTuple := .none, builtins := 0 }, ⟨[]⟩⟩
def o_1569 (w : World) : Obj := ⟨(.type "code"), none, .fields ⟨[(.str "_law_honest" 2281), (.str "_law_honest" 2282), (.str "/claim/cut.py" 2283), (.int (934) 0), (.int (3) 0), (.int (0) 0), (.int (0) 0), (.int (3) 0), (.ref 1564), (.bool true), (.int (181) 0), (.ref 1565), .none, (.ref 1566), (.ref 1567), (.ref 1568), (.int (2296) 0), (.int (934) 0), (.str "/claim/cut.py" 2297)]⟩, ⟨[]⟩⟩
def o_1577 (w : World) : Obj := ⟨(.type "function"), none, .func { name := "_law_committed", qualname := "_law_committed", params := defArgs s_L_committed, body := .stmts (defBody s_L_committed), scope := defScope s_L_committed, globals := 3, closure := [], defaults := .none, kwdefaults := .none, doc := .none, pyModule := (.str "law_closenews_k56_whole_writers_and_mirrors" 2076), annotations := none, code := (.ref 1576), closureTuple := .none, builtins := 0 }, ⟨[]⟩⟩
def o_1576 (w : World) : Obj := ⟨(.type "code"), none, .fields ⟨[(.str "_law_committed" 2299), (.str "_law_committed" 2300), (.str "/claim/cut.py" 2301), (.int (946) 0), (.int (2) 0), (.int (0) 0), (.int (0) 0), (.int (3) 0), (.ref 1571), (.bool true), (.int (181) 0), (.ref 1572), .none, (.ref 1573), (.ref 1574), (.ref 1575), (.int (2307) 0), (.int (946) 0), (.str "/claim/cut.py" 2308)]⟩, ⟨[]⟩⟩
def o_1584 (w : World) : Obj := ⟨(.type "function"), none, .func { name := "law", qualname := "law", params := defArgs s_law, body := .stmts (defBody s_law), scope := defScope s_law, globals := 3, closure := [], defaults := .none, kwdefaults := .none, doc := .none, pyModule := (.str "law_closenews_k56_whole_writers_and_mirrors" 2076), annotations := none, code := (.ref 1583), closureTuple := .none, builtins := 0 }, ⟨[]⟩⟩
def o_1583 (w : World) : Obj := ⟨(.type "code"), none, .fields ⟨[(.str "law" 2310), (.str "law" 2311), (.str "/claim/cut.py" 2312), (.int (957) 0), (.int (1) 0), (.int (0) 0), (.int (0) 0), (.int (3) 0), (.ref 1578), (.bool true), (.int (181) 0), (.ref 1579), .none, (.ref 1580), (.ref 1581), (.ref 1582), (.int (2324) 0), (.int (957) 0), (.str "/claim/cut.py" 2325)]⟩, ⟨[]⟩⟩
def as0 : List Addr := [3, 2, 391, 390, 515, 514, 567, 566, 644, 643, 697, 696, 772, 771, 826, 825, 948, 947, 1078, 1077, 1113, 1112, 1141, 1140, 1196, 1195, 1215, 1214, 1294, 1293, 1359, 1358, 31, 30, 649, 299, 650, 953, 902, 1270]
def os0 (w : World) : List Obj := [o_3 w, o_2 w, o_391 w, o_390 w, o_515 w, o_514 w, o_567 w, o_566 w, o_644 w, o_643 w, o_697 w, o_696 w, o_772 w, o_771 w, o_826 w, o_825 w, o_948 w, o_947 w, o_1078 w, o_1077 w, o_1113 w, o_1112 w, o_1141 w, o_1140 w, o_1196 w, o_1195 w, o_1215 w, o_1214 w, o_1294 w, o_1293 w, o_1359 w, o_1358 w, o_31 w, o_30 w, o_649 w, o_299 w, o_650 w, o_953 w, o_902 w, o_1270 w]
def as1 : List Addr := [306, 305, 311, 310, 318, 317, 325, 324, 332, 331, 339, 338, 346, 345, 360, 359, 402, 401, 416, 415, 423, 422, 437, 436, 444, 443, 526, 525, 531, 530, 545, 544, 552, 551, 585, 584, 592, 591, 620, 619]
def os1 (w : World) : List Obj := [o_306 w, o_305 w, o_311 w, o_310 w, o_318 w, o_317 w, o_325 w, o_324 w, o_332 w, o_331 w, o_339 w, o_338 w, o_346 w, o_345 w, o_360 w, o_359 w, o_402 w, o_401 w, o_416 w, o_415 w, o_423 w, o_422 w, o_437 w, o_436 w, o_444 w, o_443 w, o_526 w, o_525 w, o_531 w, o_530 w, o_545 w, o_544 w, o_552 w, o_551 w, o_585 w, o_584 w, o_592 w, o_591 w, o_620 w, o_619 w]
def as2 : List Addr := [627, 626, 657, 656, 673, 672, 661, 680, 679, 687, 686, 713, 712, 748, 747, 755, 754, 762, 761, 769, 768, 788, 787, 795, 794, 802, 801, 809, 808, 816, 815, 894, 893, 901, 900, 917, 916, 924, 923, 931]
def os2 (w : World) : List Obj := [o_627 w, o_626 w, o_657 w, o_656 w, o_673 w, o_672 w, o_661 w, o_680 w, o_679 w, o_687 w, o_686 w, o_713 w, o_712 w, o_748 w, o_747 w, o_755 w, o_754 w, o_762 w, o_761 w, o_769 w, o_768 w, o_788 w, o_787 w, o_795 w, o_794 w, o_802 w, o_801 w, o_809 w, o_808 w, o_816 w, o_815 w, o_894 w, o_893 w, o_901 w, o_900 w, o_917 w, o_916 w, o_924 w, o_923 w, o_931 w]
def as3 : List Addr := [930, 938, 937, 945, 944, 967, 966, 982, 981, 989, 988, 1010, 1009, 1017, 1016, 1022, 1021, 1027, 1026, 1032, 1031, 1037, 1036, 1042, 1041, 1063, 1062, 1070, 1069, 1075, 1074, 1089, 1088, 1103, 1102, 1110, 1109, 1131, 1130, 1138]
def os3 (w : World) : List Obj := [o_930 w, o_938 w, o_937 w, o_945 w, o_944 w, o_967 w, o_966 w, o_982 w, o_981 w, o_989 w, o_988 w, o_1010 w, o_1009 w, o_1017 w, o_1016 w, o_1022 w, o_1021 w, o_1027 w, o_1026 w, o_1032 w, o_1031 w, o_1037 w, o_1036 w, o_1042 w, o_1041 w, o_1063 w, o_1062 w, o_1070 w, o_1069 w, o_1075 w, o_1074 w, o_1089 w, o_1088 w, o_1103 w, o_1102 w, o_1110 w, o_1109 w, o_1131 w, o_1130 w, o_1138 w]
def as4 : List Addr := [1137, 1159, 1158, 1147, 1180, 1179, 1186, 1185, 1181, 1193, 1192, 1230, 1229, 1225, 1237, 1236, 1244, 1243, 1249, 1248, 1269, 1268, 1307, 1306, 1312, 1311, 1328, 1327, 1316, 1335, 1334, 1424, 1423, 1431, 1430, 1438, 1437, 1445, 1444, 1450]
def os4 (w : World) : List Obj := [o_1137 w, o_1159 w, o_1158 w, o_1147 w, o_1180 w, o_1179 w, o_1186 w, o_1185 w, o_1181 w, o_1193 w, o_1192 w, o_1230 w, o_1229 w, o_1225 w, o_1237 w, o_1236 w, o_1244 w, o_1243 w, o_1249 w, o_1248 w, o_1269 w, o_1268 w, o_1307 w, o_1306 w, o_1312 w, o_1311 w, o_1328 w, o_1327 w, o_1316 w, o_1335 w, o_1334 w, o_1424 w, o_1423 w, o_1431 w, o_1430 w, o_1438 w, o_1437 w, o_1445 w, o_1444 w, o_1450 w]
def as5 : List Addr := [1449, 1457, 1456, 1462, 1461, 1469, 1468, 1474, 1473, 1481, 1480, 1488, 1487, 1495, 1494, 1500, 1499, 1507, 1506, 1514, 1513, 1521, 1520, 1528, 1527, 1535, 1534, 1542, 1541, 1549, 1548, 1556, 1555, 1563, 1562, 1570, 1569, 1577, 1576, 1584]
def os5 (w : World) : List Obj := [o_1449 w, o_1457 w, o_1456 w, o_1462 w, o_1461 w, o_1469 w, o_1468 w, o_1474 w, o_1473 w, o_1481 w, o_1480 w, o_1488 w, o_1487 w, o_1495 w, o_1494 w, o_1500 w, o_1499 w, o_1507 w, o_1506 w, o_1514 w, o_1513 w, o_1521 w, o_1520 w, o_1528 w, o_1527 w, o_1535 w, o_1534 w, o_1542 w, o_1541 w, o_1549 w, o_1548 w, o_1556 w, o_1555 w, o_1563 w, o_1562 w, o_1570 w, o_1569 w, o_1577 w, o_1576 w, o_1584 w]
def as6 : List Addr := [1583]
def os6 (w : World) : List Obj := [o_1583 w]
def asL : List Addr := as0 ++ (as1 ++ (as2 ++ (as3 ++ (as4 ++ (as5 ++ (as6))))))
def osL (w : World) : List Obj := os0 w ++ (os1 w ++ (os2 w ++ (os3 w ++ (os4 w ++ (os5 w ++ (os6 w))))))
def KL (w : World) : PySem.W.Frag := asL.zip (osL w)
theorem zip_in {g : Addr → Option Obj} : ∀ {as : List Addr} {os : List Obj}, as.map g = os.map some → ∀ a o, (as.zip os).lookup a = some o → g a = some o
  | [], _, _, a, o, h => by cases h
  | _ :: _, [], _, a, o, h => by cases h
  | b :: as, u :: os, e, a, o, h => by
    have e1 : g b :: as.map g = some u :: os.map some := e
    injection e1 with e2 e3
    have h2 : (match a == b with | true => some u | false => (as.zip os).lookup a) = some o := h
    cases q : (a == b) with
    | true =>
      rw [q] at h2
      have e4 : u = o := Option.some.inj h2
      rw [beq_iff_eq.mp q, e2, e4]
    | false =>
      rw [q] at h2
      exact zip_in e3 a o h2
def hk : PySem.W.Hook where
  α := List (Option Obj)
  obs := fun s => asL.map s.heap.get?
  val := fun w => (osL w).map some
  says := fun w h => (KL w).In h
  of := fun w s e => fun a o q => zip_in e a o q
  keeps := fun _ _ _ hK k => PySem.W.Frag.In.keeps hK k
def nm0 : List Str := ["_wall", "NewsError", "InvalidName", "InvalidWord", "InvalidRule", "InvalidNotice", "InvalidRoom", "InvalidCells", "UnknownCell", "NameTaken", "TransactionOpen", "Ended", "InvalidStep", "InvalidNumber", "InvalidGraph", "InvalidRun", "InvalidWay", "InvalidText", "Conflict", "Full", "TooLarge", "LETTERS", "SIGNS", "LONGEST", "RULES", "is_between", "is_string_of", "is_name", "is_word", "need_name"]
def nm1 : List Str := ["need_word", "need_rule", "Notice", "need_notice", "notice_in", "once", "folded", "Batch", "MOST_NODES", "MOST_EDGES", "MOST_REPAIRED", "OTHER", "are_nodes", "are_finals", "Graph", "Question", "STEPS", "UPDATES", "READ", "MANY", "is_mirror_step", "Mirror", "Watch", "Stale", "Back", "Keeper", "LENGTHS", "Transaction", "do_step", "MOST"]
def nm2 : List Str := ["Member", "Sender", "Listener", "Client", "MOST_CELLS", "MOST_ROOM", "Store", "WAYS", "MOST_WORDS", "BITS", "is_writer_step", "words_of", "Writer", "Lies", "_law_rest", "_law_draw", "_law_pick", "_law_mirror_step", "_law_mirror_nodes", "_law_writer_step", "_law_writer_nodes", "_law_final_run", "_law_written", "_law_lies", "_law_pen", "_law_cell_at", "_law_pens", "_law_rule", "_law_start", "_law_alone"]
def nm3 : List Str := ["_law_within", "_law_after", "_law_replayed", "_law_cut_at_rest", "_law_mirror_drawn", "_law_good_mirror", "_law_honest", "_law_committed"]
def names : List Str := nm0 ++ nm1 ++ nm2 ++ nm3
set_option maxHeartbeats 0
abbrev rowO : PySem.W.OpenRow := PySem.W.OpenLaw.row PySem.Challenge.rw_closenews_k56_whole_writers_and_mirrors
def ob (s : PySem.W.SharedT) : List (Option Obj) := asL.map (HandSHeadRun.getT s)
theorem ob_eq (s : PySem.W.SharedT) : ob s = hk.obs s.abs := by
  have e : HandSHeadRun.getT s = s.abs.heap.get? := funext (HandSHeadRun.getT_eq s)
  unfold ob
  rw [e] <;> rfl
theorem run0 (w : World) : HandSHeadRun.RunEq rowO (PySem.W.view rowO.prog [107]) hk ob 14000 names (w.withFollow "special-get-raises" false) := by
  intro os
  kernel_rfl
theorem run1 (w : World) : HandSHeadRun.RunEq rowO (PySem.W.view rowO.prog [107]) hk ob 14000 names (w.withFollow "special-get-raises" true) := by
  intro os
  kernel_rfl
theorem headRun (w : World) : HandSHeadRun.RunEq rowO (PySem.W.view rowO.prog [107]) hk ob 14000 names w := PySem.W.byRow2 "special-get-raises" (P := fun w => HandSHeadRun.RunEq rowO (PySem.W.view rowO.prog [107]) hk ob 14000 names w) run0 run1 w
set_option maxHeartbeats 4000000
/-- what the bodies lean on -/
structure Tx (w : World) (K : PySem.W.Frag) (mg : Str → Option Value) : Prop where
  says : K = KL w
  ns : ∀ x v, PySem.W.nsIn K mainGlobals x = some v → mg x = v
section
variable {w : World} {K : PySem.W.Frag} {mg : Str → Option Value}
theorem Tx.of {h : Heap} (X : (KL w).In h) (G : h.Ns mainGlobals mg) : Tx w (KL w) mg := ⟨rfl, fun x v e => by
  cases v with
  | none => exact PySem.W.mg_none_of X G e
  | some u => exact PySem.W.mg_of X G e⟩
theorem bsOk (w : World) : (bs.all fun b => b (KL w)) = true := by kernel_rfl
theorem fsOk (w : World) : (fs.all fun d => d.ok (KL w)) = true := by kernel_rfl
theorem fvOk (w : World) : fs.map (fun d => fv (KL w) d.at_) = fs.map FD.val := by kernel_rfl
theorem Tx.b (T : Tx w K mg) (i : Nat) {b : PySem.W.Frag → Bool} (h : bs[i]? = some b := by rfl) : b K = true := T.says ▸ List.all_eq_true.mp (bsOk w) b (List.mem_of_getElem? h)
theorem Tx.d (T : Tx w K mg) (i : Nat) {d : FD} (h : fs[i]? = some d := by rfl) : ∃ fd, FunC K d fd := by
  have e0 := T.says
  subst e0
  have e2 : (fs.map fun d => fv (KL w) d.at_)[i]? = (fs.map FD.val)[i]? := by rw [fvOk w]
  rw [List.getElem?_map, List.getElem?_map, h] at e2
  exact FD.fun (Option.some.inj e2) (List.all_eq_true.mp (fsOk w) d (List.mem_of_getElem? h))
theorem Tx.tab (T : Tx w K mg) : ∃ es n, KDict K w a_LENGTHS es n := by
  have h := T.says
  subst h
  exact He.dicW_ok (ks := ["set", "say", "listen", "unlisten"]) (by kernel_rfl)
theorem Tx.glo (T : Tx w K mg) {x : Str} {a : Addr} (c : bGlo x a K = true) : mg x = some (.ref a) := T.ns _ _ (He.eqO_ok c)
theorem Tx.free (T : Tx w K mg) {x : Str} (c : (He.Fa.free x).ok K = true) : mg x = none := T.ns _ _ (He.eqO_ok c)
theorem Tx.int (T : Tx w K mg) {x : Str} {i : Int} (c : (He.Fa.int x i).ok K = true) : ∃ t, mg x = some (.int i t) := by
  have c2 : (match PySem.W.nsIn K mainGlobals x with
    | some (some (.int j _)) => decide (j = i)
    | _ => false) = true := c
  cases e : PySem.W.nsIn K mainGlobals x with
  | none =>
    rw [e] at c2
    cases c2
  | some o =>
    rw [e] at c2
    cases o with
    | none => cases c2
    | some v =>
      cases v with
      | int j t =>
        have ej : j = i := of_decide_eq_true c2
        rw [ej] at e
        exact ⟨t, T.ns _ _ e⟩
      | _ => cases c2
theorem Tx.str (T : Tx w K mg) {x z : Str} (c : (He.Fa.str x z).ok K = true) : ∃ t, mg x = some (.str z t) := by
  have c2 : (match PySem.W.nsIn K mainGlobals x with
    | some (some (.str y _)) => decide (y = z)
    | _ => false) = true := c
  cases e : PySem.W.nsIn K mainGlobals x with
  | none =>
    rw [e] at c2
    cases c2
  | some o =>
    rw [e] at c2
    cases o with
    | none => cases c2
    | some v =>
      cases v with
      | str y t =>
        have ej : y = z := of_decide_eq_true c2
        rw [ej] at e
        exact ⟨t, T.ns _ _ e⟩
      | _ => cases c2
theorem Tx.g_is_between (T : Tx w K mg) : mg "is_between" = some (.ref a_is_between) := (fun c => T.glo c) (T.b 0)
theorem Tx.g_is_string_of (T : Tx w K mg) : mg "is_string_of" = some (.ref a_is_string_of) := (fun c => T.glo c) (T.b 1)
theorem Tx.g_is_name (T : Tx w K mg) : mg "is_name" = some (.ref a_is_name) := (fun c => T.glo c) (T.b 2)
theorem Tx.g_is_word (T : Tx w K mg) : mg "is_word" = some (.ref a_is_word) := (fun c => T.glo c) (T.b 3)
theorem Tx.g_need_name (T : Tx w K mg) : mg "need_name" = some (.ref a_need_name) := (fun c => T.glo c) (T.b 4)
theorem Tx.g_need_word (T : Tx w K mg) : mg "need_word" = some (.ref a_need_word) := (fun c => T.glo c) (T.b 5)
theorem Tx.g_need_rule (T : Tx w K mg) : mg "need_rule" = some (.ref a_need_rule) := (fun c => T.glo c) (T.b 6)
theorem Tx.g_need_notice (T : Tx w K mg) : mg "need_notice" = some (.ref a_need_notice) := (fun c => T.glo c) (T.b 7)
theorem Tx.g_once (T : Tx w K mg) : mg "once" = some (.ref a_once) := (fun c => T.glo c) (T.b 8)
theorem Tx.g_folded (T : Tx w K mg) : mg "folded" = some (.ref a_folded) := (fun c => T.glo c) (T.b 9)
theorem Tx.g_are_nodes (T : Tx w K mg) : mg "are_nodes" = some (.ref a_are_nodes) := (fun c => T.glo c) (T.b 10)
theorem Tx.g_are_finals (T : Tx w K mg) : mg "are_finals" = some (.ref a_are_finals) := (fun c => T.glo c) (T.b 11)
theorem Tx.g_is_mirror_step (T : Tx w K mg) : mg "is_mirror_step" = some (.ref a_is_mirror_step) := (fun c => T.glo c) (T.b 12)
theorem Tx.g_do_step (T : Tx w K mg) : mg "do_step" = some (.ref a_do_step) := (fun c => T.glo c) (T.b 13)
theorem Tx.g_is_writer_step (T : Tx w K mg) : mg "is_writer_step" = some (.ref a_is_writer_step) := (fun c => T.glo c) (T.b 14)
theorem Tx.g_words_of (T : Tx w K mg) : mg "words_of" = some (.ref a_words_of) := (fun c => T.glo c) (T.b 15)
theorem Tx.g__law_rest (T : Tx w K mg) : mg "_law_rest" = some (.ref a__law_rest) := (fun c => T.glo c) (T.b 16)
theorem Tx.g__law_draw (T : Tx w K mg) : mg "_law_draw" = some (.ref a__law_draw) := (fun c => T.glo c) (T.b 17)
theorem Tx.g__law_pick (T : Tx w K mg) : mg "_law_pick" = some (.ref a__law_pick) := (fun c => T.glo c) (T.b 18)
theorem Tx.g__law_mirror_step (T : Tx w K mg) : mg "_law_mirror_step" = some (.ref a__law_mirror_step) := (fun c => T.glo c) (T.b 19)
theorem Tx.g__law_mirror_nodes (T : Tx w K mg) : mg "_law_mirror_nodes" = some (.ref a__law_mirror_nodes) := (fun c => T.glo c) (T.b 20)
theorem Tx.g__law_writer_step (T : Tx w K mg) : mg "_law_writer_step" = some (.ref a__law_writer_step) := (fun c => T.glo c) (T.b 21)
theorem Tx.g__law_writer_nodes (T : Tx w K mg) : mg "_law_writer_nodes" = some (.ref a__law_writer_nodes) := (fun c => T.glo c) (T.b 22)
theorem Tx.g__law_final_run (T : Tx w K mg) : mg "_law_final_run" = some (.ref a__law_final_run) := (fun c => T.glo c) (T.b 23)
theorem Tx.g__law_written (T : Tx w K mg) : mg "_law_written" = some (.ref a__law_written) := (fun c => T.glo c) (T.b 24)
theorem Tx.g__law_lies (T : Tx w K mg) : mg "_law_lies" = some (.ref a__law_lies) := (fun c => T.glo c) (T.b 25)
theorem Tx.g__law_pen (T : Tx w K mg) : mg "_law_pen" = some (.ref a__law_pen) := (fun c => T.glo c) (T.b 26)
theorem Tx.g__law_cell_at (T : Tx w K mg) : mg "_law_cell_at" = some (.ref a__law_cell_at) := (fun c => T.glo c) (T.b 27)
theorem Tx.g__law_pens (T : Tx w K mg) : mg "_law_pens" = some (.ref a__law_pens) := (fun c => T.glo c) (T.b 28)
theorem Tx.g__law_rule (T : Tx w K mg) : mg "_law_rule" = some (.ref a__law_rule) := (fun c => T.glo c) (T.b 29)
theorem Tx.g__law_start (T : Tx w K mg) : mg "_law_start" = some (.ref a__law_start) := (fun c => T.glo c) (T.b 30)
theorem Tx.g__law_alone (T : Tx w K mg) : mg "_law_alone" = some (.ref a__law_alone) := (fun c => T.glo c) (T.b 31)
theorem Tx.g__law_within (T : Tx w K mg) : mg "_law_within" = some (.ref a__law_within) := (fun c => T.glo c) (T.b 32)
theorem Tx.g__law_after (T : Tx w K mg) : mg "_law_after" = some (.ref a__law_after) := (fun c => T.glo c) (T.b 33)
theorem Tx.g__law_replayed (T : Tx w K mg) : mg "_law_replayed" = some (.ref a__law_replayed) := (fun c => T.glo c) (T.b 34)
theorem Tx.g__law_cut_at_rest (T : Tx w K mg) : mg "_law_cut_at_rest" = some (.ref a__law_cut_at_rest) := (fun c => T.glo c) (T.b 35)
theorem Tx.g__law_mirror_drawn (T : Tx w K mg) : mg "_law_mirror_drawn" = some (.ref a__law_mirror_drawn) := (fun c => T.glo c) (T.b 36)
theorem Tx.g__law_good_mirror (T : Tx w K mg) : mg "_law_good_mirror" = some (.ref a__law_good_mirror) := (fun c => T.glo c) (T.b 37)
theorem Tx.g__law_honest (T : Tx w K mg) : mg "_law_honest" = some (.ref a__law_honest) := (fun c => T.glo c) (T.b 38)
theorem Tx.g__law_committed (T : Tx w K mg) : mg "_law_committed" = some (.ref a__law_committed) := (fun c => T.glo c) (T.b 39)
theorem Tx.g_law (T : Tx w K mg) : mg "law" = some (.ref a_law) := (fun c => T.glo c) (T.b 40)
theorem Tx.g_Notice (T : Tx w K mg) : mg "Notice" = some (.ref a_Notice) := (fun c => T.glo c) (T.b 41)
theorem Tx.g_Batch (T : Tx w K mg) : mg "Batch" = some (.ref a_Batch) := (fun c => T.glo c) (T.b 42)
theorem Tx.g_Graph (T : Tx w K mg) : mg "Graph" = some (.ref a_Graph) := (fun c => T.glo c) (T.b 43)
theorem Tx.g_Mirror (T : Tx w K mg) : mg "Mirror" = some (.ref a_Mirror) := (fun c => T.glo c) (T.b 44)
theorem Tx.g_Stale (T : Tx w K mg) : mg "Stale" = some (.ref a_Stale) := (fun c => T.glo c) (T.b 45)
theorem Tx.g_Keeper (T : Tx w K mg) : mg "Keeper" = some (.ref a_Keeper) := (fun c => T.glo c) (T.b 46)
theorem Tx.g_Transaction (T : Tx w K mg) : mg "Transaction" = some (.ref a_Transaction) := (fun c => T.glo c) (T.b 47)
theorem Tx.g_Client (T : Tx w K mg) : mg "Client" = some (.ref a_Client) := (fun c => T.glo c) (T.b 48)
theorem Tx.g_Store (T : Tx w K mg) : mg "Store" = some (.ref a_Store) := (fun c => T.glo c) (T.b 49)
theorem Tx.g_Writer (T : Tx w K mg) : mg "Writer" = some (.ref a_Writer) := (fun c => T.glo c) (T.b 50)
theorem Tx.g_Listener (T : Tx w K mg) : mg "Listener" = some (.ref a_Listener) := (fun c => T.glo c) (T.b 51)
theorem Tx.g_Member (T : Tx w K mg) : mg "Member" = some (.ref a_Member) := (fun c => T.glo c) (T.b 52)
theorem Tx.g_Question (T : Tx w K mg) : mg "Question" = some (.ref a_Question) := (fun c => T.glo c) (T.b 53)
theorem Tx.g_Watch (T : Tx w K mg) : mg "Watch" = some (.ref a_Watch) := (fun c => T.glo c) (T.b 54)
theorem Tx.g_STEPS (T : Tx w K mg) : mg "STEPS" = some (.ref a_STEPS) := (fun c => T.glo c) (T.b 55)
theorem Tx.g_RULES (T : Tx w K mg) : mg "RULES" = some (.ref a_RULES) := (fun c => T.glo c) (T.b 56)
theorem Tx.g_UPDATES (T : Tx w K mg) : mg "UPDATES" = some (.ref a_UPDATES) := (fun c => T.glo c) (T.b 57)
theorem Tx.g_LENGTHS (T : Tx w K mg) : mg "LENGTHS" = some (.ref a_LENGTHS) := (fun c => T.glo c) (T.b 58)
theorem Tx.g_NewsError (T : Tx w K mg) : mg "NewsError" = some (.ref a_NewsError) := (fun c => T.glo c) (T.b 59)
theorem Tx.z_isinstance (T : Tx w K mg) : mg "isinstance" = none := (T.free (x := "isinstance")) (T.b 60)
theorem Tx.z_int (T : Tx w K mg) : mg "int" = none := (T.free (x := "int")) (T.b 61)
theorem Tx.z_bool (T : Tx w K mg) : mg "bool" = none := (T.free (x := "bool")) (T.b 62)
theorem Tx.z_str (T : Tx w K mg) : mg "str" = none := (T.free (x := "str")) (T.b 63)
theorem Tx.z_tuple (T : Tx w K mg) : mg "tuple" = none := (T.free (x := "tuple")) (T.b 64)
theorem Tx.z_len (T : Tx w K mg) : mg "len" = none := (T.free (x := "len")) (T.b 65)
theorem Tx.z_all (T : Tx w K mg) : mg "all" = none := (T.free (x := "all")) (T.b 66)
theorem Tx.z_range (T : Tx w K mg) : mg "range" = none := (T.free (x := "range")) (T.b 67)
theorem Tx.z_zip (T : Tx w K mg) : mg "zip" = none := (T.free (x := "zip")) (T.b 68)
theorem Tx.z_enumerate (T : Tx w K mg) : mg "enumerate" = none := (T.free (x := "enumerate")) (T.b 69)
theorem Tx.z_sorted (T : Tx w K mg) : mg "sorted" = none := (T.free (x := "sorted")) (T.b 70)
theorem Tx.z_min (T : Tx w K mg) : mg "min" = none := (T.free (x := "min")) (T.b 71)
theorem Tx.z_max (T : Tx w K mg) : mg "max" = none := (T.free (x := "max")) (T.b 72)
theorem Tx.z_dict (T : Tx w K mg) : mg "dict" = none := (T.free (x := "dict")) (T.b 73)
theorem Tx.z_super (T : Tx w K mg) : mg "super" = none := (T.free (x := "super")) (T.b 74)
theorem Tx.i_LONGEST (T : Tx w K mg) : ∃ t, mg "LONGEST" = some (.int 6 t) := (T.int (x := "LONGEST")) (T.b 75)
theorem Tx.i_MOST_NODES (T : Tx w K mg) : ∃ t, mg "MOST_NODES" = some (.int 6 t) := (T.int (x := "MOST_NODES")) (T.b 76)
theorem Tx.i_MOST_EDGES (T : Tx w K mg) : ∃ t, mg "MOST_EDGES" = some (.int 3 t) := (T.int (x := "MOST_EDGES")) (T.b 77)
theorem Tx.i_OTHER (T : Tx w K mg) : ∃ t, mg "OTHER" = some (.int (-1) t) := (T.int (x := "OTHER")) (T.b 78)
theorem Tx.i_MOST (T : Tx w K mg) : ∃ t, mg "MOST" = some (.int 200 t) := (T.int (x := "MOST")) (T.b 79)
theorem Tx.i_MOST_CELLS (T : Tx w K mg) : ∃ t, mg "MOST_CELLS" = some (.int 6 t) := (T.int (x := "MOST_CELLS")) (T.b 80)
theorem Tx.i_MOST_ROOM (T : Tx w K mg) : ∃ t, mg "MOST_ROOM" = some (.int 200 t) := (T.int (x := "MOST_ROOM")) (T.b 81)
theorem Tx.i_MOST_WORDS (T : Tx w K mg) : ∃ t, mg "MOST_WORDS" = some (.int 3 t) := (T.int (x := "MOST_WORDS")) (T.b 82)
theorem Tx.t_LETTERS (T : Tx w K mg) : ∃ t, mg "LETTERS" = some (.str "abcdefghijklmnopqrstuvwxyz" t) := (T.str (x := "LETTERS")) (T.b 83)
theorem Tx.t_SIGNS (T : Tx w K mg) : ∃ t, mg "SIGNS" = some (.str "abcdefghijklmnopqrstuvwxyz0123456789" t) := (T.str (x := "SIGNS")) (T.b 84)
theorem Tx.t_READ (T : Tx w K mg) : ∃ t, mg "READ" = some (.str "read" t) := (T.str (x := "READ")) (T.b 85)
theorem Tx.u_STEPS (T : Tx w K mg) : ∀ H : Hp, SqT K H a_STEPS [V.str "begin", V.str "commit", V.str "rollback", V.str "listen", V.str "unlisten", V.str "read", V.str "receive", V.str "disconnect"] := (fun c H => bTup_ok c H) (T.b 86)
theorem Tx.u_UPDATES (T : Tx w K mg) : ∀ H : Hp, SqT K H a_UPDATES [V.str "take", V.str "newer", V.str "reread"] := (fun c H => bTup_ok c H) (T.b 87)
theorem Tx.u_RULES (T : Tx w K mg) : ∀ H : Hp, SqT K H a_RULES [V.str "first", V.str "last", V.str "all"] := (fun c H => bTup_ok c H) (T.b 88)
theorem Tx.c_Notice (T : Tx w K mg) : Cls K a_Notice := (fun c => bCls_ok c) (T.b 89)
theorem Tx.n_Notice_channel (T : Tx w K mg) : NoAttr K a_Notice "channel" := (fun c => bNo_ok c) (T.b 90)
theorem Tx.n_Notice_word (T : Tx w K mg) : NoAttr K a_Notice "word" := (fun c => bNo_ok c) (T.b 91)
theorem Tx.c_Batch (T : Tx w K mg) : Cls K a_Batch := (fun c => bCls_ok c) (T.b 92)
theorem Tx.n_Batch_rule (T : Tx w K mg) : NoAttr K a_Batch "rule" := (fun c => bNo_ok c) (T.b 93)
theorem Tx.n_Batch_notices (T : Tx w K mg) : NoAttr K a_Batch "notices" := (fun c => bNo_ok c) (T.b 94)
theorem Tx.c_Mirror (T : Tx w K mg) : Cls K a_Mirror := (fun c => bCls_ok c) (T.b 95)
theorem Tx.n_Mirror_nodes (T : Tx w K mg) : NoAttr K a_Mirror "nodes" := (fun c => bNo_ok c) (T.b 96)
theorem Tx.n_Mirror_finals (T : Tx w K mg) : NoAttr K a_Mirror "finals" := (fun c => bNo_ok c) (T.b 97)
theorem Tx.c_Writer (T : Tx w K mg) : Cls K a_Writer := (fun c => bCls_ok c) (T.b 98)
theorem Tx.n_Writer_nodes (T : Tx w K mg) : NoAttr K a_Writer "nodes" := (fun c => bNo_ok c) (T.b 99)
theorem Tx.n_Writer_finals (T : Tx w K mg) : NoAttr K a_Writer "finals" := (fun c => bNo_ok c) (T.b 100)
theorem Tx.c_Stale (T : Tx w K mg) : Cls K a_Stale := (fun c => bCls_ok c) (T.b 101)
theorem Tx.n_Stale_graph (T : Tx w K mg) : NoAttr K a_Stale "graph" := (fun c => bNo_ok c) (T.b 102)
theorem Tx.c_Keeper (T : Tx w K mg) : Cls K a_Keeper := (fun c => bCls_ok c) (T.b 103)
theorem Tx.n_Keeper_guest (T : Tx w K mg) : NoAttr K a_Keeper "guest" := (fun c => bNo_ok c) (T.b 104)
theorem Tx.n_Keeper_cell (T : Tx w K mg) : NoAttr K a_Keeper "cell" := (fun c => bNo_ok c) (T.b 105)
theorem Tx.n_Keeper_way (T : Tx w K mg) : NoAttr K a_Keeper "way" := (fun c => bNo_ok c) (T.b 106)
theorem Tx.n_Keeper_work (T : Tx w K mg) : NoAttr K a_Keeper "work" := (fun c => bNo_ok c) (T.b 107)
theorem Tx.n_Keeper_number (T : Tx w K mg) : NoAttr K a_Keeper "number" := (fun c => bNo_ok c) (T.b 108)
theorem Tx.n_Keeper_log (T : Tx w K mg) : NoAttr K a_Keeper "log" := (fun c => bNo_ok c) (T.b 109)
theorem Tx.c_Transaction (T : Tx w K mg) : Cls K a_Transaction := (fun c => bCls_ok c) (T.b 110)
theorem Tx.n_Transaction_store (T : Tx w K mg) : NoAttr K a_Transaction "store" := (fun c => bNo_ok c) (T.b 111)
theorem Tx.n_Transaction_owner (T : Tx w K mg) : NoAttr K a_Transaction "owner" := (fun c => bNo_ok c) (T.b 112)
theorem Tx.n_Transaction_snapshot (T : Tx w K mg) : NoAttr K a_Transaction "snapshot" := (fun c => bNo_ok c) (T.b 113)
theorem Tx.n_Transaction_began (T : Tx w K mg) : NoAttr K a_Transaction "began" := (fun c => bNo_ok c) (T.b 114)
theorem Tx.n_Transaction_rows (T : Tx w K mg) : NoAttr K a_Transaction "rows" := (fun c => bNo_ok c) (T.b 115)
theorem Tx.n_Transaction_marks (T : Tx w K mg) : NoAttr K a_Transaction "marks" := (fun c => bNo_ok c) (T.b 116)
theorem Tx.n_Transaction_standing (T : Tx w K mg) : NoAttr K a_Transaction "standing" := (fun c => bNo_ok c) (T.b 117)
theorem Tx.c_Client (T : Tx w K mg) : Cls K a_Client := (fun c => bCls_ok c) (T.b 118)
theorem Tx.n_Client_store (T : Tx w K mg) : NoAttr K a_Client "store" := (fun c => bNo_ok c) (T.b 119)
theorem Tx.n_Client_name (T : Tx w K mg) : NoAttr K a_Client "name" := (fun c => bNo_ok c) (T.b 120)
theorem Tx.n_Client_work (T : Tx w K mg) : NoAttr K a_Client "work" := (fun c => bNo_ok c) (T.b 121)
theorem Tx.n_Client_starts (T : Tx w K mg) : NoAttr K a_Client "starts" := (fun c => bNo_ok c) (T.b 122)
theorem Tx.n_Client_position (T : Tx w K mg) : NoAttr K a_Client "position" := (fun c => bNo_ok c) (T.b 123)
theorem Tx.c_Store (T : Tx w K mg) : Cls K a_Store := (fun c => bCls_ok c) (T.b 124)
theorem Tx.n_Store_rule (T : Tx w K mg) : NoAttr K a_Store "rule" := (fun c => bNo_ok c) (T.b 125)
theorem Tx.n_Store_most (T : Tx w K mg) : NoAttr K a_Store "most" := (fun c => bNo_ok c) (T.b 126)
theorem Tx.n_Store_cells (T : Tx w K mg) : NoAttr K a_Store "cells" := (fun c => bNo_ok c) (T.b 127)
theorem Tx.n_Store_members (T : Tx w K mg) : NoAttr K a_Store "members" := (fun c => bNo_ok c) (T.b 128)
theorem Tx.n_Store_past (T : Tx w K mg) : NoAttr K a_Store "past" := (fun c => bNo_ok c) (T.b 129)
theorem Tx.n_Store_queue (T : Tx w K mg) : NoAttr K a_Store "queue" := (fun c => bNo_ok c) (T.b 130)
theorem Tx.me_Mirror_followed (T : Tx w K mg) : Meth K a_Mirror "followed" m_Graph_followed := (fun c => bMeth_ok c) (T.b 131)
theorem Tx.me_Mirror_steps (T : Tx w K mg) : Meth K a_Mirror "steps" m_Mirror_steps := (fun c => bMeth_ok c) (T.b 132)
theorem Tx.me_Mirror_question (T : Tx w K mg) : Meth K a_Mirror "question" m_Mirror_question := (fun c => bMeth_ok c) (T.b 133)
theorem Tx.me_Writer_followed (T : Tx w K mg) : Meth K a_Writer "followed" m_Graph_followed := (fun c => bMeth_ok c) (T.b 134)
theorem Tx.me_Writer_steps (T : Tx w K mg) : Meth K a_Writer "steps" m_Writer_steps := (fun c => bMeth_ok c) (T.b 135)
theorem Tx.me_Stale_first (T : Tx w K mg) : Meth K a_Stale "first" m_Question_first := (fun c => bMeth_ok c) (T.b 136)
theorem Tx.me_Stale_moves (T : Tx w K mg) : Meth K a_Stale "moves" m_Watch_moves := (fun c => bMeth_ok c) (T.b 137)
theorem Tx.me_Stale_is_bad (T : Tx w K mg) : Meth K a_Stale "is_bad" m_Stale_is_bad := (fun c => bMeth_ok c) (T.b 138)
theorem Tx.me_Stale_reached (T : Tx w K mg) : Meth K a_Stale "reached" m_Question_reached := (fun c => bMeth_ok c) (T.b 139)
theorem Tx.me_Stale_run (T : Tx w K mg) : Meth K a_Stale "run" m_Question_run := (fun c => bMeth_ok c) (T.b 140)
theorem Tx.me_Stale_begun (T : Tx w K mg) : Meth K a_Stale "begun" m_Watch_begun := (fun c => bMeth_ok c) (T.b 141)
theorem Tx.me_Stale_lost (T : Tx w K mg) : Meth K a_Stale "lost" m_Stale_lost := (fun c => bMeth_ok c) (T.b 142)
theorem Tx.me_Stale_copied (T : Tx w K mg) : Meth K a_Stale "copied" m_Stale_copied := (fun c => bMeth_ok c) (T.b 143)
theorem Tx.me_Stale_received (T : Tx w K mg) : Meth K a_Stale "received" m_Stale_received := (fun c => bMeth_ok c) (T.b 144)
theorem Tx.me_Stale_told (T : Tx w K mg) : Meth K a_Stale "told" m_Stale_told := (fun c => bMeth_ok c) (T.b 145)
theorem Tx.me_Stale_behind (T : Tx w K mg) : Meth K a_Stale "behind" m_Watch_behind := (fun c => bMeth_ok c) (T.b 146)
theorem Tx.me_Stale_alone (T : Tx w K mg) : Meth K a_Stale "alone" m_Watch_alone := (fun c => bMeth_ok c) (T.b 147)
theorem Tx.me_Stale_within (T : Tx w K mg) : Meth K a_Stale "within" m_Watch_within := (fun c => bMeth_ok c) (T.b 148)
theorem Tx.me_Keeper_keep (T : Tx w K mg) : Meth K a_Keeper "keep" m_Keeper_keep := (fun c => bMeth_ok c) (T.b 149)
theorem Tx.me_Keeper_alone (T : Tx w K mg) : Meth K a_Keeper "alone" m_Keeper_alone := (fun c => bMeth_ok c) (T.b 150)
theorem Tx.me_Keeper_within (T : Tx w K mg) : Meth K a_Keeper "within" m_Keeper_within := (fun c => bMeth_ok c) (T.b 151)
theorem Tx.me_Keeper_update (T : Tx w K mg) : Meth K a_Keeper "update" m_Keeper_update := (fun c => bMeth_ok c) (T.b 152)
theorem Tx.me_Transaction_need_open (T : Tx w K mg) : Meth K a_Transaction "need_open" m_Transaction_need_open := (fun c => bMeth_ok c) (T.b 153)
theorem Tx.me_Transaction_need_cell (T : Tx w K mg) : Meth K a_Transaction "need_cell" m_Transaction_need_cell := (fun c => bMeth_ok c) (T.b 154)
theorem Tx.me_Transaction_changes (T : Tx w K mg) : Meth K a_Transaction "changes" m_Transaction_changes := (fun c => bMeth_ok c) (T.b 155)
theorem Tx.me_Transaction_wishes (T : Tx w K mg) : Meth K a_Transaction "wishes" m_Transaction_wishes := (fun c => bMeth_ok c) (T.b 156)
theorem Tx.me_Transaction_listen (T : Tx w K mg) : Meth K a_Transaction "listen" m_Transaction_listen := (fun c => bMeth_ok c) (T.b 157)
theorem Tx.me_Transaction_unlisten (T : Tx w K mg) : Meth K a_Transaction "unlisten" m_Transaction_unlisten := (fun c => bMeth_ok c) (T.b 158)
theorem Tx.me_Transaction_batch (T : Tx w K mg) : Meth K a_Transaction "batch" m_Transaction_batch := (fun c => bMeth_ok c) (T.b 159)
theorem Tx.me_Transaction_rollback (T : Tx w K mg) : Meth K a_Transaction "rollback" m_Transaction_rollback := (fun c => bMeth_ok c) (T.b 160)
theorem Tx.me_Transaction_end (T : Tx w K mg) : Meth K a_Transaction "end" m_Transaction_end := (fun c => bMeth_ok c) (T.b 161)
theorem Tx.me_Transaction_commit (T : Tx w K mg) : Meth K a_Transaction "commit" m_Transaction_commit := (fun c => bMeth_ok c) (T.b 162)
theorem Tx.me_Client_need_no_work (T : Tx w K mg) : Meth K a_Client "need_no_work" m_Member_need_no_work := (fun c => bMeth_ok c) (T.b 163)
theorem Tx.me_Client_begin (T : Tx w K mg) : Meth K a_Client "begin" m_Sender_begin := (fun c => bMeth_ok c) (T.b 164)
theorem Tx.me_Client_run (T : Tx w K mg) : Meth K a_Client "run" m_Sender_run := (fun c => bMeth_ok c) (T.b 165)
theorem Tx.me_Client_behind (T : Tx w K mg) : Meth K a_Client "behind" m_Listener_behind := (fun c => bMeth_ok c) (T.b 166)
theorem Tx.me_Client_receive (T : Tx w K mg) : Meth K a_Client "receive" m_Listener_receive := (fun c => bMeth_ok c) (T.b 167)
theorem Tx.me_Client_disconnect (T : Tx w K mg) : Meth K a_Client "disconnect" m_Listener_disconnect := (fun c => bMeth_ok c) (T.b 168)
theorem Tx.me_Store_present (T : Tx w K mg) : Meth K a_Store "present" m_Store_present := (fun c => bMeth_ok c) (T.b 169)
theorem Tx.me_Store_client (T : Tx w K mg) : Meth K a_Store "client" m_Store_client := (fun c => bMeth_ok c) (T.b 170)
theorem Tx.me_Store_keep (T : Tx w K mg) : Meth K a_Store "keep" m_Store_keep := (fun c => bMeth_ok c) (T.b 171)
theorem Tx.mk_Notice (T : Tx w K mg) : Mk K a_Notice m_Notice___init__ := (fun c => bMk_ok c) (T.b 172)
theorem Tx.mk_Batch (T : Tx w K mg) : Mk K a_Batch m_Batch___init__ := (fun c => bMk_ok c) (T.b 173)
theorem Tx.mk_Mirror (T : Tx w K mg) : Mk K a_Mirror m_Mirror___init__ := (fun c => bMk_ok c) (T.b 174)
theorem Tx.mk_Writer (T : Tx w K mg) : Mk K a_Writer m_Writer___init__ := (fun c => bMk_ok c) (T.b 175)
theorem Tx.mk_Stale (T : Tx w K mg) : Mk K a_Stale m_Question___init__ := (fun c => bMk_ok c) (T.b 176)
theorem Tx.mk_Keeper (T : Tx w K mg) : Mk K a_Keeper m_Keeper___init__ := (fun c => bMk_ok c) (T.b 177)
theorem Tx.mk_Transaction (T : Tx w K mg) : Mk K a_Transaction m_Transaction___init__ := (fun c => bMk_ok c) (T.b 178)
theorem Tx.mk_Client (T : Tx w K mg) : Mk K a_Client m_Listener___init__ := (fun c => bMk_ok c) (T.b 179)
theorem Tx.mk_Store (T : Tx w K mg) : Mk K a_Store m_Store___init__ := (fun c => bMk_ok c) (T.b 180)
theorem Tx.p_Keeper_held (T : Tx w K mg) : PropOf K a_Keeper "held" q_held m_Keeper_held := (fun c => bProp_ok c) (T.b 181)
theorem Tx.p_Store_room (T : Tx w K mg) : PropOf K a_Store "room" q_room m_Store_room := (fun c => bProp_ok c) (T.b 182)
theorem Tx.o_Batch_len (T : Tx w K mg) : PySem.W.findIn K (.ref a_Batch) "__len__" = some (some (.ref m_Batch___len__)) := (fun c => bSpec_ok c) (T.b 183)
theorem Tx.o_Transaction_setitem (T : Tx w K mg) : PySem.W.findIn K (.ref a_Transaction) "__setitem__" = some (some (.ref m_Transaction___setitem__)) := (fun c => bSpec_ok c) (T.b 184)
theorem Tx.o_Transaction_iadd (T : Tx w K mg) : PySem.W.findIn K (.ref a_Transaction) "__iadd__" = some (some (.ref m_Transaction___iadd__)) := (fun c => bSpec_ok c) (T.b 185)
theorem Tx.o_Keeper_call (T : Tx w K mg) : PySem.W.findIn K (.ref a_Keeper) "__call__" = some (some (.ref m_Keeper___call__)) := (fun c => bSpec_ok c) (T.b 186)
theorem Tx.sup_Mirror (T : Tx w K mg) : SupOf K a_Mirror a_Mirror m_Graph___init__ cell_Mirror code_Mirror := (fun c => bSuper_ok c) (T.b 187)
theorem Tx.sup_Writer (T : Tx w K mg) : SupOf K a_Writer a_Writer m_Graph___init__ cell_Writer code_Writer := (fun c => bSuper_ok c) (T.b 188)
theorem Tx.sup_Client (T : Tx w K mg) : SupOf K a_Client a_Listener m_Member___init__ cell_Listener code_Listener := (fun c => bSuper_ok c) (T.b 189)
theorem Tx.cc_Notice (T : Tx w K mg) : PySem.W.findIn K (.ref a_Notice) "__class__" = some (some (.builtin "object.__class__")) ∧ PySem.W.specialIn K (.builtin "object.__class__") "__get__" = some (some (.builtin "getset_descriptor.__get__")) ∧ PySem.W.takesIn K (.builtin "object.__class__") = some true ∧ PySem.W.mroIn K a_Notice (.type "object") = some true ∧ PySem.W.kitOne K (.ref a_Notice) (.ref a_Notice) = some true := (fun c => ⟨He.eqO_ok (He.ba c).1, of_decide_eq_true (He.ba (He.ba c).2).1, of_decide_eq_true (He.ba (He.ba (He.ba c).2).2).1, of_decide_eq_true (He.ba (He.ba (He.ba (He.ba c).2).2).2).1, of_decide_eq_true (He.ba (He.ba (He.ba (He.ba c).2).2).2).2⟩) (T.b 190)
theorem Tx.self_Transaction (T : Tx w K mg) : PySem.W.selfFirst K (a_Transaction) = true := (fun c => c) (T.b 191)
theorem Tx.noseq_Transaction (T : Tx w K mg) : PySem.W.noSeq K (a_Transaction) = true := (fun c => c) (T.b 192)
theorem Tx.stat (T : Tx w K mg) : PySem.W.nsIn K cStatics "thirdparty.any" = some none := (fun c => He.eqO_ok c) (T.b 193)
theorem Tx.kw_receive (T : Tx w K mg) : bKw (m_Listener_receive) "most" 200 K = true := (fun c => c) (T.b 194)
theorem Tx.kw_store (T : Tx w K mg) : bKw (m_Store___init__) "room" 20 K = true := (fun c => c) (T.b 195)
theorem Tx.lits (T : Tx w K mg) : He.valsB K a_LENGTHS [("set", .int 3), ("say", .int 3), ("listen", .int 2), ("unlisten", .int 2)] = true := (fun c => c) (T.b 196)
theorem Tx.F_is_between (T : Tx w K mg) : ∃ fd, FunC K d_is_between fd := T.d 0
theorem Tx.F_is_string_of (T : Tx w K mg) : ∃ fd, FunC K d_is_string_of fd := T.d 1
theorem Tx.F_is_name (T : Tx w K mg) : ∃ fd, FunC K d_is_name fd := T.d 2
theorem Tx.F_is_word (T : Tx w K mg) : ∃ fd, FunC K d_is_word fd := T.d 3
theorem Tx.F_need_name (T : Tx w K mg) : ∃ fd, FunC K d_need_name fd := T.d 4
theorem Tx.F_need_word (T : Tx w K mg) : ∃ fd, FunC K d_need_word fd := T.d 5
theorem Tx.F_need_rule (T : Tx w K mg) : ∃ fd, FunC K d_need_rule fd := T.d 6
theorem Tx.F_Notice_D_init_D (T : Tx w K mg) : ∃ fd, FunC K d_Notice_D_init_D fd := T.d 7
theorem Tx.F_need_notice (T : Tx w K mg) : ∃ fd, FunC K d_need_notice fd := T.d 8
theorem Tx.F_once (T : Tx w K mg) : ∃ fd, FunC K d_once fd := T.d 9
theorem Tx.F_folded (T : Tx w K mg) : ∃ fd, FunC K d_folded fd := T.d 10
theorem Tx.F_Batch_D_init_D (T : Tx w K mg) : ∃ fd, FunC K d_Batch_D_init_D fd := T.d 11
theorem Tx.F_Batch_D_len_D (T : Tx w K mg) : ∃ fd, FunC K d_Batch_D_len_D fd := T.d 12
theorem Tx.F_are_nodes (T : Tx w K mg) : ∃ fd, FunC K d_are_nodes fd := T.d 13
theorem Tx.F_are_finals (T : Tx w K mg) : ∃ fd, FunC K d_are_finals fd := T.d 14
theorem Tx.F_Graph_D_init_D (T : Tx w K mg) : ∃ fd, FunC K d_Graph_D_init_D fd := T.d 15
theorem Tx.F_Graph_followed (T : Tx w K mg) : ∃ fd, FunC K d_Graph_followed fd := T.d 16
theorem Tx.F_Question_D_init_D (T : Tx w K mg) : ∃ fd, FunC K d_Question_D_init_D fd := T.d 17
theorem Tx.F_Question_first (T : Tx w K mg) : ∃ fd, FunC K d_Question_first fd := T.d 18
theorem Tx.F_Question_reached (T : Tx w K mg) : ∃ fd, FunC K d_Question_reached fd := T.d 19
theorem Tx.F_Question_run (T : Tx w K mg) : ∃ fd, FunC K d_Question_run fd := T.d 20
theorem Tx.F_is_mirror_step (T : Tx w K mg) : ∃ fd, FunC K d_is_mirror_step fd := T.d 21
theorem Tx.F_Mirror_D_init_D (T : Tx w K mg) : ∃ fd, FunC K d_Mirror_D_init_D fd := T.d 22
theorem Tx.F_Mirror_steps (T : Tx w K mg) : ∃ fd, FunC K d_Mirror_steps fd := T.d 23
theorem Tx.F_Mirror_question (T : Tx w K mg) : ∃ fd, FunC K d_Mirror_question fd := T.d 24
theorem Tx.F_Watch_begun (T : Tx w K mg) : ∃ fd, FunC K d_Watch_begun fd := T.d 25
theorem Tx.F_Watch_behind (T : Tx w K mg) : ∃ fd, FunC K d_Watch_behind fd := T.d 26
theorem Tx.F_Watch_alone (T : Tx w K mg) : ∃ fd, FunC K d_Watch_alone fd := T.d 27
theorem Tx.F_Watch_within (T : Tx w K mg) : ∃ fd, FunC K d_Watch_within fd := T.d 28
theorem Tx.F_Watch_moves (T : Tx w K mg) : ∃ fd, FunC K d_Watch_moves fd := T.d 29
theorem Tx.F_Stale_lost (T : Tx w K mg) : ∃ fd, FunC K d_Stale_lost fd := T.d 30
theorem Tx.F_Stale_copied (T : Tx w K mg) : ∃ fd, FunC K d_Stale_copied fd := T.d 31
theorem Tx.F_Stale_received (T : Tx w K mg) : ∃ fd, FunC K d_Stale_received fd := T.d 32
theorem Tx.F_Stale_told (T : Tx w K mg) : ∃ fd, FunC K d_Stale_told fd := T.d 33
theorem Tx.F_Stale_is_bad (T : Tx w K mg) : ∃ fd, FunC K d_Stale_is_bad fd := T.d 34
theorem Tx.F_Keeper_D_init_D (T : Tx w K mg) : ∃ fd, FunC K d_Keeper_D_init_D fd := T.d 35
theorem Tx.F_Keeper_held (T : Tx w K mg) : ∃ fd, FunC K d_Keeper_held fd := T.d 36
theorem Tx.F_Keeper_D_call_D (T : Tx w K mg) : ∃ fd, FunC K d_Keeper_D_call_D fd := T.d 37
theorem Tx.F_Keeper_keep (T : Tx w K mg) : ∃ fd, FunC K d_Keeper_keep fd := T.d 38
theorem Tx.F_Keeper_alone (T : Tx w K mg) : ∃ fd, FunC K d_Keeper_alone fd := T.d 39
theorem Tx.F_Keeper_within (T : Tx w K mg) : ∃ fd, FunC K d_Keeper_within fd := T.d 40
theorem Tx.F_Keeper_update (T : Tx w K mg) : ∃ fd, FunC K d_Keeper_update fd := T.d 41
theorem Tx.F_Transaction_D_init_D (T : Tx w K mg) : ∃ fd, FunC K d_Transaction_D_init_D fd := T.d 42
theorem Tx.F_Transaction_need_open (T : Tx w K mg) : ∃ fd, FunC K d_Transaction_need_open fd := T.d 43
theorem Tx.F_Transaction_need_cell (T : Tx w K mg) : ∃ fd, FunC K d_Transaction_need_cell fd := T.d 44
theorem Tx.F_Transaction_D_setitem_D (T : Tx w K mg) : ∃ fd, FunC K d_Transaction_D_setitem_D fd := T.d 45
theorem Tx.F_Transaction_D_iadd_D (T : Tx w K mg) : ∃ fd, FunC K d_Transaction_D_iadd_D fd := T.d 46
theorem Tx.F_Transaction_changes (T : Tx w K mg) : ∃ fd, FunC K d_Transaction_changes fd := T.d 47
theorem Tx.F_Transaction_wishes (T : Tx w K mg) : ∃ fd, FunC K d_Transaction_wishes fd := T.d 48
theorem Tx.F_Transaction_listen (T : Tx w K mg) : ∃ fd, FunC K d_Transaction_listen fd := T.d 49
theorem Tx.F_Transaction_unlisten (T : Tx w K mg) : ∃ fd, FunC K d_Transaction_unlisten fd := T.d 50
theorem Tx.F_Transaction_batch (T : Tx w K mg) : ∃ fd, FunC K d_Transaction_batch fd := T.d 51
theorem Tx.F_Transaction_rollback (T : Tx w K mg) : ∃ fd, FunC K d_Transaction_rollback fd := T.d 52
theorem Tx.F_Transaction_end (T : Tx w K mg) : ∃ fd, FunC K d_Transaction_end fd := T.d 53
theorem Tx.F_Transaction_commit (T : Tx w K mg) : ∃ fd, FunC K d_Transaction_commit fd := T.d 54
theorem Tx.F_do_step (T : Tx w K mg) : ∃ fd, FunC K d_do_step fd := T.d 55
theorem Tx.F_Member_D_init_D (T : Tx w K mg) : ∃ fd, FunC K d_Member_D_init_D fd := T.d 56
theorem Tx.F_Member_need_no_work (T : Tx w K mg) : ∃ fd, FunC K d_Member_need_no_work fd := T.d 57
theorem Tx.F_Sender_begin (T : Tx w K mg) : ∃ fd, FunC K d_Sender_begin fd := T.d 58
theorem Tx.F_Sender_run (T : Tx w K mg) : ∃ fd, FunC K d_Sender_run fd := T.d 59
theorem Tx.F_Listener_D_init_D (T : Tx w K mg) : ∃ fd, FunC K d_Listener_D_init_D fd := T.d 60
theorem Tx.F_Listener_behind (T : Tx w K mg) : ∃ fd, FunC K d_Listener_behind fd := T.d 61
theorem Tx.F_Listener_receive (T : Tx w K mg) : ∃ fd, FunC K d_Listener_receive fd := T.d 62
theorem Tx.F_Listener_disconnect (T : Tx w K mg) : ∃ fd, FunC K d_Listener_disconnect fd := T.d 63
theorem Tx.F_Store_D_init_D (T : Tx w K mg) : ∃ fd, FunC K d_Store_D_init_D fd := T.d 64
theorem Tx.F_Store_present (T : Tx w K mg) : ∃ fd, FunC K d_Store_present fd := T.d 65
theorem Tx.F_Store_client (T : Tx w K mg) : ∃ fd, FunC K d_Store_client fd := T.d 66
theorem Tx.F_Store_keep (T : Tx w K mg) : ∃ fd, FunC K d_Store_keep fd := T.d 67
theorem Tx.F_Store_room (T : Tx w K mg) : ∃ fd, FunC K d_Store_room fd := T.d 68
theorem Tx.F_is_writer_step (T : Tx w K mg) : ∃ fd, FunC K d_is_writer_step fd := T.d 69
theorem Tx.F_words_of (T : Tx w K mg) : ∃ fd, FunC K d_words_of fd := T.d 70
theorem Tx.F_Writer_D_init_D (T : Tx w K mg) : ∃ fd, FunC K d_Writer_D_init_D fd := T.d 71
theorem Tx.F_Writer_steps (T : Tx w K mg) : ∃ fd, FunC K d_Writer_steps fd := T.d 72
theorem Tx.F_L_rest (T : Tx w K mg) : ∃ fd, FunC K d_L_rest fd := T.d 73
theorem Tx.F_L_draw (T : Tx w K mg) : ∃ fd, FunC K d_L_draw fd := T.d 74
theorem Tx.F_L_pick (T : Tx w K mg) : ∃ fd, FunC K d_L_pick fd := T.d 75
theorem Tx.F_L_mirror_step (T : Tx w K mg) : ∃ fd, FunC K d_L_mirror_step fd := T.d 76
theorem Tx.F_L_mirror_nodes (T : Tx w K mg) : ∃ fd, FunC K d_L_mirror_nodes fd := T.d 77
theorem Tx.F_L_writer_step (T : Tx w K mg) : ∃ fd, FunC K d_L_writer_step fd := T.d 78
theorem Tx.F_L_writer_nodes (T : Tx w K mg) : ∃ fd, FunC K d_L_writer_nodes fd := T.d 79
theorem Tx.F_L_final_run (T : Tx w K mg) : ∃ fd, FunC K d_L_final_run fd := T.d 80
theorem Tx.F_L_written (T : Tx w K mg) : ∃ fd, FunC K d_L_written fd := T.d 81
theorem Tx.F_L_lies (T : Tx w K mg) : ∃ fd, FunC K d_L_lies fd := T.d 82
theorem Tx.F_L_pen (T : Tx w K mg) : ∃ fd, FunC K d_L_pen fd := T.d 83
theorem Tx.F_L_cell_at (T : Tx w K mg) : ∃ fd, FunC K d_L_cell_at fd := T.d 84
theorem Tx.F_L_pens (T : Tx w K mg) : ∃ fd, FunC K d_L_pens fd := T.d 85
theorem Tx.F_L_rule (T : Tx w K mg) : ∃ fd, FunC K d_L_rule fd := T.d 86
theorem Tx.F_L_start (T : Tx w K mg) : ∃ fd, FunC K d_L_start fd := T.d 87
theorem Tx.F_L_alone (T : Tx w K mg) : ∃ fd, FunC K d_L_alone fd := T.d 88
theorem Tx.F_L_within (T : Tx w K mg) : ∃ fd, FunC K d_L_within fd := T.d 89
theorem Tx.F_L_after (T : Tx w K mg) : ∃ fd, FunC K d_L_after fd := T.d 90
theorem Tx.F_L_replayed (T : Tx w K mg) : ∃ fd, FunC K d_L_replayed fd := T.d 91
theorem Tx.F_L_cut_at_rest (T : Tx w K mg) : ∃ fd, FunC K d_L_cut_at_rest fd := T.d 92
theorem Tx.F_L_mirror_drawn (T : Tx w K mg) : ∃ fd, FunC K d_L_mirror_drawn fd := T.d 93
theorem Tx.F_L_good_mirror (T : Tx w K mg) : ∃ fd, FunC K d_L_good_mirror fd := T.d 94
theorem Tx.F_L_honest (T : Tx w K mg) : ∃ fd, FunC K d_L_honest fd := T.d 95
theorem Tx.F_L_committed (T : Tx w K mg) : ∃ fd, FunC K d_L_committed fd := T.d 96
theorem Tx.F_law (T : Tx w K mg) : ∃ fd, FunC K d_law fd := T.d 97
theorem Tx.kp_is_between (T : Tx w K mg) : PySem.W.keepIn K (.ref a_is_between) = true := T.F_is_between.elim fun _ F => F.kp
theorem Tx.kp_is_string_of (T : Tx w K mg) : PySem.W.keepIn K (.ref a_is_string_of) = true := T.F_is_string_of.elim fun _ F => F.kp
theorem Tx.kp_is_name (T : Tx w K mg) : PySem.W.keepIn K (.ref a_is_name) = true := T.F_is_name.elim fun _ F => F.kp
theorem Tx.kp_is_word (T : Tx w K mg) : PySem.W.keepIn K (.ref a_is_word) = true := T.F_is_word.elim fun _ F => F.kp
theorem Tx.kp_need_name (T : Tx w K mg) : PySem.W.keepIn K (.ref a_need_name) = true := T.F_need_name.elim fun _ F => F.kp
theorem Tx.kp_need_word (T : Tx w K mg) : PySem.W.keepIn K (.ref a_need_word) = true := T.F_need_word.elim fun _ F => F.kp
theorem Tx.kp_need_rule (T : Tx w K mg) : PySem.W.keepIn K (.ref a_need_rule) = true := T.F_need_rule.elim fun _ F => F.kp
theorem Tx.kp_need_notice (T : Tx w K mg) : PySem.W.keepIn K (.ref a_need_notice) = true := T.F_need_notice.elim fun _ F => F.kp
theorem Tx.kp_once (T : Tx w K mg) : PySem.W.keepIn K (.ref a_once) = true := T.F_once.elim fun _ F => F.kp
theorem Tx.kp_folded (T : Tx w K mg) : PySem.W.keepIn K (.ref a_folded) = true := T.F_folded.elim fun _ F => F.kp
theorem Tx.kp_are_nodes (T : Tx w K mg) : PySem.W.keepIn K (.ref a_are_nodes) = true := T.F_are_nodes.elim fun _ F => F.kp
theorem Tx.kp_are_finals (T : Tx w K mg) : PySem.W.keepIn K (.ref a_are_finals) = true := T.F_are_finals.elim fun _ F => F.kp
theorem Tx.kp_is_mirror_step (T : Tx w K mg) : PySem.W.keepIn K (.ref a_is_mirror_step) = true := T.F_is_mirror_step.elim fun _ F => F.kp
theorem Tx.kp_do_step (T : Tx w K mg) : PySem.W.keepIn K (.ref a_do_step) = true := T.F_do_step.elim fun _ F => F.kp
theorem Tx.kp_is_writer_step (T : Tx w K mg) : PySem.W.keepIn K (.ref a_is_writer_step) = true := T.F_is_writer_step.elim fun _ F => F.kp
theorem Tx.kp_words_of (T : Tx w K mg) : PySem.W.keepIn K (.ref a_words_of) = true := T.F_words_of.elim fun _ F => F.kp
theorem Tx.kp__law_rest (T : Tx w K mg) : PySem.W.keepIn K (.ref a__law_rest) = true := T.F_L_rest.elim fun _ F => F.kp
theorem Tx.kp__law_draw (T : Tx w K mg) : PySem.W.keepIn K (.ref a__law_draw) = true := T.F_L_draw.elim fun _ F => F.kp
theorem Tx.kp__law_pick (T : Tx w K mg) : PySem.W.keepIn K (.ref a__law_pick) = true := T.F_L_pick.elim fun _ F => F.kp
theorem Tx.kp__law_mirror_step (T : Tx w K mg) : PySem.W.keepIn K (.ref a__law_mirror_step) = true := T.F_L_mirror_step.elim fun _ F => F.kp
theorem Tx.kp__law_mirror_nodes (T : Tx w K mg) : PySem.W.keepIn K (.ref a__law_mirror_nodes) = true := T.F_L_mirror_nodes.elim fun _ F => F.kp
theorem Tx.kp__law_writer_step (T : Tx w K mg) : PySem.W.keepIn K (.ref a__law_writer_step) = true := T.F_L_writer_step.elim fun _ F => F.kp
theorem Tx.kp__law_writer_nodes (T : Tx w K mg) : PySem.W.keepIn K (.ref a__law_writer_nodes) = true := T.F_L_writer_nodes.elim fun _ F => F.kp
theorem Tx.kp__law_final_run (T : Tx w K mg) : PySem.W.keepIn K (.ref a__law_final_run) = true := T.F_L_final_run.elim fun _ F => F.kp
theorem Tx.kp__law_written (T : Tx w K mg) : PySem.W.keepIn K (.ref a__law_written) = true := T.F_L_written.elim fun _ F => F.kp
theorem Tx.kp__law_lies (T : Tx w K mg) : PySem.W.keepIn K (.ref a__law_lies) = true := T.F_L_lies.elim fun _ F => F.kp
theorem Tx.kp__law_pen (T : Tx w K mg) : PySem.W.keepIn K (.ref a__law_pen) = true := T.F_L_pen.elim fun _ F => F.kp
theorem Tx.kp__law_cell_at (T : Tx w K mg) : PySem.W.keepIn K (.ref a__law_cell_at) = true := T.F_L_cell_at.elim fun _ F => F.kp
theorem Tx.kp__law_pens (T : Tx w K mg) : PySem.W.keepIn K (.ref a__law_pens) = true := T.F_L_pens.elim fun _ F => F.kp
theorem Tx.kp__law_rule (T : Tx w K mg) : PySem.W.keepIn K (.ref a__law_rule) = true := T.F_L_rule.elim fun _ F => F.kp
theorem Tx.kp__law_start (T : Tx w K mg) : PySem.W.keepIn K (.ref a__law_start) = true := T.F_L_start.elim fun _ F => F.kp
theorem Tx.kp__law_alone (T : Tx w K mg) : PySem.W.keepIn K (.ref a__law_alone) = true := T.F_L_alone.elim fun _ F => F.kp
theorem Tx.kp__law_within (T : Tx w K mg) : PySem.W.keepIn K (.ref a__law_within) = true := T.F_L_within.elim fun _ F => F.kp
theorem Tx.kp__law_after (T : Tx w K mg) : PySem.W.keepIn K (.ref a__law_after) = true := T.F_L_after.elim fun _ F => F.kp
theorem Tx.kp__law_replayed (T : Tx w K mg) : PySem.W.keepIn K (.ref a__law_replayed) = true := T.F_L_replayed.elim fun _ F => F.kp
theorem Tx.kp__law_cut_at_rest (T : Tx w K mg) : PySem.W.keepIn K (.ref a__law_cut_at_rest) = true := T.F_L_cut_at_rest.elim fun _ F => F.kp
theorem Tx.kp__law_mirror_drawn (T : Tx w K mg) : PySem.W.keepIn K (.ref a__law_mirror_drawn) = true := T.F_L_mirror_drawn.elim fun _ F => F.kp
theorem Tx.kp__law_good_mirror (T : Tx w K mg) : PySem.W.keepIn K (.ref a__law_good_mirror) = true := T.F_L_good_mirror.elim fun _ F => F.kp
theorem Tx.kp__law_honest (T : Tx w K mg) : PySem.W.keepIn K (.ref a__law_honest) = true := T.F_L_honest.elim fun _ F => F.kp
theorem Tx.kp__law_committed (T : Tx w K mg) : PySem.W.keepIn K (.ref a__law_committed) = true := T.F_L_committed.elim fun _ F => F.kp
theorem Tx.kp_law (T : Tx w K mg) : PySem.W.keepIn K (.ref a_law) = true := T.F_law.elim fun _ F => F.kp
end
end KX
set_option maxHeartbeats 4000000
namespace KX
open PySem PySem.Spec PyProof.Rows L2
/-! ### promises of defs that let no error out -/
abbrev SpN := List V → Hp → VK → Prop
def FnN (P : Program) (w : World) (K : PySem.W.Frag) (mg : Str → Option Value) (base : Heap) (k : Nat) (f : Addr) (sp : SpN) : Prop := FnR P w K mg base CX0 k f (fun vs H Q _ => sp vs H Q)
abbrev bcx (P : Program) (w : World) (K : PySem.W.Frag) (mg : Str → Option Value) (base : Heap) (N : List Str) (d : FD) (A : Around) (outer : List Env) (s : Shared) (H : Hp) : Cx := (cxOf CX0 P w K mg base N d.qual (defScope d.st) d.at_ (.ref d.code) A outer s H E0).nox
section
variable {P : Program} {w : World} {K : PySem.W.Frag} {mg : Str → Option Value} {base : Heap} {j k : Nat} {f : Addr} {sp sp' : SpN} {d : FD} {fd : FuncData} {N ps : List Str}
theorem FnN.mono (F : FnN P w K mg base j f sp) (h : j ≤ k) : FnN P w K mg base k f sp := FnR.mono F h
theorem FnN.imp (F : FnN P w K mg base k f sp) (h : ∀ vs H Q, sp' vs H Q → sp vs H Q) : FnN P w K mg base k f sp' := FnR.imp F fun vs H Q _ => h vs H Q
/-- THE RULE: a def with plain parameters -/
theorem FunC.okN (F : FunC K d fd) (hc : d.clo = []) (S : FnScope N ps (defScope d.st))
    (hb : ∀ (kV doc pm : Value) (an : Option Addr) (cdv ct : Value) (us : List Value), us.length = ps.length → bindArgs (PySem.W.fnOf d.name d.qual (defArgs d.st) (defBody d.st) (defScope d.st) .none kV doc pm an cdv ct) ⟨us, []⟩ = pure (ps.zip us))
    (len : ∀ vs H Q, sp vs H Q → vs.length = ps.length)
    (hbody : ∀ (A : Around) (outer : List Env) (s : Shared) (H : Hp) (vs : List V) (Q : VK), Room k (A.deeper (envOfC d.qual (defScope d.st) s.heap.objs.size d.at_ (.ref d.code))) → sp vs H Q →
      ∃ t, PSs (bcx P w K mg base N d A outer s H) (defBody d.st) t ∧ t { nx := fun _ H' => Q .non H', rt := Q } (start N vs) H) : FnN P w K mg base (k + 1) d.at_ sp := by
  obtain ⟨od, kV, doc, pm, an, ct, osl, rfl, lk, hcd⟩ := F.ex
  rw [hc] at lk
  have G : FnOk P w K mg base CX0 (k + 1) d.at_ (PySem.W.fnOf d.name d.qual (defArgs d.st) (defBody d.st) (defScope d.st) .none kV doc pm an (.ref d.code) ct) ps (fun vs H Q _ => sp vs H Q) :=
    fn_of lk hcd S (fun vs H Q _ h => len vs H Q h) fun A outer s H vs Q E hr hsp => by
      obtain ⟨t, h, q⟩ := hbody A outer s H vs Q hr hsp
      exact ⟨t, PSs.nox ⟨h.run⟩, q⟩
  have z := FnOk.raw G (Binds.all (hb kV doc pm an (.ref d.code) ct)) (Paired.nil)
  exact FnR.imp z fun vs H Q E h => by
    show sp (vs ++ []) H Q
    rw [List.append_nil]
    exact h
end
/-! ### calls -/
def tCl (sp : SpN) (t : TA) : TE := fun σ H Q => t σ H fun vs H1 => sp vs H1 Q
def tMt (C : Addr) (m : Str) (sp : SpN) (ta : TE) (t : TA) : TE := fun σ H Q => ta σ H fun x H1 => ∃ a dx fs, x = .ref a ∧ H1 a = some (.ins C dx fs) ∧ fs.lookup m = none ∧ t σ H1 fun vs H2 => sp (x :: vs) H2 Q
def tMk (C : Addr) (sp : SpN) (t : TA) : TE := fun σ H Q => t σ H fun vs H1 => ∀ x dx, H1 x = none → H1 dx = none → dx ≠ x → sp (.ref x :: vs) (upd (upd H1 dx (.own x)) x (.ins C dx [])) (fun v H2 => v = .non ∧ Q (.ref x) H2)
def tPr (C : Addr) (sp : SpN) (ta : TE) : TE := fun σ H Q => ta σ H fun x H1 => ∃ a dx fs, x = .ref a ∧ H1 a = some (.ins C dx fs) ∧ sp [.ref a] H1 Q
section
variable {X : Cx} {k : Nat} {f C : Addr} {sp : SpN} {x m : Str} {p pos apos : Pos} {e o : Expr} {es : List Expr} {ta te : TE} {t : TA}
theorem pe_cl (F : FnN X.prog X.w X.K X.mg X.base k f sp) (hr : Room k X.A) (hk : PySem.W.keepIn X.K (.ref f) = true) (hm : X.mg x = some (.ref f)) (ha : PA X (e :: es) t) (hg : Gl X x := by rfl) (hdb : (x == ("__debug__" : Str)) = false := by decide)
    (he : starEach (e :: es) X.env = (false, eval e X.env) :: starEach es X.env := by rfl) (hpl : (backTo pos (starEach es X.env)).any (·.1) = false := by rfl) : PE X (.Call (.Name x p) (e :: es) [] pos) (tCl sp t) := by
  refine ⟨fun pins s σ H Q I h => ?_⟩
  refine wpAny_Call_Name_kw (ld_glob I hg hm ?_ hdb)
  refine PySem.W.callWith_K (h₀ := X.base) I.ok.mod.kin hk (thn (ha.run pos pins s σ H _ I h) fun us s1 ⟨vs, H1, I1, r, q⟩ => ⟨I1.kIn, ?_⟩) he hpl
  exact wpAny_call (run_fnR (E := E0) F hr pass0 I1 r q)
theorem pe_cl0 (F : FnN X.prog X.w X.K X.mg X.base k f sp) (hr : Room k X.A) (hk : PySem.W.keepIn X.K (.ref f) = true) (hm : X.mg x = some (.ref f)) (hg : Gl X x := by rfl) (hdb : (x == ("__debug__" : Str)) = false := by decide) : PE X (.Call (.Name x p) [] [] pos) (tCl sp tNil) := by
  refine ⟨fun pins s σ H Q I h => ?_⟩
  refine wpAny_Call_Name_kw (ld_glob I hg hm ?_ hdb)
  exact PySem.W.callWith_K0 I.kIn hk (wpAny_call (run_fnR (E := E0) (us := []) F hr pass0 I .nil h))
theorem pe_mt {pl : Sem Bool} (F : FnN X.prog X.w X.K X.mg X.base k f sp) (hr : Room k X.A) (c : Cls X.K C) (hm : Meth X.K C m f) (he : PE X o ta) (ha : PA X (e :: es) t)
    (hst : starEach (e :: es) X.env = (false, eval e X.env) :: starEach es X.env := by rfl) (hpl : (backTo pos (starEach es X.env)).any (·.1) = false := by rfl)
    (ht : eval (.Call (.Attribute o m apos) (e :: es) [] pos) X.env = (do
      let ov ← eval o X.env
      standAt apos.atName
      let (f, first) ← holding [ov] (getMethod ov m pl)
      callWith pos f first (backTo pos (starEach (e :: es) X.env)) (backToKw pos (keywordEach [] X.env))) := by rfl) :
    PE X (.Call (.Attribute o m apos) (e :: es) [] pos) (tMt C m sp ta t) :=
  ⟨fun pins s σ H Q I h => (pe_methR (pl := pl) (E := E0) he c hm F hr pass0 ha hst hpl ht).run pins s σ H Q I h⟩
theorem pe_mt0 {pl : Sem Bool} (F : FnN X.prog X.w X.K X.mg X.base k f sp) (hr : Room k X.A) (c : Cls X.K C) (hm : Meth X.K C m f) (he : PE X o ta)
    (ht : eval (.Call (.Attribute o m apos) [] [] pos) X.env = (do
      let ov ← eval o X.env
      standAt apos.atName
      let (f, first) ← holding [ov] (getMethod ov m pl)
      callWith pos f first (backTo pos (starEach [] X.env)) (backToKw pos (keywordEach [] X.env))) := by rfl) :
    PE X (.Call (.Attribute o m apos) [] [] pos) (tMt C m sp ta tNil) := by
  refine ⟨fun pins s σ H Q I h => ?_⟩
  refine PySem.W.methodCall_KW (pl := pl) (thn (he.run pins s σ H _ I h) fun u s1 ⟨x, H1, I1, rx, a, dx, fs, ex, ea, l, q⟩ => ?_) ht
  subst ex
  obtain rfl : u = Value.ref a := rx
  refine getmeth_ok I1 ea c hm l ?_
  exact PySem.W.callWith_K0 (first := [.ref a]) I1.kIn hm.kp (wpAny_call (run_fnR (E := E0) (us := [.ref a]) (vs := [.ref a]) F hr pass0 I1 (.cons rfl .nil) q))
theorem pe_mk (F : FnN X.prog X.w X.K X.mg X.base k f sp) (hr : Room (k + 1) X.A) (M : Mk X.K C f) (hm : X.mg x = some (.ref C)) (ha : PA X (e :: es) t) (hg : Gl X x := by rfl) (hdb : (x == ("__debug__" : Str)) = false := by decide)
    (he : starEach (e :: es) X.env = (false, eval e X.env) :: starEach es X.env := by rfl) (hpl : (backTo pos (starEach es X.env)).any (·.1) = false := by rfl) : PE X (.Call (.Name x p) (e :: es) [] pos) (tMk C sp t) :=
  ⟨fun pins s σ H Q I h => (StX.pe_makeR (E := E0) M F hr hg hm pass0 ha hdb he hpl).run pins s σ H Q I h⟩
/-- C(e, .., *y) -/
theorem pe_mkS (F : FnN X.prog X.w X.K X.mg X.base k f sp) (hr : Room (k + 1) X.A) (M : Mk X.K C f) (hm : X.mg x = some (.ref C)) (ha : PA X (e :: es) t) (hg : Gl X x := by rfl) (hdb : (x == ("__debug__" : Str)) = false := by decide)
    (he : starEach (e :: es) X.env = (false, eval e X.env) :: starEach es X.env := by rfl) (hst : (backTo pos (starEach es X.env)).any (·.1) = true := by rfl) : PE X (.Call (.Name x p) (e :: es) [] pos) (tMk C sp t) := by
  refine ⟨fun pins s σ H Q I h => ?_⟩
  refine wpAny_Call_Name_kw (ld_glob I hg hm ?_ hdb)
  refine PySem.W.callWith_S2 (h₀ := X.base) I.ok.mod.kin M.kp (thn (ha.run pos pins s σ H _ I h) fun us s1 ⟨vs, H1, I1, r, q⟩ => ⟨I1.kIn, ?_⟩) he hst
  exact StX.run_makeR (E := E0) M F hr pass0 I1 r q
/-- o.f, a property -/
theorem pe_pr {q : Addr} (F : FnN X.prog X.w X.K X.mg X.base k f sp) (hr : Room (k + 1) X.A) (c : Cls X.K C) (hp : PropOf X.K C m q f) (he : PE X e ta) (hab : attributeBase e m X.env (eval e X.env) = eval e X.env) : PE X (.Attribute e m pos) (tPr C sp ta) := by
  refine ⟨fun pins s σ H Q I h => ?_⟩
  refine attr_of hab (thn (he.run pins s σ H _ I h) fun u s1 ⟨x, H1, I1, rx, a, dx, fs, ex, ea, q⟩ => ?_)
  subst ex
  obtain rfl : u = Value.ref a := rx
  obtain ⟨mA, O, _, _, _, _⟩ := ins_get I1.hok ea
  obtain ⟨od, J, _⟩ := O.look
  obtain ⟨rest, hrec⟩ := hp.rec_
  have I2 := I1.tok (s1.toks + 1)
  have hc : (PySem.W.clsIn X.K C).isSome = true := by
    obtain ⟨cd, hc, _⟩ := PySem.W.any_some c.hd
    rw [hc]
    rfl
  refine PySem.W.get_bind I1.kIn J (PySem.W.plainGet_of (c.get m)).1 (PySem.W.findObj_data hc hp.at_ hp.get hp.tak) (PySem.W.plainGet_of (c.get m)).2 (wpAny_call (PySem.W.prop_get (s := { s1 with toks := s1.toks + 1 }) I1.kIn hrec ?_))
  refine codeAny_mono (F X.A.in1 X.stack { s1 with toks := s1.toks + 1 } H1 [.ref a] [.ref a] Q E0 hr.in1 I2.env0.in1 (.cons rfl .nil) q) fun r s' hq => ?_
  cases r with
  | error er => exact False.elim hq
  | ok fl =>
    cases fl with
    | ret u =>
      obtain ⟨v, H', I3, rv, q3⟩ := I2.after hq
      show wpAny _ _ (handedOut u) _ _ _
      rw [PySem.W.handedOut_of (handed_of rv)]
      exact wpAny_pure ⟨v, H', I3, rv, q3⟩
    | next => exact False.elim hq
    | brk => exact False.elim hq
    | cont => exact False.elim hq
end
/-! ### names of the module as values -/
section
variable {X : Cx} {x : Str} {pos : Pos}
theorem pe_ci {i : Int} (h : ∃ t, X.mg x = some (.int i t)) (hg : Gl X x := by rfl) (hd : (x == ("__debug__" : Str)) = false := by decide) : PE X (.Name x pos) (tC (.int i)) := by
  obtain ⟨t, h⟩ := h
  exact pe_glob hg h ⟨t, rfl⟩ hd
theorem pe_cs {z : Str} (h : ∃ t, X.mg x = some (.str z t)) (hg : Gl X x := by rfl) (hd : (x == ("__debug__" : Str)) = false := by decide) : PE X (.Name x pos) (tC (.str z)) := by
  obtain ⟨t, h⟩ := h
  exact pe_glob hg h ⟨t, rfl⟩ hd
theorem pe_gr {a : Addr} (h : X.mg x = some (.ref a)) (hg : Gl X x := by rfl) (hd : (x == ("__debug__" : Str)) = false := by decide) : PE X (.Name x pos) (tC (.ref a)) := pe_glob hg h rfl hd
theorem pe_ty {n : String} (h : X.mg x = none) (hv : bootBuiltins x = some (.type n)) (hg : Gl X x := by rfl) (hn : x ≠ "__name__" := by decide) (hd : (x == ("__debug__" : Str)) = false := by decide) : PE X (.Name x pos) (tC (.ty n)) := pe_bltn hg h hv rfl hn hd
end
/-! ### heaps -/
/-- all that was tracked stands, but what is in M -/
def Fr (M : Addr → Prop) (H H' : Hp) : Prop := ∀ b o, H b = some o → ¬ M b → H' b = some o
theorem Same.new {H : Hp} {p : Addr} {o : HO} (h : H p = none) : Same H (upd H p o) := fun b u e => (upd_ne (ne_of_none e h)).trans e
theorem Same.upd {H H' : Hp} {p : Addr} {o : HO} (e : Same H H') (h : H p = none) : Same H (upd H' p o) := fun b u q => (upd_ne (ne_of_none q h)).trans (e b u q)
theorem Same.tup {K : PySem.W.Frag} {H H' : Hp} {a : Addr} {xs : List V} (e : Same H H') (h : SqT K H a xs) : SqT K H' a xs := by
  rcases h with (h | ⟨o, h⟩) | h
  · exact .inl (.inl (e _ _ h))
  · exact .inl (.inr ⟨o, e _ _ h⟩)
  · exact .inr h
end KX
set_option maxHeartbeats 4000000
namespace KX
open PySem PySem.Spec PyProof.Rows L2
/-! ### data in tuples: it never changes -/
mutual
inductive DT (K : PySem.W.Frag) (H : Hp) : V → PyData → Prop
  | non : DT K H .non .none
  | bl (b : Bool) : DT K H (.bl b) (.bool b)
  | int (i : Int) : DT K H (.int i) (.int i)
  | str (x : Str) : DT K H (.str x) (.str x)
  | tup {a : Addr} {xs : List V} {ds : List PyData} : H a = some (.tup xs) → DTs K H xs ds → DT K H (.ref a) (.tuple ds)
inductive DTs (K : PySem.W.Frag) (H : Hp) : List V → List PyData → Prop
  | nil : DTs K H [] []
  | cons {v : V} {vs : List V} {d : PyData} {ds : List PyData} : DT K H v d → DTs K H vs ds → DTs K H (v :: vs) (d :: ds)
end
/-- the tuples stand -/
def Tp (_K : PySem.W.Frag) (H H' : Hp) : Prop := ∀ a xs, H a = some (.tup xs) → H' a = some (.tup xs)
theorem Tp.refl {K : PySem.W.Frag} {H : Hp} : Tp K H H := fun _ _ h => h
theorem Tp.trans {K : PySem.W.Frag} {H H1 H2 : Hp} (a : Tp K H H1) (b : Tp K H1 H2) : Tp K H H2 := fun x y h => b x y (a x y h)
theorem _root_.L2.Same.tp {K : PySem.W.Frag} {H H' : Hp} (e : Same H H') : Tp K H H' := fun _ _ h => e _ _ h
def notTup : HO → Bool
  | .tup _ => false
  | .frz _ _ => false
  | _ => true
theorem Tp.upd {K : PySem.W.Frag} {H : Hp} {p : Addr} {o o' : HO} (h : H p = some o) (hn : notTup o = true) : Tp K H (upd H p o') := fun a xs s => (upd_ne (fun z => by
  rw [z, h] at s
  rw [Option.some.inj s] at hn
  cases hn)).trans s
section
variable {K : PySem.W.Frag} {H H' : Hp}
mutual
theorem DT.mono (e : Tp K H H') : ∀ (d : PyData) (v : V), DT K H v d → DT K H' v d
  | .none, _, h => by cases h; exact .non
  | .bool b, _, h => by cases h; exact .bl b
  | .int i, _, h => by cases h; exact .int i
  | .str x, _, h => by cases h; exact .str x
  | .list _, _, h => by cases h
  | .dict _, _, h => by cases h
  | .tuple ds, _, h => by
    cases h with
    | tup s t => exact .tup (e _ _ s) (DTs.mono e ds _ t)
theorem DTs.mono (e : Tp K H H') : ∀ (ds : List PyData) (vs : List V), DTs K H vs ds → DTs K H' vs ds
  | [], _, h => by cases h; exact .nil
  | d :: ds, _, h => by
    cases h with
    | cons a b => exact .cons (DT.mono e d _ a) (DTs.mono e ds _ b)
end
mutual
theorem DT.dp : ∀ (d : PyData) (v : V), DT K H v d → Dp K H v d
  | .none, _, h => by cases h; exact .non
  | .bool b, _, h => by cases h; exact .bl b
  | .int i, _, h => by cases h; exact .int i
  | .str x, _, h => by cases h; exact .str x
  | .list _, _, h => by cases h
  | .dict _, _, h => by cases h
  | .tuple ds, _, h => by
    cases h with
    | tup s t => exact .tup (SqT.of s) (DTs.dp ds _ t)
theorem DTs.dp : ∀ (ds : List PyData) (vs : List V), DTs K H vs ds → DpAll K H vs ds
  | [], _, h => by cases h; exact .nil
  | d :: ds, _, h => by
    cases h with
    | cons a b => exact .cons (DT.dp d _ a) (DTs.dp ds _ b)
end
theorem DTs.len : ∀ {vs : List V} {ds : List PyData}, DTs K H vs ds → vs.length = ds.length
  | _, _, .nil => rfl
  | _, _, .cons _ t => congrArg Nat.succ (DTs.len t)
theorem DTs.get : ∀ {vs : List V} {ds : List PyData} {i : Nat} {d : PyData}, DTs K H vs ds → ds[i]? = some d → ∃ v, vs[i]? = some v ∧ DT K H v d
  | _, _, _, _, .nil, e => by simp at e
  | _, _, 0, _, .cons h _, e => by
    simp at e
    subst e
    exact ⟨_, rfl, h⟩
  | _, _, i + 1, _, .cons _ t, e => by
    obtain ⟨v, h1, h2⟩ := DTs.get (i := i) t (by simpa using e)
    exact ⟨v, by simpa using h1, h2⟩
theorem DTs.getV {vs : List V} {ds : List PyData} {i : Nat} {v : V} (h : DTs K H vs ds) (e : vs[i]? = some v) : ∃ d, ds[i]? = some d ∧ DT K H v d := by
  have hi := (List.getElem?_eq_some_iff.mp e).1
  rw [h.len] at hi
  obtain ⟨u, h1, h2⟩ := h.get (List.getElem?_eq_getElem hi)
  rw [e] at h1
  cases h1
  exact ⟨_, List.getElem?_eq_getElem hi, h2⟩
theorem DTs.at {vs : List V} {ds : List PyData} {i : Int} {d : PyData} (h : DTs K H vs ds) (e : atI ds i = some d) : ∃ v, atI vs i = some v ∧ DT K H v d := by
  unfold atI at e ⊢
  rw [h.len]
  cases q : ixN ds.length i with
  | none =>
    rw [q] at e
    cases e
  | some j =>
    rw [q] at e
    exact h.get e
theorem DTs.append : ∀ {xs ys : List V} {ds es : List PyData}, DTs K H xs ds → DTs K H ys es → DTs K H (xs ++ ys) (ds ++ es)
  | _, _, _, _, .nil, s => s
  | _, _, _, _, .cons r t, s => .cons r (DTs.append t s)
theorem DTs.take : ∀ {xs : List V} {ds : List PyData} (n : Nat), DTs K H xs ds → DTs K H (xs.take n) (ds.take n)
  | _, _, 0, _ => .nil
  | _, _, _ + 1, .nil => .nil
  | _, _, n + 1, .cons r t => .cons r (DTs.take n t)
theorem DTs.drop : ∀ {xs : List V} {ds : List PyData} (n : Nat), DTs K H xs ds → DTs K H (xs.drop n) (ds.drop n)
  | _, _, 0, r => r
  | _, _, _ + 1, .nil => .nil
  | _, _, n + 1, .cons _ t => DTs.drop n t
theorem DTs.one {v : V} {d : PyData} (h : DT K H v d) : DTs K H [v] [d] := .cons h .nil
theorem DTs.int : ∀ (ns : List Int), DTs K H (ns.map V.int) (ns.map PyData.int)
  | [] => .nil
  | n :: ns => .cons (.int n) (DTs.int ns)
theorem DTs.str : ∀ (ns : List Str), DTs K H (ns.map V.str) (ns.map PyData.str)
  | [] => .nil
  | n :: ns => .cons (.str n) (DTs.str ns)
theorem DTs.ints : ∀ {ns : List Int} {vs : List V}, DTs K H vs (ns.map PyData.int) → vs = ns.map V.int
  | [], _, h => by cases h; rfl
  | n :: ns, _, h => by
    cases h with
    | cons a b =>
      cases a
      rw [DTs.ints b]
      rfl
/-- a flat datum as a value -/
def sV : PyData → Option V
  | .none => some .non
  | .bool b => some (.bl b)
  | .int i => some (.int i)
  | .str x => some (.str x)
  | _ => none
theorem DT.flat {v a : V} {d : PyData} (h : DT K H v d) (e : sV d = some a) : v = a := by
  cases h <;> first | exact Option.some.inj e | cases e
theorem sV_flat {d : PyData} {a : V} (e : sV d = some a) : flatV a = true := by
  cases d <;> first | (cases e; rfl) | cases e
theorem DTs.flat : ∀ {vs as : List V} {ds : List PyData}, DTs K H vs ds → ds.map sV = as.map some → vs = as
  | _, [], _, .nil, _ => rfl
  | _, _ :: _, _, .nil, e => by cases e
  | _, [], _, .cons _ _, e => by cases e
  | _, a :: as, _, .cons h t, e => by
    injection e with e1 e2
    rw [h.flat e1, DTs.flat t e2]
end
/-! ### slots -/
inductive SV where
  | no | v (x : V) | d (x : PyData)
def SV.is (K : PySem.W.Frag) (H : Hp) (o : Option V) : SV → Prop
  | .no => True
  | .v x => o = some x
  | .d x => ∃ v, o = some v ∧ DT K H v x
structure DS (K : PySem.W.Frag) (H : Hp) (σ : L2.St) (ss : List SV) : Prop where
  len : σ.length = ss.length
  at_ : ∀ (i : Nat) (s : SV), ss[i]? = some s → ∃ o, σ[i]? = some o ∧ SV.is K H o s
section
variable {K : PySem.W.Frag} {H H' : Hp} {σ : L2.St} {ss : List SV}
theorem SV.mono (e : Tp K H H') {o : Option V} {s : SV} (h : SV.is K H o s) : SV.is K H' o s := by
  cases s with
  | no => trivial
  | v x => exact h
  | d x =>
    obtain ⟨v, e1, e2⟩ := h
    exact ⟨v, e1, e2.mono e⟩
theorem DS.mono (e : Tp K H H') (h : DS K H σ ss) : DS K H' σ ss := ⟨h.len, fun i s q => by
  obtain ⟨o, h1, h2⟩ := h.at_ i s q
  exact ⟨o, h1, SV.mono e h2⟩⟩
theorem DS.set (h : DS K H σ ss) {i : Nat} {v : V} {s : SV} (hs : SV.is K H (some v) s) : DS K H (σ.set i (some v)) (ss.set i s) := ⟨by rw [List.length_set, List.length_set]; exact h.len, fun j t q => by
  by_cases hj : i = j
  · subst hj
    have hi := (List.getElem?_eq_some_iff.mp q).1
    rw [List.length_set] at hi
    rw [List.getElem?_set_self hi] at q
    cases q
    exact ⟨some v, List.getElem?_set_self (by rw [h.len]; exact hi), hs⟩
  · rw [List.getElem?_set_ne hj] at q
    rw [List.getElem?_set_ne hj]
    exact h.at_ j t q⟩
theorem DS.d (h : DS K H σ ss) {i : Nat} {d : PyData} (e : ss[i]? = some (.d d)) : ∃ v, σ[i]? = some (some v) ∧ DT K H v d := by
  obtain ⟨o, h1, v, h2, h3⟩ := h.at_ i _ e
  subst h2
  exact ⟨v, h1, h3⟩
theorem DS.v (h : DS K H σ ss) {i : Nat} {x : V} (e : ss[i]? = some (.v x)) : σ[i]? = some (some x) := by
  obtain ⟨o, h1, h2⟩ := h.at_ i _ e
  have h3 : o = some x := h2
  subst h3
  exact h1
theorem DS.nil : DS K H [] [] := ⟨rfl, fun i s q => by simp at q⟩
theorem DS.cons {o : Option V} {s : SV} (a : SV.is K H o s) (h : DS K H σ ss) : DS K H (o :: σ) (s :: ss) := ⟨congrArg Nat.succ h.len, fun i t q => by
  cases i with
  | zero =>
    simp at q
    subst q
    exact ⟨o, rfl, a⟩
  | succ i =>
    obtain ⟨u, h1, h2⟩ := h.at_ i t (by simpa using q)
    exact ⟨u, by simpa using h1, h2⟩⟩
theorem DS.nos : ∀ n : Nat, DS K H (List.replicate n none) (List.replicate n .no)
  | 0 => .nil
  | n + 1 => .cons (σ := List.replicate n none) (ss := List.replicate n .no) (s := .no) trivial (DS.nos n)
theorem DS.args : ∀ {vs : List V} {ds : List PyData} (n : Nat), DTs K H vs ds → DS K H (vs.map some ++ List.replicate n none) (ds.map SV.d ++ List.replicate n .no)
  | _, _, n, .nil => DS.nos n
  | _, _, n, .cons h t => .cons (s := .d _) ⟨_, rfl, h⟩ (DS.args n t)
theorem DS.start {N : List Str} {vs : List V} {ds : List PyData} (h : DTs K H vs ds) : DS K H (start N vs) (ds.map SV.d ++ List.replicate (N.length - ds.length) .no) := by
  unfold L2.start
  rw [h.len]
  exact DS.args _ h
end
/-! ### what evaluates to what -/
/-- what is known of the heap, whatever new is laid -/
structure Gm where
  p : Hp → Prop
  mono : ∀ H H', p H → Same H H' → p H'
def EvD (K : PySem.W.Frag) (G : Gm) (te : TE) (ss : List SV) (d : PyData) : Prop := ∀ σ H, G.p H → DS K H σ ss → ∀ Q : VK, (∀ v H', Same H H' → DT K H' v d → Q v H') → te σ H Q
def EvA (K : PySem.W.Frag) (G : Gm) (ta : TA) (ss : List SV) (ds : List PyData) : Prop := ∀ σ H, G.p H → DS K H σ ss → ∀ Q : List V → Hp → Prop, (∀ vs H', Same H H' → DTs K H' vs ds → Q vs H') → ta σ H Q
def EvT (K : PySem.W.Frag) (G : Gm) (tt : TT) (ss : List SV) (b : Bool) : Prop := ∀ σ H, G.p H → DS K H σ ss → ∀ Q : Bool → Hp → Prop, (∀ H', Same H H' → Q b H') → tt σ H Q
def EvO (K : PySem.W.Frag) (G : Gm) (to : TO) (ss : List SV) (o : Option Int) : Prop := ∀ σ H, G.p H → DS K H σ ss → ∀ Q : Option Int → Hp → Prop, (∀ H', Same H H' → Q o H') → to σ H Q
/-- an exact value -/
def EvV (K : PySem.W.Frag) (G : Gm) (te : TE) (ss : List SV) (x : V) : Prop := ∀ σ H, G.p H → DS K H σ ss → ∀ Q : VK, (∀ H', Same H H' → Q x H') → te σ H Q
/-- the promise of a def of data -/
def spD (K : PySem.W.Frag) (R : List PyData → PyData → Prop) : SpN := fun vs H Q => ∃ ds r, DTs K H vs ds ∧ R ds r ∧ ∀ v H', Same H H' → DT K H' v r → Q v H'
section
variable {K : PySem.W.Frag} {G : Gm} {ss : List SV} {ta tb te tx : TE} {t u : TT} {tA : TA} {x y z d : PyData} {i : Nat} {tl th : TO}
theorem ev_var (e : ss[i]? = some (.d d)) : EvD K G (tVar i) ss d := fun σ H g s Q q => by
  obtain ⟨v, h1, h2⟩ := s.d e
  exact ⟨v, h1, q v H (Same.refl H) h2⟩
theorem evv_var {x : V} (e : ss[i]? = some (.v x)) : EvV K G (tVar i) ss x := fun σ H g s Q q => ⟨x, s.v e, q H (Same.refl H)⟩
theorem ev_int {n : Int} : EvD K G (tC (.int n)) ss (.int n) := fun σ H g s Q q => q _ H (Same.refl H) (.int n)
theorem ev_str {n : Str} : EvD K G (tC (.str n)) ss (.str n) := fun σ H g s Q q => q _ H (Same.refl H) (.str n)
theorem ev_bl {n : Bool} : EvD K G (tC (.bl n)) ss (.bool n) := fun σ H g s Q q => q _ H (Same.refl H) (.bl n)
theorem ev_non : EvD K G (tC .non) ss .none := fun σ H g s Q q => q _ H (Same.refl H) .non
theorem eva_nil : EvA K G tNil ss [] := fun σ H g s Q q => q [] H (Same.refl H) .nil
theorem eva_cons {ds : List PyData} (h : EvD K G te ss d) (hr : EvA K G tA ss ds) : EvA K G (tCons te tA) ss (d :: ds) := fun σ H g s Q q =>
  h σ H g s _ fun v H1 e1 a => hr σ H1 (G.mono _ _ g e1) (s.mono e1.tp) _ fun vs H2 e2 b => q (v :: vs) H2 (e1.trans e2) (.cons (a.mono e2.tp) b)
theorem ev_tup {ds : List PyData} (h : EvA K G tA ss ds) (hl : ds.length ≤ 1000 := by exact Nat.le_of_ble_eq_true rfl) : EvD K G (tTup tA) ss (.tuple ds) := fun σ H g s Q q =>
  h σ H g s _ fun vs H1 e1 a => ⟨Nat.le_of_lt (small1000 (by rw [a.len]; exact hl)), fun p hp => q (.ref p) _ (e1.trans (Same.new hp)) (.tup upd_same (a.mono (Same.new hp).tp))⟩
theorem ev_rI {f : Int → Int → Int} {a b : Int} (h1 : EvD K G ta ss (.int a)) (h2 : EvD K G tb ss (.int b)) : EvD K G (tOp (rI0 fun i j => .int (f i j)) ta tb) ss (.int (f a b)) := fun σ H g s Q q =>
  h1 σ H g s _ fun v H1 e1 a1 => h2 σ H1 (G.mono _ _ g e1) (s.mono e1.tp) _ fun w H2 e2 a2 => by
    cases a1
    cases a2
    exact ⟨_, _, rfl, rfl, q _ H2 (e1.trans e2) (.int _)⟩
theorem ev_rIC {C : Int → Int → Prop} {f : Int → Int → Int} {a b : Int} (h1 : EvD K G ta ss (.int a)) (h2 : EvD K G tb ss (.int b)) (hc : C a b) : EvD K G (tOp (rI C fun i j => .int (f i j)) ta tb) ss (.int (f a b)) := fun σ H g s Q q =>
  h1 σ H g s _ fun v H1 e1 a1 => h2 σ H1 (G.mono _ _ g e1) (s.mono e1.tp) _ fun w H2 e2 a2 => by
    cases a1
    cases a2
    exact ⟨_, _, rfl, rfl, hc, q _ H2 (e1.trans e2) (.int _)⟩
theorem ev_rB {f : Int → Int → Bool} {a b : Int} (h1 : EvD K G ta ss (.int a)) (h2 : EvD K G tb ss (.int b)) : EvD K G (tOp (rI0 fun i j => .bl (f i j)) ta tb) ss (.bool (f a b)) := fun σ H g s Q q =>
  h1 σ H g s _ fun v H1 e1 a1 => h2 σ H1 (G.mono _ _ g e1) (s.mono e1.tp) _ fun w H2 e2 a2 => by
    cases a1
    cases a2
    exact ⟨_, _, rfl, rfl, q _ H2 (e1.trans e2) (.bl _)⟩
theorem ev_neg {a : Int} (h : EvD K G ta ss (.int a)) : EvD K G (tUn (rU fun i => .int (-i)) ta) ss (.int (-a)) := fun σ H g s Q q =>
  h σ H g s _ fun v H1 e1 a1 => by
    cases a1
    exact ⟨_, rfl, q _ H1 e1 (.int _)⟩
theorem ev_eq {a b : V} (h1 : EvD K G ta ss x) (h2 : EvD K G tb ss y) (ha : sV x = some a) (hb : sV y = some b) (hs : scal a b = true) : EvD K G (tOp rEq ta tb) ss (.bool (decide (a = b))) := fun σ H g s Q q =>
  h1 σ H g s _ fun v H1 e1 a1 => h2 σ H1 (G.mono _ _ g e1) (s.mono e1.tp) _ fun w H2 e2 a2 => by
    have ev := a1.flat ha
    have ew := a2.flat hb
    subst ev ew
    exact ⟨hs, q _ H2 (e1.trans e2) (.bl _)⟩
theorem ev_ne {a b : V} (h1 : EvD K G ta ss x) (h2 : EvD K G tb ss y) (ha : sV x = some a) (hb : sV y = some b) (hs : scal a b = true) : EvD K G (tOp rNe ta tb) ss (.bool (!decide (a = b))) := fun σ H g s Q q =>
  h1 σ H g s _ fun v H1 e1 a1 => h2 σ H1 (G.mono _ _ g e1) (s.mono e1.tp) _ fun w H2 e2 a2 => by
    have ev := a1.flat ha
    have ew := a2.flat hb
    subst ev ew
    exact ⟨hs, q _ H2 (e1.trans e2) (.bl _)⟩
theorem dec_strV {a b : Str} : decide (V.str a = V.str b) = decide (a = b) := by
  by_cases h : a = b
  · rw [decide_eq_true h, decide_eq_true (congrArg V.str h)]
  · rw [decide_eq_false h, decide_eq_false fun e => h (V.str.inj e)]
theorem dec_intV {a b : Int} : decide (V.int a = V.int b) = decide (a = b) := by
  by_cases h : a = b
  · rw [decide_eq_true h, decide_eq_true (congrArg V.int h)]
  · rw [decide_eq_false h, decide_eq_false fun e => h (V.int.inj e)]
theorem ev_eqs {a b : Str} (h1 : EvD K G ta ss (.str a)) (h2 : EvD K G tb ss (.str b)) : EvD K G (tOp rEq ta tb) ss (.bool (decide (a = b))) := dec_strV ▸ ev_eq h1 h2 rfl rfl rfl
theorem ev_nes {a b : Str} (h1 : EvD K G ta ss (.str a)) (h2 : EvD K G tb ss (.str b)) : EvD K G (tOp rNe ta tb) ss (.bool (!decide (a = b))) := dec_strV ▸ ev_ne h1 h2 rfl rfl rfl
theorem ev_eqi {a b : Int} (h1 : EvD K G ta ss (.int a)) (h2 : EvD K G tb ss (.int b)) : EvD K G (tOp rEq ta tb) ss (.bool (decide (a = b))) := dec_intV ▸ ev_eq h1 h2 rfl rfl rfl
theorem ev_nei {a b : Int} (h1 : EvD K G ta ss (.int a)) (h2 : EvD K G tb ss (.int b)) : EvD K G (tOp rNe ta tb) ss (.bool (!decide (a = b))) := dec_intV ▸ ev_ne h1 h2 rfl rfl rfl
theorem ev_eqD (h1 : EvD K G ta ss x) (h2 : EvD K G tb ss y) (hx : SeqAt.shaped x = true) (hy : SeqAt.shaped y = true) : EvD K G (tOp (rEqD K) ta tb) ss (.bool (PyData.eqv x y)) := fun σ H g s Q q =>
  h1 σ H g s _ fun v H1 e1 a1 => h2 σ H1 (G.mono _ _ g e1) (s.mono e1.tp) _ fun w H2 e2 a2 => ⟨_, _, (a1.mono e2.tp).dp, a2.dp, hx, hy, q _ H2 (e1.trans e2) (.bl _)⟩
theorem ev_neD (h1 : EvD K G ta ss x) (h2 : EvD K G tb ss y) (hx : SeqAt.shaped x = true) (hy : SeqAt.shaped y = true) : EvD K G (tOp (rNeD K) ta tb) ss (.bool (!PyData.eqv x y)) := fun σ H g s Q q =>
  h1 σ H g s _ fun v H1 e1 a1 => h2 σ H1 (G.mono _ _ g e1) (s.mono e1.tp) _ fun w H2 e2 a2 => ⟨_, _, (a1.mono e2.tp).dp, a2.dp, hx, hy, q _ H2 (e1.trans e2) (.bl _)⟩
def isNoneD : PyData → Bool
  | .none => true
  | _ => false
theorem DT.non_iff {H : Hp} {v : V} (h : DT K H v d) : decide (v = .non) = isNoneD d := by
  cases h <;> first | rfl | exact decide_eq_false fun z => nomatch z
theorem ev_isN (h1 : EvD K G ta ss x) : EvD K G (tOp (fun x y H Q => y = .non ∧ Q (.bl (decide (x = .non))) H) ta (tC .non)) ss (.bool (isNoneD x)) := fun σ H g s Q q =>
  h1 σ H g s _ fun v H1 e1 a1 => ⟨rfl, by rw [a1.non_iff]; exact q _ H1 e1 (.bl _)⟩
theorem ev_notN (h1 : EvD K G ta ss x) : EvD K G (tOp (fun x y H Q => y = .non ∧ Q (.bl (!decide (x = .non))) H) ta (tC .non)) ss (.bool (!isNoneD x)) := fun σ H g s Q q =>
  h1 σ H g s _ fun v H1 e1 a1 => ⟨rfl, by rw [a1.non_iff]; exact q _ H1 e1 (.bl _)⟩
theorem ev_ix {ds : List PyData} {n : Int} (h1 : EvD K G ta ss (.tuple ds)) (h2 : EvD K G tb ss (.int n)) (e : atI ds n = some d) : EvD K G (tOp (rIxT K) ta tb) ss d := fun σ H g s Q q =>
  h1 σ H g s _ fun v H1 e1 a1 => h2 σ H1 (G.mono _ _ g e1) (s.mono e1.tp) _ fun w H2 e2 a2 => by
    cases a1 with
    | tup sq ts =>
      cases a2
      obtain ⟨v, h3, h4⟩ := (ts.mono e2.tp).at e
      exact ⟨_, _, _, _, rfl, rfl, SqT.of (e2 _ _ sq), h3, q v H2 (e1.trans e2) h4⟩
theorem all_flat : ∀ {ds : List PyData} {as : List V}, ds.map sV = as.map some → as.all flatV = true
  | [], [], _ => rfl
  | [], _ :: _, h => by cases h
  | _ :: _, [], h => by cases h
  | c :: cs, z :: zs, h => by
    injection h with q1 q2
    rw [List.all_cons, sV_flat q1, all_flat q2] <;> rfl
/-- in a tuple of flat things -/
theorem ev_in {neg : Bool} {a : V} {ds : List PyData} {as : List V} (h1 : EvD K G ta ss x) (h2 : EvD K G tb ss (.tuple ds)) (ha : sV x = some a) (hs : ds.map sV = as.map some) :
    EvD K G (tOp (rIn K neg) ta tb) ss (.bool (if neg then !inV a as else inV a as)) := fun σ H g s Q q =>
  h1 σ H g s _ fun v H1 e1 a1 => h2 σ H1 (G.mono _ _ g e1) (s.mono e1.tp) _ fun w H2 e2 a2 => by
    have ev := a1.flat ha
    subst ev
    cases a2 with
    | tup sq ts =>
      have e3 := ts.flat hs
      subst e3
      exact ⟨_, _, rfl, .inr (SqT.of sq), sV_flat ha, all_flat hs, q _ H2 (e1.trans e2) (.bl _)⟩
/-- in a tuple of the written part -/
theorem ev_inK {neg : Bool} {a : V} {p : Addr} {as : List V} (h1 : EvD K G ta ss x) (hK : ∀ H, SqT K H p as) (ha : sV x = some a) (hs : as.all flatV = true) :
    EvD K G (tOp (rIn K neg) ta (tC (.ref p))) ss (.bool (if neg then !inV a as else inV a as)) := fun σ H g s Q q =>
  h1 σ H g s _ fun v H1 e1 a1 => by
    have ev := a1.flat ha
    subst ev
    exact ⟨_, _, rfl, .inr (hK H1), sV_flat ha, hs, q _ H1 e1 (.bl _)⟩
theorem inV_str {z : Str} : ∀ l : List Str, inV (.str z) (l.map V.str) = decide (z ∈ l)
  | [] => rfl
  | a :: l => by
    have h := inV_str (z := z) l
    unfold inV at h ⊢
    rw [List.map_cons, List.any_cons, h]
    show ((a == z) || decide (z ∈ l)) = decide (z ∈ a :: l)
    by_cases e : a = z
    · subst e
      simp
    · have e2 : ¬ z = a := fun q => e q.symm
      simp [e, e2]
theorem inV_int {z : Int} : ∀ l : List Int, inV (.int z) (l.map V.int) = decide (z ∈ l)
  | [] => rfl
  | a :: l => by
    have h := inV_int (z := z) l
    unfold inV at h ⊢
    rw [List.map_cons, List.any_cons, h]
    show ((a == z) || decide (z ∈ l)) = decide (z ∈ a :: l)
    by_cases e : a = z
    · subst e
      simp
    · have e2 : ¬ z = a := fun q => e q.symm
      simp [e, e2]
theorem map_sV_str : ∀ l : List Str, (l.map PyData.str).map sV = (l.map V.str).map some
  | [] => rfl
  | a :: l => by
    show _ :: (l.map PyData.str).map sV = _
    rw [map_sV_str l] <;> rfl
theorem map_sV_int : ∀ l : List Int, (l.map PyData.int).map sV = (l.map V.int).map some
  | [] => rfl
  | a :: l => by
    show _ :: (l.map PyData.int).map sV = _
    rw [map_sV_int l] <;> rfl
theorem ev_inS {z : Str} (l : List Str) (h1 : EvD K G ta ss (.str z)) (h2 : EvD K G tb ss (.tuple (l.map .str))) : EvD K G (tOp (rIn K false) ta tb) ss (.bool (decide (z ∈ l))) := inV_str l ▸ ev_in h1 h2 rfl (map_sV_str l)
theorem ev_ninS {z : Str} (l : List Str) (h1 : EvD K G ta ss (.str z)) (h2 : EvD K G tb ss (.tuple (l.map .str))) : EvD K G (tOp (rIn K true) ta tb) ss (.bool (!decide (z ∈ l))) := inV_str l ▸ ev_in h1 h2 rfl (map_sV_str l)
theorem flat_strs : ∀ l : List Str, (l.map V.str).all flatV = true
  | [] => rfl
  | a :: l => by rw [List.map_cons, List.all_cons, flat_strs l] <;> rfl
theorem ev_inSK {z : Str} {p : Addr} (l : List Str) (h1 : EvD K G ta ss (.str z)) (hK : ∀ H, SqT K H p (l.map V.str)) : EvD K G (tOp (rIn K false) ta (tC (.ref p))) ss (.bool (decide (z ∈ l))) := inV_str l ▸ ev_inK h1 hK rfl (flat_strs l)
theorem ev_ninSK {z : Str} {p : Addr} (l : List Str) (h1 : EvD K G ta ss (.str z)) (hK : ∀ H, SqT K H p (l.map V.str)) : EvD K G (tOp (rIn K true) ta (tC (.ref p))) ss (.bool (!decide (z ∈ l))) := inV_str l ▸ ev_inK h1 hK rfl (flat_strs l)
theorem ev_inI {z : Int} (l : List Int) (h1 : EvD K G ta ss (.int z)) (h2 : EvD K G tb ss (.tuple (l.map .int))) : EvD K G (tOp (rIn K false) ta tb) ss (.bool (decide (z ∈ l))) := inV_int l ▸ ev_in h1 h2 rfl (map_sV_int l)
theorem ev_ninI {z : Int} (l : List Int) (h1 : EvD K G ta ss (.int z)) (h2 : EvD K G tb ss (.tuple (l.map .int))) : EvD K G (tOp (rIn K true) ta tb) ss (.bool (!decide (z ∈ l))) := inV_int l ▸ ev_in h1 h2 rfl (map_sV_int l)
theorem ev_len {ds : List PyData} {r : List V → Hp → VK → Prop} (hr : r = fun xs H Q => ∃ x n, xs = [x] ∧ LenV K x H n ∧ Q (.int n) H) (h : EvD K G ta ss (.tuple ds)) : EvD K G (tCB r (tCons ta tNil)) ss (.int ds.length) := fun σ H g s Q q => by
  subst hr
  refine h σ H g s _ fun v H1 e1 a1 => ?_
  cases a1 with
  | tup sq ts => exact ⟨_, ds.length, rfl, .inr ⟨_, SqT.of sq, ts.len.symm⟩, q _ H1 e1 (.int _)⟩
theorem ev_lens {z : Str} {r : List V → Hp → VK → Prop} (hr : r = fun xs H Q => ∃ x n, xs = [x] ∧ LenV K x H n ∧ Q (.int n) H) (h : EvD K G ta ss (.str z)) (hz : z.length ≤ 1000) : EvD K G (tCB r (tCons ta tNil)) ss (.int z.length) := fun σ H g s Q q => by
  subst hr
  refine h σ H g s _ fun v H1 e1 a1 => ?_
  cases a1
  exact ⟨_, z.length, rfl, ⟨Nat.le_of_lt (small1000 hz), rfl⟩, q _ H1 e1 (.int _)⟩
theorem ev_cat {xs ys : List PyData} (h1 : EvD K G ta ss (.tuple xs)) (h2 : EvD K G tb ss (.tuple ys)) (hl : xs.length + ys.length ≤ 1000) : EvD K G (tOp (rCatA K) ta tb) ss (.tuple (xs ++ ys)) := fun σ H g s Q q =>
  h1 σ H g s _ fun v H1 e1 a1 => h2 σ H1 (G.mono _ _ g e1) (s.mono e1.tp) _ fun w H2 e2 a2 => by
    cases a1 with
    | tup sq ts =>
      cases a2 with
      | tup sq2 ts2 =>
        have t1 := ts.mono e2.tp
        have s1 := e2 _ _ sq
        refine ⟨_, _, _, _, rfl, rfl, SqT.of s1, SqT.of sq2, Nat.le_of_lt (small1000 (by rw [ts.len, ts2.len]; exact hl)), fun e => ?_, fun _ e => ?_, fun _ _ p hp => ?_⟩
        · subst e
          cases t1
          exact q _ H2 (e1.trans e2) (.tup sq2 ts2)
        · subst e
          cases ts2
          rw [List.append_nil] at q
          exact q _ H2 (e1.trans e2) (.tup s1 t1)
        · exact q _ _ ((e1.trans e2).trans (Same.new hp)) (.tup upd_same ((t1.append ts2).mono (Same.new hp).tp))
def cutD (xs : List PyData) (lo hi : Option Int) : List PyData := (xs.drop (HT.sIx xs.length 0 lo)).take (HT.sIx xs.length xs.length hi - HT.sIx xs.length 0 lo)
theorem evo_none : EvO K G tNoPart ss none := fun σ H g s Q q => q H (Same.refl H)
theorem evo_some {n : Int} (h : EvD K G te ss (.int n)) : EvO K G (tPart te) ss (some n) := fun σ H g s Q q => h σ H g s _ fun v H1 e1 a1 => by
  cases a1
  exact ⟨n, rfl, q H1 e1⟩
theorem ev_slice {xs : List PyData} {lo hi : Option Int} (h : EvD K G te ss (.tuple xs)) (h1 : EvO K G tl ss lo) (h2 : EvO K G th ss hi) : EvD K G (tSl (rSlA K) te tl th) ss (.tuple (cutD xs lo hi)) := fun σ H g s Q q =>
  h σ H g s _ fun v H1 e1 a1 => h1 σ H1 (G.mono _ _ g e1) (s.mono e1.tp) _ fun H2 e2 => h2 σ H2 (G.mono _ _ g (e1.trans e2)) (s.mono (e1.trans e2).tp) _ fun H3 e3 => by
    have e23 := e2.trans e3
    have e13 := e1.trans e23
    cases a1 with
    | tup sq ts =>
      have t3 := ts.mono e23.tp
      have s3 := e23 _ _ sq
      refine ⟨_, _, rfl, SqT.of s3, fun w => ?_, fun w p hp => ?_⟩
      · have e : cutD xs lo hi = xs := by
          unfold cutD
          rw [← t3.len, w.1, w.2, List.drop_zero, t3.len]
          exact List.take_length
        rw [e] at q
        exact q _ H3 e13 (.tup s3 t3)
      · refine q _ _ (e13.trans (Same.new hp)) (.tup upd_same (DTs.mono (Same.new hp).tp _ _ ?_))
        unfold cutD cutV
        rw [t3.len]
        exact (t3.drop _).take _
/-! tests -/
theorem evt_test {b : Bool} (h : EvD K G te ss (.bool b)) : EvT K G (tTest te) ss b := fun σ H g s Q q => h σ H g s _ fun v H1 e1 a1 => by
  cases a1
  exact ⟨b, rfl, q H1 e1⟩
theorem evt_b {b : Bool} (h : EvD K G te ss (.bool b)) : EvT K G (tB te) ss b := evt_test h
theorem evt_not {b : Bool} (h : EvT K G t ss b) : EvT K G (tNot t) ss (!b) := fun σ H g s Q q => h σ H g s _ fun H1 e1 => q H1 e1
theorem evt_and {b c : Bool} (h : EvT K G t ss b) (h2 : b = true → EvT K G u ss c) : EvT K G (tAnd t u) ss (b && c) := fun σ H g s Q q => h σ H g s _ fun H1 e1 => by
  cases b with
  | true => exact iteT (h2 rfl σ H1 (G.mono _ _ g e1) (s.mono e1.tp) _ fun H2 e2 => q H2 (e1.trans e2))
  | false => exact iteF (q H1 e1)
theorem evt_or {b c : Bool} (h : EvT K G t ss b) (h2 : b = false → EvT K G u ss c) : EvT K G (tOr t u) ss (b || c) := fun σ H g s Q q => h σ H g s _ fun H1 e1 => by
  cases b with
  | false => exact iteF (h2 rfl σ H1 (G.mono _ _ g e1) (s.mono e1.tp) _ fun H2 e2 => q H2 (e1.trans e2))
  | true => exact iteT (q H1 e1)
theorem ev_and {b c : Bool} (h : EvD K G ta ss (.bool b)) (h2 : b = true → EvD K G tb ss (.bool c)) : EvD K G (tAndV ta tb) ss (.bool (b && c)) := fun σ H g s Q q => h σ H g s _ fun v H1 e1 a1 => by
  cases a1
  cases b with
  | true => exact ⟨true, rfl, iteT (h2 rfl σ H1 (G.mono _ _ g e1) (s.mono e1.tp) _ fun v H2 e2 a2 => q v H2 (e1.trans e2) a2)⟩
  | false => exact ⟨false, rfl, iteF (q _ H1 e1 (.bl _))⟩
theorem ev_or {b c : Bool} (h : EvD K G ta ss (.bool b)) (h2 : b = false → EvD K G tb ss (.bool c)) : EvD K G (tOrV ta tb) ss (.bool (b || c)) := fun σ H g s Q q => h σ H g s _ fun v H1 e1 a1 => by
  cases a1
  cases b with
  | false => exact ⟨false, rfl, iteF (h2 rfl σ H1 (G.mono _ _ g e1) (s.mono e1.tp) _ fun v H2 e2 a2 => q v H2 (e1.trans e2) a2)⟩
  | true => exact ⟨true, rfl, iteT (q _ H1 e1 (.bl _))⟩
theorem ev_not {b : Bool} (h : EvD K G ta ss (.bool b)) : EvD K G (tNotV ta) ss (.bool (!b)) := fun σ H g s Q q => h σ H g s _ fun v H1 e1 a1 => by
  cases a1
  exact ⟨b, rfl, q _ H1 e1 (.bl _)⟩
theorem ev_if {b : Bool} (h : EvT K G t ss b) (h1 : b = true → EvD K G ta ss x) (h2 : b = false → EvD K G tb ss x) : EvD K G (tIf t ta tb) ss x := fun σ H g s Q q => h σ H g s _ fun H1 e1 => by
  cases b with
  | true => exact iteT (h1 rfl σ H1 (G.mono _ _ g e1) (s.mono e1.tp) _ fun v H2 e2 a2 => q v H2 (e1.trans e2) a2)
  | false => exact iteF (h2 rfl σ H1 (G.mono _ _ g e1) (s.mono e1.tp) _ fun v H2 e2 a2 => q v H2 (e1.trans e2) a2)
theorem ev_chain {p p' : Int → Int → Bool} {a b c : Int} (h1 : EvD K G ta ss (.int a)) (h2 : EvD K G tb ss (.int b)) (h3 : EvD K G tx ss (.int c)) :
    EvD K G (tChain (rI0 fun i j => .bl (p i j)) (rI0 fun i j => .bl (p' i j)) ta tb tx) ss (.bool (p a b && p' b c)) := fun σ H g s Q q =>
  h1 σ H g s _ fun v H1 e1 a1 => h2 σ H1 (G.mono _ _ g e1) (s.mono e1.tp) _ fun w H2 e2 a2 => by
    cases a1
    cases a2
    refine ⟨_, _, rfl, rfl, p a b, rfl, ?_⟩
    cases e : p a b with
    | false =>
      rw [e] at q
      exact iteF (q _ H2 (e1.trans e2) (.bl _))
    | true =>
      rw [e] at q
      refine iteT (h3 σ H2 (G.mono _ _ g (e1.trans e2)) (s.mono (e1.trans e2).tp) _ fun z H3 e3 a3 => ?_)
      cases a3
      exact ⟨_, _, rfl, rfl, q _ H3 ((e1.trans e2).trans e3) (.bl _)⟩
/-! calls -/
theorem ev_cl {f : List PyData → PyData → Prop} {ds : List PyData} (h : EvA K G tA ss ds) (e : f ds d) : EvD K G (tCl (spD K f) tA) ss d := fun σ H g s Q q =>
  h σ H g s _ fun vs H1 e1 a => ⟨ds, d, a, e, fun v H2 e2 b => q v H2 (e1.trans e2) b⟩
end
/-- the known heap: all since H stands -/
def gS (H : Hp) : Gm := ⟨Same H, fun _ _ a b => a.trans b⟩
/-! ### statements -/
def StD (K : PySem.W.Frag) (G : Gm) (ts : TS) (D : Ends) (ss : List SV) : Prop := ∀ σ H, G.p H → DS K H σ ss → ts D σ H
def RtD (K : PySem.W.Frag) (G : Gm) (D : Ends) (d : PyData) : Prop := ∀ v H, G.p H → DT K H v d → D.rt v H
section
variable {K : PySem.W.Frag} {G : Gm} {ss : List SV} {te : TE} {t : TT} {ts us rs : TS} {D : Ends} {d : PyData} {i : Nat}
theorem st_ret (h : EvD K G te ss d) (r : RtD K G D d) : StD K G (tRet te) D ss := fun σ H g s => h σ H g s _ fun v H1 e1 a => r v H1 (G.mono _ _ g e1) a
theorem q_set (h : EvD K G te ss d) (k : StD K G us D (ss.set i (.d d))) : StD K G (tSeq (tAsg te (gName i)) us) D ss := fun σ H g s => h σ H g s _ fun v H1 e1 a => k _ H1 (G.mono _ _ g e1) ((s.mono e1.tp).set ⟨v, rfl, a⟩)
theorem q_if {b : Bool} (h : EvT K G t ss b) (h1 : b = true → StD K G ts { D with nx := rs D } ss) (h2 : b = false → StD K G us { D with nx := rs D } ss) : StD K G (tSeq (tIfS t ts us) rs) D ss := fun σ H g s =>
  h σ H g s _ fun H1 e1 => by
    cases b with
    | true => exact iteT (h1 rfl σ H1 (G.mono _ _ g e1) (s.mono e1.tp))
    | false => exact iteF (h2 rfl σ H1 (G.mono _ _ g e1) (s.mono e1.tp))
/-- if t: (a block that leaves) -/
theorem q_when {b : Bool} (h : EvT K G t ss b) (h1 : b = true → StD K G ts { D with nx := rs D } ss) (h2 : b = false → StD K G rs D ss) : StD K G (tSeq (tIfS t ts tNext) rs) D ss := q_if h h1 h2
theorem s_if {b : Bool} (h : EvT K G t ss b) (h1 : b = true → StD K G ts D ss) (h2 : b = false → StD K G us D ss) : StD K G (tIfS t ts us) D ss := fun σ H g s =>
  h σ H g s _ fun H1 e1 => by
    cases b with
    | true => exact iteT (h1 rfl σ H1 (G.mono _ _ g e1) (s.mono e1.tp))
    | false => exact iteF (h2 rfl σ H1 (G.mono _ _ g e1) (s.mono e1.tp))
/-- a, b, .. = a tuple -/
def stores : List Nat → List PyData → List SV → List SV
  | i :: is, d :: ds, ss => stores is ds (ss.set i (.d d))
  | _, _, ss => ss
def gNs : List Nat → TGs
  | [] => gNil
  | i :: is => gCons (gName i) (gNs is)
theorem gNs_ok {H : Hp} {Q : L2.St → Hp → Prop} : ∀ {is : List Nat} {vs : List V} {ds : List PyData} {σ : L2.St} {ss : List SV}, DTs K H vs ds → is.length = ds.length → DS K H σ ss → (∀ σ', DS K H σ' (stores is ds ss) → Q σ' H) → gNs is vs σ H Q
  | [], _, [], σ, ss, h, _, s, q => by
    cases h
    exact ⟨rfl, q σ s⟩
  | _ :: _, _, [], _, _, _, e, _, _ => by cases e
  | [], _, _ :: _, _, _, _, e, _, _ => by cases e
  | i :: is, _, d :: ds, σ, ss, h, e, s, q => by
    cases h with
    | cons a b => exact ⟨_, _, rfl, gNs_ok b (Nat.succ.inj e) (s.set (i := i) (s := SV.d d) ⟨_, rfl, a⟩) q⟩
theorem q_unpack {is : List Nat} {ds : List PyData} {n : Nat} {gs : TGs} (hg : gs = gNs is) (hn : is.length = n) (h : EvD K G te ss (.tuple ds)) (hl : ds.length = n) (k : StD K G us D (stores is ds ss)) : StD K G (tSeq (tAsg te (gTup K n gs)) us) D ss := fun σ H g s => by
  subst hg
  refine h σ H g s _ fun v H1 e1 a => ?_
  cases a with
  | tup sq ts => exact ⟨_, _, rfl, SqT.of sq, by rw [ts.len]; exact hl, gNs_ok ts (hn.trans hl.symm) (s.mono e1.tp) fun σ' s' => k σ' H1 (G.mono _ _ g e1) s'⟩
theorem rt_of {H : Hp} {Q : VK} {nx : L2.St → Hp → Prop} {r : PyData} (q : ∀ v H', Same H H' → DT K H' v r → Q v H') (e : d = r) : RtD K (gS H) { nx := nx, rt := Q } d := fun v H' g a => q v H' g (e ▸ a)
theorem StD.weak {G' : Gm} (w : ∀ H, G'.p H → G.p H) (h : StD K G ts D ss) : StD K G' ts D ss := fun σ H g s => h σ H (w H g) s
theorem RtD.weak {G' : Gm} (w : ∀ H, G'.p H → G.p H) (h : RtD K G D d) : RtD K G' D d := fun v H g a => h v H (w H g) a
/-- where a turn ends -/
def Tn (K : PySem.W.Frag) (G : Gm) (ss : List SV) : L2.St → Hp → Prop := fun σ H => G.p H ∧ DS K H σ ss
theorem st_nx (hn : D.nx = Tn K G ss) : StD K G tNext D ss := fun σ H g s => by
  show D.nx σ H
  rw [hn]
  exact ⟨g, s⟩
theorem s_set (h : EvD K G te ss d) (hn : D.nx = Tn K G (ss.set i (.d d))) : StD K G (tAsg te (gName i)) D ss := fun σ H g s => h σ H g s _ fun v H1 e1 a => by
  show D.nx _ H1
  rw [hn]
  exact ⟨G.mono _ _ g e1, (s.mono e1.tp).set ⟨v, rfl, a⟩⟩
theorem s_unpack {is : List Nat} {ds : List PyData} {n : Nat} {gs : TGs} (hg : gs = gNs is) (hn : is.length = n) (h : EvD K G te ss (.tuple ds)) (hl : ds.length = n) (hx : D.nx = Tn K G (stores is ds ss)) : StD K G (tAsg te (gTup K n gs)) D ss := fun σ H g s => by
  subst hg
  refine h σ H g s _ fun v H1 e1 a => ?_
  cases a with
  | tup sq ts => exact ⟨_, _, rfl, SqT.of sq, by rw [ts.len]; exact hl, gNs_ok ts (hn.trans hl.symm) (s.mono e1.tp) fun σ' s' => by
      show D.nx σ' H1
      rw [hx]
      exact ⟨G.mono _ _ g e1, s'⟩⟩
end
end KX
set_option maxHeartbeats 4000000
namespace KX
open PySem PySem.Spec PyProof.Rows L2 RZ
/-! ### what is walked, as data -/
/-- n turns, the i-th gives f i -/
structure DW (K : PySem.W.Frag) (J : It) (n : Nat) (f : Nat → PyData) (Gh : Hp → Prop) : Prop where
  keep : ∀ H H', Gh H → Tp K H H' → Gh H'
  walk : Walk J n Gh (fun i H v H' => Same H H' ∧ DT K H' v (f i))
def EvW (K : PySem.W.Frag) (G : Gm) (wi : TI) (ss : List SV) (n : Nat) (f : Nat → PyData) : Prop := ∀ σ H, G.p H → DS K H σ ss → ∀ R : It → Hp → Prop, (∀ J H1 Gh, Same H H1 → Gh H1 → DW K J n f Gh → R J H1) → wi σ H R
/-- a new list -/
def EvL (K : PySem.W.Frag) (G : Gm) (te : TE) (ss : List SV) (ds : List PyData) : Prop := ∀ σ H, G.p H → DS K H σ ss → ∀ Q : VK, (∀ p vs H', Same H H' → H p = none → H' p = some (.lst vs) → DTs K H' vs ds → Q (.ref p) H') → te σ H Q
section
variable {K : PySem.W.Frag} {G : Gm} {ss : List SV} {ta tb te tx : TE} {tt : TT} {tA : TA} {wi : TI} {n j : Nat} {f : Nat → PyData}
theorem evw_tup {ds : List PyData} (h : EvD K G te ss (.tuple ds)) : EvW K G (iTup K te) ss ds.length (fun i => ds.getD i .none) := fun σ H g s R r =>
  h σ H g s _ fun v H1 e1 a => by
    cases a with
    | @tup a xs _ sq ts =>
      refine ⟨a, rfl, ⟨xs, SqT.of sq⟩, r _ H1 (fun H => H a = some (.tup xs) ∧ DTs K H xs ds) e1 ⟨sq, ts⟩ ⟨fun H H' p t => ⟨t _ _ p.1, p.2.mono t⟩, ?_⟩⟩
      have hw := walk_tup (K := K) (a := a) (xs := xs)
      rw [ts.len] at hw
      refine hw.mono (fun H p => SqT.of p.1) fun i H x H' hi p y => ?_
      obtain ⟨e, hx⟩ := y
      subst e
      obtain ⟨d, hd, dd⟩ := p.2.getV hx
      refine ⟨Same.refl _, ?_⟩
      have e2 : ds.getD i .none = d := by
        rw [List.getD_eq_getElem?_getD, hd] <;> rfl
      rw [e2]
      exact dd
theorem evw_str {z : Str} (h : EvD K G te ss (.str z)) : EvW K G (iStr te) ss z.cps.size (fun i => .str ⟨#[z.cps.getD i 0]⟩) := fun σ H g s R r =>
  h σ H g s _ fun v H1 e1 a => by
    cases a
    refine ⟨z, rfl, r _ H1 (fun _ => True) e1 trivial ⟨fun _ _ _ _ => trivial, ?_⟩⟩
    refine walk_str.mono (fun _ _ => trivial) fun i H x H' hi _ y => ?_
    obtain ⟨e, c, hc, hx⟩ := y
    subst e hx
    refine ⟨Same.refl _, ?_⟩
    have e2 : z.cps.getD i 0 = c := by
      rw [Array.getD_eq_getD_getElem?, hc] <;> rfl
    rw [e2]
    exact .str _
theorem evw_range1 {m : Int} (h : EvA K G tA ss [.int m]) (hm : -(2 ^ 62) ≤ m ∧ m < 2 ^ 62) : EvW K G (iRng1 tA) ss m.toNat (fun i => .int (i : Int)) := fun σ H g s R r =>
  h σ H g s _ fun vs H1 e1 a => by
    cases a with
    | cons a b =>
      cases a
      cases b
      refine ⟨m, rfl, hm.1, hm.2, r _ H1 (fun _ => True) e1 trivial ⟨fun _ _ _ _ => trivial, ?_⟩⟩
      refine walk_range.mono (fun _ _ => trivial) fun i H x H' hi _ y => ?_
      obtain ⟨e, hx⟩ := y
      subst e hx
      show Same H' H' ∧ DT K H' (V.int (0 + (i : Int))) (PyData.int (i : Int))
      rw [Int.zero_add]
      exact ⟨Same.refl _, .int _⟩
theorem evw_zipT {xs ys : List PyData} {n : Nat} (h : EvA K G tA ss [.tuple xs, .tuple ys]) (hn : n = min xs.length ys.length) : EvW K G (iZipA K tA) ss n (fun i => .tuple [xs.getD i .none, ys.getD i .none]) := fun σ H g s R r =>
  h σ H g s _ fun vs H1 e1 a => by
    subst hn
    cases a with
    | cons a b =>
      cases b with
      | cons b c =>
        cases c
        cases a with
        | @tup a us _ sa ta =>
          cases b with
          | @tup b ws _ sb tb =>
            refine ⟨a, b, us, ws, rfl, .inr ⟨SqT.of sa, SqT.of sb, r _ H1 (fun H => H a = some (.tup us) ∧ DTs K H us xs ∧ H b = some (.tup ws) ∧ DTs K H ws ys) e1 ⟨sa, ta, sb, tb⟩ ⟨fun H H' p t => ⟨t _ _ p.1, p.2.1.mono t, t _ _ p.2.2.1, p.2.2.2.mono t⟩, ?_⟩⟩⟩
            refine ⟨fun i H hi p => ?_, fun H p => ⟨us, ws, SqT.of p.1, SqT.of p.2.2.1, by rw [← ta.len, ← tb.len]; omega⟩, fun i H v H' hi p y => ?_⟩
            · have h1 : i < us.length := by rw [ta.len]; omega
              have h2 : i < ws.length := by rw [tb.len]; omega
              exact ⟨us, ws, us[i], ws[i], SqT.of p.1, SqT.of p.2.2.1, by simp [h1], by simp [h2]⟩
            · obtain ⟨T, x, z, h1, h2, h3, h4, h5⟩ := y
              have hx := h4 us (SqT.of p.1)
              have hz := h5 ws (SqT.of p.2.2.1)
              obtain ⟨dx, ex, ddx⟩ := p.2.1.getV hx
              obtain ⟨dz, ez, ddz⟩ := p.2.2.2.getV hz
              subst h1 h3
              have q1 : xs.getD i .none = dx := by rw [List.getD_eq_getElem?_getD, ex] <;> rfl
              have q2 : ys.getD i .none = dz := by rw [List.getD_eq_getElem?_getD, ez] <;> rfl
              have sm := Same.new (o := HO.tup [x, z]) h2
              refine ⟨sm, ?_⟩
              rw [q1, q2]
              exact .tup upd_same (.cons (ddx.mono sm.tp) (.cons (ddz.mono sm.tp) .nil))
/-! ### list comprehensions -/
def compD (n : Nat) (b : Nat → Bool) (e : Nat → PyData) : List PyData := ((List.range n).filter b).map e
theorem compD_yes {b : Nat → Bool} {e : Nat → PyData} (h : b n = true) : compD (n + 1) b e = compD n b e ++ [e n] := by
  unfold compD
  rw [List.range_succ, List.filter_append, List.map_append, List.filter_cons, if_pos h] <;> rfl
theorem compD_no {b : Nat → Bool} {e : Nat → PyData} (h : b n = false) : compD (n + 1) b e = compD n b e := by
  unfold compD
  rw [List.range_succ, List.filter_append, List.map_append, List.filter_cons, if_neg (by rw [h]; decide)]
  show _ ++ [] = _
  rw [List.append_nil]
theorem compD_len (n : Nat) (b : Nat → Bool) (e : Nat → PyData) : (compD n b e).length ≤ n := by
  unfold compD
  rw [List.length_map]
  have h := List.length_filter_le b (List.range n)
  rw [List.length_range] at h
  exact h
/-- the i turns so far: since H1 all stands, the list at D has what was kept -/
def Cw (K : PySem.W.Frag) (G : Gm) (Gh : Hp → Prop) (H1 : Hp) (b : Nat → Bool) (e : Nat → PyData) (D : Addr) (i : Nat) (H : Hp) : Prop := Same H1 H ∧ Gh H ∧ ∃ vs, H D = some (.lst vs) ∧ DTs K H vs (compD i b e)
theorem evl_core {g : TG} {vs : List Nat} {b : Nat → Bool} {e : Nat → PyData} (hw : EvW K G wi ss n f) (hn : n ≤ 1000)
    (turn : ∀ (i : Nat) (v : V) (σ : L2.St) (H : Hp) (Q : L2.St → Hp → Prop), i < n → DS K H σ ss → DT K H v (f i) → (∀ σ2 ss2, wipe σ2 vs = wipe σ vs → DS K H σ2 ss2 → EvT K G tt ss2 (b i) → (b i = true → EvD K G te ss2 (e i)) → Q σ2 H) → g v (wipe σ vs) H Q) :
    EvL K G (tLc wi g tt te vs) ss (compD n b e) := fun σ H g0 s Q q =>
  hw σ H g0 s _ fun J H1 Gh e1 gh w D hD => by
    have g1 := G.mono _ _ g0 e1
    have hD0 : H D = none := e1.free hD
    refine lc_it (w.walk) (Cw K G Gh H1 b e D) ⟨Same.new hD, w.keep _ _ gh (Same.new hD).tp, [], upd_same, .nil⟩ (fun i H' _ p => p.2.1) (fun i x H2 H3 hi p y => ?_) (fun H' p => ?_)
    · obtain ⟨sm, gh2, vs2, hD2, ts⟩ := p
      obtain ⟨s23, dx⟩ := y
      have e13 : Same H1 H3 := sm.trans s23
      refine turn i x σ H3 _ hi (s.mono (e1.trans e13).tp) dx fun σ2 ss2 hwp hds ht he => ⟨hwp, ht σ2 H3 (G.mono _ _ g1 e13) hds _ fun H4 e4 => ?_⟩
      have e14 := e13.trans e4
      have hD4 : H4 D = some (.lst vs2) := e4 _ _ (s23 _ _ hD2)
      have ts4 : DTs K H4 vs2 (compD i b e) := ts.mono (s23.trans e4).tp
      have gh4 : Gh H4 := w.keep _ _ gh2 (s23.trans e4).tp
      cases hb : b i with
      | false =>
        refine iteF ⟨e14, gh4, vs2, hD4, ?_⟩
        rw [compD_no hb]
        exact ts4
      | true =>
        refine iteT (he hb σ2 H4 (G.mono _ _ g1 e14) (hds.mono e4.tp) _ fun y H5 e5 dy => ?_)
        have hD5 : H5 D = some (.lst vs2) := e5 _ _ hD4
        have hl : vs2.length ≤ 1000 := by
          rw [ts4.len]
          exact Nat.le_trans (compD_len _ _ _) (by omega)
        have tu : Tp K H5 (upd H5 D (.lst (vs2 ++ [y]))) := Tp.upd hD5 rfl
        refine ⟨vs2, hD5, small1000 hl, Same.upd (e14.trans e5) hD, w.keep _ _ (w.keep _ _ gh4 e5.tp) tu, vs2 ++ [y], upd_same, ?_⟩
        rw [compD_yes hb]
        exact ((ts4.mono e5.tp).append (DTs.one dy)).mono tu
    · obtain ⟨sm, _, vs2, hD2, ts⟩ := p
      exact q D vs2 H' (e1.trans sm) hD0 hD2 ts
theorem wipe_set {σ : L2.St} {x : Option V} : wipe ((wipe σ [j]).set j x) [j] = wipe σ [j] := by
  show ((σ.set j none).set j x).set j none = σ.set j none
  rw [List.set_set, List.set_set]
theorem DS.setNo {H : Hp} {σ : L2.St} (h : DS K H σ ss) {i : Nat} : DS K H (σ.set i none) (ss.set i .no) := ⟨by rw [List.length_set, List.length_set]; exact h.len, fun j t q => by
  by_cases hj : i = j
  · subst hj
    have hi := (List.getElem?_eq_some_iff.mp q).1
    rw [List.length_set] at hi
    rw [List.getElem?_set_self hi] at q
    cases q
    exact ⟨none, List.getElem?_set_self (by rw [h.len]; exact hi), trivial⟩
  · rw [List.getElem?_set_ne hj] at q
    rw [List.getElem?_set_ne hj]
    exact h.at_ j t q⟩
/-- [e for x in .. if t] -/
theorem evl_lc {b : Nat → Bool} {e : Nat → PyData} (hw : EvW K G wi ss n f) (ht : ∀ i, i < n → EvT K G tt (ss.set j (.d (f i))) (b i)) (he : ∀ i, i < n → b i = true → EvD K G te (ss.set j (.d (f i))) (e i)) (hn : n ≤ 1000) :
    EvL K G (tLc wi (gName j) tt te [j]) ss (compD n b e) := evl_core hw hn fun i v σ H Q hi s dv q => by
  refine q _ (ss.set j (.d (f i))) wipe_set ?_ (ht i hi) (he i hi)
  show DS K H ((σ.set j none).set j (some v)) (ss.set j (.d (f i)))
  rw [List.set_set]
  exact s.set (s := .d (f i)) ⟨v, rfl, dv⟩
theorem wipe_set2 {i j : Nat} {σ : L2.St} {x y : Option V} : wipe (((wipe σ [i, j]).set i x).set j y) [i, j] = wipe σ [i, j] := by
  show ((((((σ.set j none).set i none).set i x).set j y).set j none).set i none) = (σ.set j none).set i none
  rw [List.set_set, List.set_set]
  by_cases h : i = j
  · subst h
    simp only [List.set_set]
  · rw [List.set_comm _ _ h, List.set_set, List.set_set]
/-- .. where the target is a pair -/
theorem evl_lc2 {i1 i2 : Nat} {b : Nat → Bool} {e : Nat → PyData} {f1 f2 : Nat → PyData} {n : Nat} (hw : EvW K G wi ss n fun i => .tuple [f1 i, f2 i]) (ht : ∀ i, i < n → EvT K G tt ((ss.set i1 (.d (f1 i))).set i2 (.d (f2 i))) (b i))
    (he : ∀ i, i < n → b i = true → EvD K G te ((ss.set i1 (.d (f1 i))).set i2 (.d (f2 i))) (e i)) (hne : i1 ≠ i2) (hn : n ≤ 1000) : EvL K G (tLc wi (gTup K 2 (gCons (gName i1) (gCons (gName i2) gNil))) tt te [i1, i2]) ss (compD n b e) := evl_core hw hn fun i v σ H Q hi s dv q => by
  cases dv with
  | tup sq ts =>
    cases ts with
    | cons d1 ts =>
      cases ts with
      | cons d2 ts =>
        cases ts
        refine ⟨_, _, rfl, SqT.of sq, rfl, _, _, rfl, _, _, rfl, rfl, q _ _ wipe_set2 ?_ (ht i hi) (he i hi)⟩
        show DS K H ((((σ.set i2 none).set i1 none).set i1 (some _)).set i2 (some _)) _
        rw [List.set_set, List.set_comm _ _ hne.symm, List.set_set]
        exact (s.set (s := .d (f1 i)) ⟨_, rfl, d1⟩).set (s := .d (f2 i)) ⟨_, rfl, d2⟩
/-- tuple(a new list) -/
theorem ev_tupL {ds : List PyData} {r : List V → Hp → VK → Prop} (hr : r = fun xs H Q => ∃ p ys, xs = [.ref p] ∧ ((SqL K H p ys ∧ ∀ l, H l = none → Q (.ref l) (upd H l (.tup ys))) ∨ (SqT K H p ys ∧ Q (.ref p) H))) (h : EvL K G te ss ds) :
    EvD K G (tCB r (tCons te tNil)) ss (.tuple ds) := fun σ H g s Q q => by
  subst hr
  refine h σ H g s _ fun p vs H1 e1 _ hp ts => ⟨p, vs, rfl, .inl ⟨SqL.of hp, fun l hl => ?_⟩⟩
  exact q _ _ (e1.trans (Same.new hl)) (.tup upd_same (ts.mono (Same.new hl).tp))
theorem DTs.bools : ∀ {H : Hp} {vs : List V} (bs : List Bool), DTs K H vs (bs.map .bool) → vs = bs.map V.bl
  | _, _, [], h => by cases h; rfl
  | _, _, b :: bs, h => by
    cases h with
    | cons a t =>
      cases a
      rw [DTs.bools bs t] <;> rfl
theorem ev_all {bs : List Bool} (h : EvL K G te ss (bs.map .bool)) : EvD K G (tCB (rAll K) (tCons te tNil)) ss (.bool (bs.all id)) := fun σ H g s Q q =>
  h σ H g s _ fun p vs H1 e1 _ hp ts => ⟨p, bs, rfl, SqL.of (by rw [hp, DTs.bools bs ts]), q _ H1 e1 (.bl _)⟩
theorem evt_yes : EvT K G tYes ss true := fun σ H g s Q q => q H (Same.refl H)
end
/-! ### more statements -/
section
variable {K : PySem.W.Frag} {G : Gm} {ss ss' : List SV} {te : TE} {t : TT} {ts us rs : TS} {D : Ends} {d : PyData} {i n : Nat} {wi : TI} {f : Nat → PyData}
/-- some slots forgotten -/
def Wk : List SV → List SV → Prop
  | [], [] => True
  | a :: as, b :: bs => (b = .no ∨ b = a) ∧ Wk as bs
  | _, _ => False
theorem Wk.ds : ∀ {H : Hp} {σ : L2.St} {ss ss' : List SV}, Wk ss ss' → DS K H σ ss → DS K H σ ss'
  | H, [], [], [], _, _ => .nil
  | H, [], _ :: _, _, _, s => by cases s.len
  | H, _ :: _, [], _, _, s => by cases s.len
  | H, [], [], _ :: _, h, _ => h.elim
  | H, o :: σ, a :: as, [], h, _ => h.elim
  | H, o :: σ, a :: as, b :: bs, h, s => by
    have s2 : DS K H σ as := ⟨Nat.succ.inj s.len, fun i t q => by
      obtain ⟨u, h1, h2⟩ := s.at_ (i + 1) t (by simpa using q)
      exact ⟨u, by simpa using h1, h2⟩⟩
    refine .cons ?_ (Wk.ds h.2 s2)
    rcases h.1 with e | e
    · rw [e]
      trivial
    · rw [e]
      obtain ⟨u, h1, h2⟩ := s.at_ 0 a rfl
      have e2 : u = o := by simpa using h1.symm
      subst e2
      exact h2
theorem StD.wk (w : Wk ss ss') (h : StD K G ts D ss') : StD K G ts D ss := fun σ H g s => h σ H g (w.ds s)
theorem s_setW (h : EvD K G te ss d) (w : Wk (ss.set i (.d d)) ss') (hn : D.nx = Tn K G ss') : StD K G (tAsg te (gName i)) D ss := fun σ H g s => h σ H g s _ fun v H1 e1 a => by
  show D.nx _ H1
  rw [hn]
  exact ⟨G.mono _ _ g e1, w.ds ((s.mono e1.tp).set ⟨v, rfl, a⟩)⟩
theorem st_nxW (w : Wk ss ss') (hn : D.nx = Tn K G ss') : StD K G tNext D ss := fun σ H g s => by
  show D.nx σ H
  rw [hn]
  exact ⟨g, w.ds s⟩
/-- for x in anything of data -/
theorem q_forW (sl : Nat → List SV) (hw : EvW K G wi ss n f) (h0 : Wk ss (sl 0))
    (hs : ∀ (G' : Gm), (∀ H, G'.p H → G.p H) → ∀ j, j < n → StD K G' ts { D with nx := Tn K G' (sl (j + 1)), ct := Tn K G' (sl (j + 1)), bk := us D } ((sl j).set i (.d (f j))))
    (k : StD K G us D (sl n)) : StD K G (tSeq (tFor wi (gName i) ts) us) D ss := fun σ H g s => by
  refine hw σ H g s _ fun J H1 Gh e1 gh w => ?_
  let G' : Gm := ⟨fun H' => G.p H' ∧ Gh H', fun H1 H2 p e => ⟨G.mono _ _ p.1 e, w.keep _ _ p.2 e.tp⟩⟩
  refine for_it (D := { D with nx := us D }) w.walk (fun j σ' H' => Tn K G' (sl j) σ' H') ⟨⟨G.mono _ _ g e1, gh⟩, h0.ds (s.mono e1.tp)⟩ (fun j σ' H' _ p => p.1.2) (fun j x σ' H2 H3 hj p y => ?_) fun σ' H' p => k σ' H' p.1.1 p.2
  obtain ⟨s23, dx⟩ := y
  exact hs G' (fun H p => p.1) j hj _ H3 (G'.mono _ _ p.1 s23) ((p.2.mono s23.tp).set (i := i) (s := .d (f j)) ⟨x, rfl, dx⟩)
end
end KX
set_option maxHeartbeats 4000000
namespace KX
open PySem PySem.Spec PyProof.Rows L2 RZ
/-! ### isinstance of data -/
def tyS : PyData → String
  | .none => "NoneType"
  | .bool _ => "bool"
  | .int _ => "int"
  | .str _ => "str"
  | _ => "tuple"
theorem DT.ty {K : PySem.W.Frag} {H : Hp} {v : V} {d : PyData} (h : DT K H v d) : TyX K H v (.type (tyS d)) := by
  cases h with
  | non => exact .base .non
  | bl b => exact .base (.bl b)
  | int i => exact .base (.int i)
  | str x => exact .base (.str x)
  | tup s t => exact .base (.tup s)
theorem kb_int_int : kitB "int" "int" = some true := by decide +kernel
theorem kb_int_bool : kitB "int" "bool" = some false := by decide +kernel
theorem kb_str_str : kitB "str" "str" = some true := by decide +kernel
theorem kb_tup_tup : kitB "tuple" "tuple" = some true := by decide +kernel
section
variable {K : PySem.W.Frag} {G : Gm} {ss : List SV} {ta tb te tx : TE} {t u : TT} {tA : TA} {x y z d : PyData} {i : Nat}
theorem ev_isi {n : String} {b : Bool} (h : EvD K G ta ss d) (hb : kitB (tyS d) n = some b) : EvD K G (tCB (rIsi K) (tCons ta (tCons (tC (.ty n)) tNil))) ss (.bool b) := fun σ H g s Q q =>
  h σ H g s _ fun v H1 e1 a => ⟨v, .ty n, _, _, b, rfl, .ty n, a.ty, kit_ty hb, q _ H1 e1 (.bl b)⟩
/-- a sign in a text -/

theorem ev_sign {c : Nat} {z : Str} (h1 : EvD K G ta ss (.str ⟨#[c]⟩)) (h2 : EvD K G tb ss (.str z)) : EvD K G (tOp (fun x y H Q => ∃ (c : Nat) (z : Str), x = .str ⟨#[c]⟩ ∧ y = .str z ∧ Q (.bl (decide (c ∈ z.cps.toList))) H) ta tb) ss (.bool (decide (c ∈ z.cps.toList))) := fun σ H g s Q q =>
  h1 σ H g s _ fun v H1 e1 a1 => h2 σ H1 (G.mono _ _ g e1) (s.mono e1.tp) _ fun w H2 e2 a2 => by
    cases a1
    cases a2
    exact ⟨_, _, rfl, rfl, q _ H2 (e1.trans e2) (.bl _)⟩
theorem ev_cst {v : V} (h : ∀ H, DT K H v d) : EvD K G (tC v) ss d := fun σ H g s Q q => q v H (Same.refl H) (h H)
/-- a local that holds a def -/
theorem ev_cv {f : Addr} {R : List PyData → PyData → Prop} {ds : List PyData} (e : ss[i]? = some (.v (.ref f))) (h : EvA K G tA ss ds) (hr : R ds d) : EvD K G (ItX.tCallV i f (fun vs H Q _ => spD K R vs H Q) E0 tA) ss d := fun σ H g s Q q =>
  ⟨s.v e, h σ H g s _ fun vs H1 e1 a => ⟨ds, d, a, hr, fun v H2 e2 b => q v H2 (e1.trans e2) b⟩⟩
end
section
variable {K : PySem.W.Frag} {G : Gm} {ss : List SV} {te : TE} {t : TT} {ts us rs : TS} {D : Ends} {d : PyData} {i : Nat}
/-- the end of a body -/
theorem st_fall (h : ∀ σ H, G.p H → D.nx σ H) : StD K G tNext D ss := fun σ H g s => h σ H g
/-- an if that is not taken: what it does then is never asked -/
theorem q_not (h : EvT K G t ss false) (h2 : StD K G rs D ss) : StD K G (tSeq (tIfS t ts tNext) rs) D ss := q_when h (fun z => by cases z) fun _ => h2
theorem s_not (h : EvT K G t ss false) (h2 : ∀ σ H, G.p H → D.nx σ H) : StD K G (tIfS t ts tNext) D ss := s_if h (fun z => by cases z) fun _ => st_fall h2
end
/-- the promise of a check that passes -/
def spU (K : PySem.W.Frag) (R : List PyData → Prop) : SpN := fun vs H Q => ∃ ds, DTs K H vs ds ∧ R ds ∧ ∀ H', Same H H' → Q .non H'
section
variable {K : PySem.W.Frag} {G : Gm} {ss : List SV} {tA : TA} {te : TE} {us : TS} {D : Ends} {ds : List PyData} {R : List PyData → Prop}
theorem q_chk (h : EvA K G tA ss ds) (hr : R ds) (k : StD K G us D ss) : StD K G (tSeq (tDrop (tCl (spU K R) tA)) us) D ss := fun σ H g s =>
  h σ H g s _ fun vs H1 e1 a => ⟨ds, a, hr, fun H2 e2 => k σ H2 (G.mono _ _ g (e1.trans e2)) (s.mono (e1.trans e2).tp)⟩
end
theorem compD_all {n : Nat} {b : Nat → Bool} {e : Nat → PyData} (h : ∀ i, i < n → b i = true → e i = .bool true) : compD n b e = (List.replicate (compD n b e).length true).map .bool := by
  apply List.ext_getElem
  · rw [List.length_map, List.length_replicate]
  · intro i h1 h2
    rw [List.getElem_map, List.getElem_replicate]
    have hm := List.getElem_mem h1
    unfold compD at hm
    obtain ⟨j, hj, ej⟩ := List.mem_map.mp hm
    obtain ⟨h3, h4⟩ := List.mem_filter.mp hj
    have h5 := h j (List.mem_range.mp h3) h4
    rw [h5] at ej
    exact ej.symm
theorem compD_getLt {n : Nat} {e : Nat → PyData} {xs : List PyData} (hn : n = xs.length) (h : ∀ i x, xs[i]? = some x → e i = x) : compD n (fun _ => true) e = xs := by
  subst hn
  unfold compD
  rw [List.filter_eq_self.mpr (by simp)]
  apply List.ext_getElem
  · simp
  · intro i h1 h2
    rw [List.getElem_map, List.getElem_range]
    exact h i _ (List.getElem?_eq_getElem h2)
section
variable {K : PySem.W.Frag} {G : Gm} {ss : List SV} {te : TE}
theorem ev_allT {n : Nat} {b : Nat → Bool} {e : Nat → PyData} (h : EvL K G te ss (compD n b e)) (hb : ∀ i, i < n → b i = true → e i = .bool true) : EvD K G (tCB (rAll K) (tCons te tNil)) ss (.bool true) := by
  have h2 := ev_all (K := K) (G := G) (bs := List.replicate (compD n b e).length true) (compD_all hb ▸ h)
  have e3 : ((List.replicate (compD n b e).length true).all id) = true := by simp
  rw [e3] at h2
  exact h2
end
section
variable {K : PySem.W.Frag} {G : Gm} {ss : List SV} {ta tb : TE} {t u : TT}
theorem evt_nF (h : EvT K G t ss true) : EvT K G (tNot t) ss false := evt_not h
theorem evt_nT (h : EvT K G t ss false) : EvT K G (tNot t) ss true := evt_not h
theorem evt_oF (h : EvT K G t ss false) (h2 : EvT K G u ss false) : EvT K G (tOr t u) ss false := evt_or h fun _ => h2
theorem ev_ninF {z : Str} (l : List Str) (m : z ∈ l) {p : Addr} (h1 : EvD K G ta ss (.str z)) (hK : ∀ H, SqT K H p (l.map V.str)) : EvD K G (tOp (rIn K true) ta (tC (.ref p))) ss (.bool false) := by
  have e := ev_ninSK l h1 hK
  rw [decide_eq_true m] at e
  exact e
theorem ev_to {a b : Bool} (h : EvD K G ta ss (.bool a)) (e : a = b) : EvD K G ta ss (.bool b) := e ▸ h
theorem evt_to {a b : Bool} (h : EvT K G t ss a) (e : a = b) : EvT K G t ss b := e ▸ h
end
section
variable {K : PySem.W.Frag} {G : Gm} {ss : List SV} {te : TE} {tA : TA} {wi : TI} {n : Nat} {f g : Nat → PyData}
theorem EvW.to (h : EvW K G wi ss n f) (e : ∀ i, i < n → f i = g i) : EvW K G wi ss n g := fun σ H p s R r =>
  h σ H p s R fun J H1 Gh e1 gh w => r J H1 Gh e1 gh ⟨w.keep, w.walk.mono (fun _ x => x) fun i H x H' hi _ y => ⟨y.1, e i hi ▸ y.2⟩⟩
theorem getD_map {α : Type} {l : List α} {h : α → PyData} {i : Nat} {d : α} (hi : i < l.length) : (l.map h).getD i .none = h (l.getD i d) := by
  rw [List.getD_eq_getElem?_getD, List.getD_eq_getElem?_getD, List.getElem?_map, List.getElem?_eq_getElem hi] <;> rfl
theorem evw_tupM {α : Type} {l : List α} {h : α → PyData} (d : α) (e : EvD K G te ss (.tuple (l.map h))) : EvW K G (iTup K te) ss l.length (fun i => h (l.getD i d)) := by
  have w := evw_tup e
  rw [List.length_map] at w
  exact w.to fun i hi => getD_map hi
theorem evw_zipM {α β : Type} {l : List α} {m : List β} {h : α → PyData} {k : β → PyData} (d : α) (c : β) (hn : n = min l.length m.length) (e : EvA K G tA ss [.tuple (l.map h), .tuple (m.map k)]) : EvW K G (RZ.iZipA K tA) ss n (fun i => .tuple [h (l.getD i d), k (m.getD i c)]) := by
  have w := evw_zipT (n := n) e (by rw [List.length_map, List.length_map]; exact hn)
  exact w.to fun i hi => by rw [getD_map (d := d) (by omega), getD_map (d := c) (by omega)]
theorem cutD_tail {xs : List PyData} : cutD xs (some 1) none = xs.drop 1 := by
  unfold cutD
  have e1 : HT.sIx xs.length 0 (some 1) = min 1 xs.length := by
    unfold HT.sIx
    simp
    try omega
  have e2 : HT.sIx xs.length xs.length none = xs.length := by
    unfold HT.sIx
    simp
  rw [e1, e2]
  cases xs with
  | nil => rfl
  | cons a l =>
    have : min 1 (a :: l).length = 1 := by simp
    rw [this]
    show List.take (l.length + 1 - 1) l = l
    rw [Nat.add_sub_cancel, List.take_length]
end
/-! ### graphs as data -/
def gD {α : Type} (f : α → PyData) (ns : List (List (α × Nat))) : PyData := .tuple (ns.map fun es => .tuple (es.map fun e => .tuple [f e.1, .int (e.2 : Nat)]))
/-- a graph's nodes -/
structure GOk {α : Type} (ok : α → Prop) (ns : List (List (α × Nat))) : Prop where
  one : 1 ≤ ns.length
  six : ns.length ≤ 6
  three : ∀ es ∈ ns, es.length ≤ 3
  step : ∀ es ∈ ns, ∀ e ∈ es, ok e.1
  there : ∀ es ∈ ns, ∀ e ∈ es, e.2 < ns.length
def fD (fs : List Nat) : PyData := .tuple ((fs.map fun n => ((n : Nat) : Int)).map PyData.int)
def lettersOk (z s : Str) : Prop := 1 ≤ z.length ∧ z.length ≤ 6 ∧ ∀ i, i < z.cps.size → z.cps.getD i 0 ∈ s.cps.toList
end KX
namespace KX
open PySem PySem.Spec PyProof.Rows L2 RZ
theorem st_nxV {K : PySem.W.Frag} {G : Gm} {ss ss' : List SV} {D : Ends} (hn : D.nx = Tn K G ss') (w : Wk ss ss') : StD K G tNext D ss := st_nxW w hn
theorem ev_to' {K : PySem.W.Frag} {G : Gm} {ss : List SV} {ta : TE} {a b : List PyData} (h : EvD K G ta ss (.tuple a)) (e : a = b) : EvD K G ta ss (.tuple b) := e ▸ h
end KX
namespace KX
open PySem PySem.Spec PyProof.Rows L2 RZ
section
variable {K : PySem.W.Frag} {G : Gm} {ss ss' : List SV} {ts us rs : TS} {D : Ends} {i n : Nat} {wi : TI} {f : Nat → PyData}
theorem s_forW (sl : Nat → List SV) (hw : EvW K G wi ss n f) (h0 : Wk ss (sl 0))
    (hs : ∀ (G' : Gm), (∀ H, G'.p H → G.p H) → ∀ j, j < n → StD K G' ts { D with nx := Tn K G' (sl (j + 1)), ct := Tn K G' (sl (j + 1)), bk := D.nx } ((sl j).set i (.d (f j))))
    (k : StD K G tNext D (sl n)) : StD K G (tFor wi (gName i) ts) D ss := q_forW (us := tNext) sl hw h0 hs k
/-- the target a pair -/
theorem q_forW2 {i1 i2 : Nat} {f1 f2 : Nat → PyData} (sl : Nat → List SV) (hw : EvW K G wi ss n fun j => .tuple [f1 j, f2 j]) (h0 : Wk ss (sl 0))
    (hs : ∀ (G' : Gm), (∀ H, G'.p H → G.p H) → ∀ j, j < n → StD K G' ts { D with nx := Tn K G' (sl (j + 1)), ct := Tn K G' (sl (j + 1)), bk := us D } (((sl j).set i1 (.d (f1 j))).set i2 (.d (f2 j))))
    (k : StD K G us D (sl n)) : StD K G (tSeq (tFor wi (gTup K 2 (gCons (gName i1) (gCons (gName i2) gNil))) ts) us) D ss := fun σ H g s => by
  refine hw σ H g s _ fun J H1 Gh e1 gh w => ?_
  let G' : Gm := ⟨fun H' => G.p H' ∧ Gh H', fun H1 H2 p e => ⟨G.mono _ _ p.1 e, w.keep _ _ p.2 e.tp⟩⟩
  refine for_it (D := { D with nx := us D }) w.walk (fun j σ' H' => Tn K G' (sl j) σ' H') ⟨⟨G.mono _ _ g e1, gh⟩, h0.ds (s.mono e1.tp)⟩ (fun j σ' H' _ p => p.1.2) (fun j x σ' H2 H3 hj p y => ?_) fun σ' H' p => k σ' H' p.1.1 p.2
  obtain ⟨s23, dx⟩ := y
  cases dx with
  | tup sq ts =>
    cases ts with
    | cons d1 ts =>
      cases ts with
      | cons d2 ts =>
        cases ts
        exact ⟨_, _, rfl, SqT.of sq, rfl, _, _, rfl, _, _, rfl, rfl, hs G' (fun H p => p.1) j hj _ H3 (G'.mono _ _ p.1 s23) (((p.2.mono s23.tp).set (i := i1) (s := .d (f1 j)) ⟨_, rfl, d1⟩).set (i := i2) (s := .d (f2 j)) ⟨_, rfl, d2⟩)⟩
end
end KX
set_option maxHeartbeats 4000000
namespace KX
open PySem PySem.Spec PyProof.Rows L2
/-! ### the law's mirror by versions, loosely -/
structure LS where
  present : Int
  copy : Int
  listens : Bool
  waiting : List Int
  work : Option (Int × Str)
def wkD : Option (Int × Str) → PyData
  | none => .none
  | some (a, b) => .tuple [.int a, .str b]
def LS.e (s : LS) : PyData := .tuple [.int s.present, .int s.copy, .bool s.listens, .tuple (s.waiting.map .int), wkD s.work]
def LS.within (s : LS) (k : Int × Str) (z : Str) : LS :=
  if z = "rollback" then { s with work := none } else if z = "listen" ∨ z = "unlisten" then { s with work := some (k.1, z) } else if z = "commit" then
    if k.2 = "unlisten" then { s with listens := false, waiting := [], work := none } else { s with listens := s.listens || decide (k.2 = "listen"), work := none } else s
def LS.alone (s : LS) (z : Str) : LS :=
  if z = "begin" then { s with work := some (s.present, "") } else if z = "listen" then { s with listens := true, work := none } else if z = "unlisten" then { s with listens := false, waiting := [], work := none } else
    if z = "receive" ∧ s.waiting ≠ [] then { s with copy := s.waiting.getLastD 0, waiting := [], work := none } else s
def LS.after (s : LS) (z : Str) : LS :=
  if z = "other" then { s with present := s.present + 1, waiting := if s.listens = true then s.waiting ++ [s.present + 1] else s.waiting } else
  if z = "disconnect" then { s with listens := false, waiting := [], work := none } else
  if z = "read" then { s with copy := match s.work with | none => s.present | some k => k.1 } else
  match s.work with | none => s.alone z | some k => s.within k z
def LS.start : LS := ⟨0, -1, false, [], none⟩
theorem lay_ints : ∀ l : List Int, PyData.canLayAll0 (l.map .int) = true
  | [] => by simp [PyData.canLayAll0]
  | _ :: l => by simp [PyData.canLayAll0, PyData.canLay0, lay_ints l]
theorem depth_ints : ∀ l : List Int, PyData.depthAll (l.map .int) ≤ 1
  | [] => by simp [PyData.depthAll]
  | _ :: l => by
    have h := depth_ints l
    simp only [List.map_cons, PyData.depthAll, PyData.depth]
    omega
theorem shaped_ints (l : List Int) : SeqAt.shaped (.tuple (l.map .int)) = true := by
  show (PyData.canLay0 (.tuple (l.map .int)) && decide (PyData.depth (.tuple (l.map .int)) ≤ 64)) = true
  rw [Bool.and_eq_true]
  have h := depth_ints l
  exact ⟨by simp only [PyData.canLay0]; exact lay_ints l, decide_eq_true (by simp only [PyData.depth]; omega)⟩
theorem eqv_ints_nil (l : List Int) : PyData.eqv (.tuple (l.map .int)) (.tuple []) = l.isEmpty := by
  cases l <;> simp [PyData.eqv, PyData.eqvAll]
theorem at_last (l : List Int) (h : l ≠ []) : atI (l.map PyData.int) (-1) = some (.int (l.getLastD 0)) := by
  have e : l = l.dropLast ++ [l.getLast h] := (List.dropLast_concat_getLast h).symm
  have e2 : l.getLastD 0 = l.getLast h := by cases l <;> first | exact absurd rfl h | rfl
  rw [e2]
  have e3 : l.map PyData.int = l.dropLast.map PyData.int ++ [.int (l.getLast h)] := by
    conv => lhs; rw [e]
    rw [List.map_append] <;> rfl
  rw [e3]
  exact atI_last _ _
section
variable {P : Program} {w : World} {K : PySem.W.Frag} {mg : Str → Option Value} {base : Heap}
theorem sc_L_within : FnScope ["_law_state", "_law_step", "_law_present", "_law_copy", "_law_listens", "_law_waiting", "_law_work"] ["_law_state", "_law_step"] (defScope s_L_within) := ⟨rfl, rfl, rfl, by decide +kernel, rfl, by decide +kernel, by decide +kernel⟩
def rWithin : List PyData → PyData → Prop := fun ds r => ∃ (s : LS) (k : Int × Str) (z : Str), ds = [LS.e { s with work := some k }, .str z] ∧ r = ({ s with work := some k }.within k z : LS).e
theorem ok__law_within (T : Tx w K mg) : FnN P w K mg base 1 a__law_within (spD K rWithin) := by
  obtain ⟨fd, F⟩ := T.F_L_within
  refine F.okN rfl sc_L_within (fun _ _ _ _ _ _ us hl => match us, hl with | [_, _], _ => rfl) (fun vs H Q h => ?_) (fun A outer s H vs Q hr h => ⟨_, (pss_cons (ps_asg (pv 0) (pg_tup rfl (pgs_cons (pg_name (i := 2) sc_L_within.nd rfl (Or.inl rfl)) (pgs_cons (pg_name (i := 3) sc_L_within.nd rfl (Or.inl rfl)) (pgs_cons (pg_name (i := 4) sc_L_within.nd rfl (Or.inl rfl)) (pgs_cons (pg_name (i := 5) sc_L_within.nd rfl (Or.inl rfl)) (pgs_cons (pg_name (i := 6) sc_L_within.nd rfl (Or.inl rfl)) pgs_nil))))))) (pss_cons (ps_if (pt_cmpR op_eq (pv 1) pe_str (nomark _)) (pss_one (ps_ret (pe_tup (pa_cons (pv 2) (pa_cons (pv 3) (pa_cons (pv 4) (pa_cons (pv 5) (pa_cons pe_non pa_nil)))))))) pss_nil) (pss_cons (ps_if (pt_cmpR op_in_seq (pv 1) (pe_tup (pa_cons pe_str (pa_cons pe_str pa_nil))) rfl) (pss_one (ps_ret (pe_tup (pa_cons (pv 2) (pa_cons (pv 3) (pa_cons (pv 4) (pa_cons (pv 5) (pa_cons (pe_tup (pa_cons (pe_ix ix_tup (pv 6) pe_int (fun _ _ => rfl)) (pa_cons (pv 1) pa_nil))) pa_nil)))))))) pss_nil) (pss_cons (ps_if (pt_cmpR op_ne (pv 1) pe_str (nomark _)) (pss_one (ps_ret (pv 0))) pss_nil) (pss_cons (ps_if (pt_cmpR op_eq (pe_ix ix_tup (pv 6) pe_int (fun _ _ => rfl)) pe_str (nomark _)) (pss_one (ps_ret (pe_tup (pa_cons (pv 2) (pa_cons (pv 3) (pa_cons pe_bl (pa_cons (pe_tup pa_nil) (pa_cons pe_non pa_nil)))))))) pss_nil) (pss_one (ps_ret (pe_tup (pa_cons (pv 2) (pa_cons (pv 3) (pa_cons (pe_or (pv 4) (pe_one (pe_cmpR op_eq (pe_ix ix_tup (pv 6) pe_int (fun _ _ => rfl)) pe_str (nomark _)))) (pa_cons (pv 5) (pa_cons pe_non pa_nil))))))))))))), ?_⟩)
  · obtain ⟨ds, r, h1, ⟨_, _, _, rfl, _⟩, _⟩ := h
    exact h1.len
  obtain ⟨ds, r, hd, ⟨s, k, z, rfl, rfl⟩, q⟩ := h
  refine (?_ : StD K (gS H) _ _ _) _ H (Same.refl H) (DS.start hd)
  refine q_unpack (is := [2, 3, 4, 5, 6]) rfl rfl (ev_var rfl) rfl ?_
  refine q_when (evt_test (ev_eqs (ev_var rfl) ev_str)) (fun h => ?_) (fun h => ?_)
  · exact st_ret (ev_tup (eva_cons (ev_var rfl) (eva_cons (ev_var rfl) (eva_cons (ev_var rfl) (eva_cons (ev_var rfl) (eva_cons ev_non eva_nil)))))) (rt_of q (by simp_all [LS.within, LS.e, wkD]))
  refine q_when (evt_test (ev_inS ["listen", "unlisten"] (ev_var rfl) (ev_tup (eva_cons ev_str (eva_cons ev_str eva_nil))))) (fun h2 => ?_) (fun h2 => ?_)
  · exact st_ret (ev_tup (eva_cons (ev_var rfl) (eva_cons (ev_var rfl) (eva_cons (ev_var rfl) (eva_cons (ev_var rfl) (eva_cons (ev_tup (eva_cons (ev_ix (ev_var rfl) ev_int rfl) (eva_cons (ev_var rfl) eva_nil))) eva_nil)))))) (rt_of q (by simp_all [LS.within, LS.e, wkD]))
  refine q_when (evt_test (ev_nes (ev_var rfl) ev_str)) (fun h3 => ?_) (fun h3 => ?_)
  · exact st_ret (ev_var rfl) (rt_of q (by simp_all [LS.within, LS.e, wkD]))
  refine q_when (evt_test (ev_eqs (ev_ix (ev_var rfl) ev_int rfl) ev_str)) (fun h4 => ?_) (fun h4 => ?_)
  · exact st_ret (ev_tup (eva_cons (ev_var rfl) (eva_cons (ev_var rfl) (eva_cons ev_bl (eva_cons (ev_tup eva_nil) (eva_cons ev_non eva_nil)))))) (rt_of q (by simp_all [LS.within, LS.e, wkD]))
  exact st_ret (ev_tup (eva_cons (ev_var rfl) (eva_cons (ev_var rfl) (eva_cons (ev_or (ev_var rfl) (fun _ => ev_eqs (ev_ix (ev_var rfl) ev_int rfl) ev_str)) (eva_cons (ev_var rfl) (eva_cons ev_non eva_nil)))))) (rt_of q (by simp_all [LS.within, LS.e, wkD]))
theorem sc_L_alone : FnScope ["_law_state", "_law_step", "_law_present", "_law_copy", "_law_listens", "_law_waiting", "_law_work"] ["_law_state", "_law_step"] (defScope s_L_alone) := ⟨rfl, rfl, rfl, by decide +kernel, rfl, by decide +kernel, by decide +kernel⟩
def rAlone : List PyData → PyData → Prop := fun ds r => ∃ (s : LS) (z : Str), ds = [LS.e { s with work := none }, .str z] ∧ r = ({ s with work := none }.alone z : LS).e
theorem ok__law_alone (T : Tx w K mg) : FnN P w K mg base 1 a__law_alone (spD K rAlone) := by
  obtain ⟨fd, F⟩ := T.F_L_alone
  refine F.okN rfl sc_L_alone (fun _ _ _ _ _ _ us hl => match us, hl with | [_, _], _ => rfl) (fun vs H Q h => ?_) (fun A outer s H vs Q hr h => ⟨_, (pss_cons (ps_asg (pv 0) (pg_tup rfl (pgs_cons (pg_name (i := 2) sc_L_alone.nd rfl (Or.inl rfl)) (pgs_cons (pg_name (i := 3) sc_L_alone.nd rfl (Or.inl rfl)) (pgs_cons (pg_name (i := 4) sc_L_alone.nd rfl (Or.inl rfl)) (pgs_cons (pg_name (i := 5) sc_L_alone.nd rfl (Or.inl rfl)) (pgs_cons (pg_name (i := 6) sc_L_alone.nd rfl (Or.inl rfl)) pgs_nil))))))) (pss_cons (ps_if (pt_cmpR op_eq (pv 1) pe_str (nomark _)) (pss_one (ps_ret (pe_tup (pa_cons (pv 2) (pa_cons (pv 3) (pa_cons (pv 4) (pa_cons (pv 5) (pa_cons (pe_tup (pa_cons (pv 2) (pa_cons pe_str pa_nil))) pa_nil)))))))) pss_nil) (pss_cons (ps_if (pt_cmpR op_eq (pv 1) pe_str (nomark _)) (pss_one (ps_ret (pe_tup (pa_cons (pv 2) (pa_cons (pv 3) (pa_cons pe_bl (pa_cons (pv 5) (pa_cons pe_non pa_nil)))))))) pss_nil) (pss_cons (ps_if (pt_cmpR op_eq (pv 1) pe_str (nomark _)) (pss_one (ps_ret (pe_tup (pa_cons (pv 2) (pa_cons (pv 3) (pa_cons pe_bl (pa_cons (pe_tup pa_nil) (pa_cons pe_non pa_nil)))))))) pss_nil) (pss_cons (ps_if (PW.pt (pw_and (pt_cmpR op_eq (pv 1) pe_str (nomark _)) (pw_and1 (pt_cmpR (op_neD hr.units) (pv 5) (pe_tup pa_nil) (nomark _))))) (pss_one (ps_ret (pe_tup (pa_cons (pv 2) (pa_cons (pe_ix ix_tup (pv 5) (pe_un un_neg pe_int) (fun _ _ => rfl)) (pa_cons (pv 4) (pa_cons (pe_tup pa_nil) (pa_cons pe_non pa_nil)))))))) pss_nil) (pss_one (ps_ret (pv 0)))))))), ?_⟩)
  · obtain ⟨ds, r, h1, ⟨_, _, rfl, _⟩, _⟩ := h
    exact h1.len
  obtain ⟨ds, r, hd, ⟨s, z, rfl, rfl⟩, q⟩ := h
  refine (?_ : StD K (gS H) _ _ _) _ H (Same.refl H) (DS.start hd)
  refine q_unpack (is := [2, 3, 4, 5, 6]) rfl rfl (ev_var rfl) rfl ?_
  refine q_when (evt_test (ev_eqs (ev_var rfl) ev_str)) (fun h => ?_) (fun h => ?_)
  · exact st_ret (ev_tup (eva_cons (ev_var rfl) (eva_cons (ev_var rfl) (eva_cons (ev_var rfl) (eva_cons (ev_var rfl) (eva_cons (ev_tup (eva_cons (ev_var rfl) (eva_cons ev_str eva_nil))) eva_nil)))))) (rt_of q (by simp_all [LS.alone, LS.e, wkD]))
  refine q_when (evt_test (ev_eqs (ev_var rfl) ev_str)) (fun h2 => ?_) (fun h2 => ?_)
  · exact st_ret (ev_tup (eva_cons (ev_var rfl) (eva_cons (ev_var rfl) (eva_cons ev_bl (eva_cons (ev_var rfl) (eva_cons ev_non eva_nil)))))) (rt_of q (by simp_all [LS.alone, LS.e, wkD]))
  refine q_when (evt_test (ev_eqs (ev_var rfl) ev_str)) (fun h3 => ?_) (fun h3 => ?_)
  · exact st_ret (ev_tup (eva_cons (ev_var rfl) (eva_cons (ev_var rfl) (eva_cons ev_bl (eva_cons (ev_tup eva_nil) (eva_cons ev_non eva_nil)))))) (rt_of q (by simp_all [LS.alone, LS.e, wkD]))
  refine q_when (evt_and (evt_test (ev_eqs (ev_var rfl) ev_str)) (fun _ => evt_test (ev_neD (ev_var rfl) (ev_tup eva_nil) (shaped_ints _) (shaped_ints [])))) (fun h4 => ?_) (fun h4 => ?_)
  · rw [eqv_ints_nil] at h4
    have hne : s.waiting ≠ [] := by
      intro e
      rw [e] at h4
      simp at h4
    exact st_ret (ev_tup (eva_cons (ev_var rfl) (eva_cons (ev_ix (ev_var rfl) (ev_neg ev_int) (at_last s.waiting hne)) (eva_cons (ev_var rfl) (eva_cons (ev_tup eva_nil) (eva_cons ev_non eva_nil)))))) (rt_of q (by simp_all [LS.alone, LS.e, wkD]))
  · rw [eqv_ints_nil] at h4
    refine st_ret (ev_var rfl) (rt_of q ?_)
    have e : ¬ (z = "receive" ∧ s.waiting ≠ []) := by simpa using h4
    simp only [decide_eq_false_iff_not] at h h2 h3
    unfold LS.alone
    rw [if_neg h, if_neg h2, if_neg h3, if_neg e] <;> rfl
theorem sc_L_after : FnScope ["_law_state", "_law_step", "_law_present", "_law_copy", "_law_listens", "_law_waiting", "_law_work"] ["_law_state", "_law_step"] (defScope s_L_after) := ⟨rfl, rfl, rfl, by decide +kernel, rfl, by decide +kernel, by decide +kernel⟩
def rAfter : List PyData → PyData → Prop := fun ds r => ∃ (s : LS) (z : Str), s.waiting.length ≤ 900 ∧ ds = [s.e, .str z] ∧ r = (s.after z).e
theorem ok__law_after (T : Tx w K mg) : FnN P w K mg base 2 a__law_after (spD K rAfter) := by
  obtain ⟨fd, F⟩ := T.F_L_after
  refine F.okN rfl sc_L_after (fun _ _ _ _ _ _ us hl => match us, hl with | [_, _], _ => rfl) (fun vs H Q h => ?_) (fun A outer s H vs Q hr h => ⟨_, (pss_cons (ps_asg (pv 0) (pg_tup rfl (pgs_cons (pg_name (i := 2) sc_L_after.nd rfl (Or.inl rfl)) (pgs_cons (pg_name (i := 3) sc_L_after.nd rfl (Or.inl rfl)) (pgs_cons (pg_name (i := 4) sc_L_after.nd rfl (Or.inl rfl)) (pgs_cons (pg_name (i := 5) sc_L_after.nd rfl (Or.inl rfl)) (pgs_cons (pg_name (i := 6) sc_L_after.nd rfl (Or.inl rfl)) pgs_nil))))))) (pss_cons (ps_if (pt_cmpR op_eq (pv 1) pe_str (nomark _)) (pss_one (ps_ret (pe_tup (pa_cons (pe_op op_add (pv 2) pe_int) (pa_cons (pv 3) (pa_cons (pv 4) (pa_cons (pe_ifExp (pt_val (pv 4)) (pe_op op_catA (pv 5) (pe_tup (pa_cons (pe_op op_add (pv 2) pe_int) pa_nil))) (pv 5)) (pa_cons (pv 6) pa_nil)))))))) pss_nil) (pss_cons (ps_if (pt_cmpR op_eq (pv 1) pe_str (nomark _)) (pss_one (ps_ret (pe_tup (pa_cons (pv 2) (pa_cons (pv 3) (pa_cons pe_bl (pa_cons (pe_tup pa_nil) (pa_cons pe_non pa_nil)))))))) pss_nil) (pss_cons (ps_if (pt_cmpR op_eq (pv 1) pe_str (nomark _)) (pss_one (ps_ret (pe_tup (pa_cons (pv 2) (pa_cons (pe_ifExp (pt_cmpR op_isN (pv 6) pe_non (nomark _)) (pv 2) (pe_ix ix_tup (pv 6) pe_int (fun _ _ => rfl))) (pa_cons (pv 4) (pa_cons (pv 5) (pa_cons (pv 6) pa_nil)))))))) pss_nil) (pss_one (ps_ret (pe_ifExp (pt_cmpR op_isN (pv 6) pe_non (nomark _)) (pe_cl (ok__law_alone T) (hr.mono (by decide)) T.kp__law_alone T.g__law_alone (pa_cons (pv 0) (pa_cons (pv 1) pa_nil))) (pe_cl (ok__law_within T) (hr.mono (by decide)) T.kp__law_within T.g__law_within (pa_cons (pv 0) (pa_cons (pv 1) pa_nil)))))))))), ?_⟩)
  · obtain ⟨ds, r, h1, ⟨_, _, _, rfl, _⟩, _⟩ := h
    exact h1.len
  obtain ⟨ds, r, hd, ⟨s, z, hl, rfl, rfl⟩, q⟩ := h
  refine (?_ : StD K (gS H) _ _ _) _ H (Same.refl H) (DS.start hd)
  refine q_unpack (is := [2, 3, 4, 5, 6]) rfl rfl (ev_var rfl) rfl ?_
  refine q_when (evt_test (ev_eqs (ev_var rfl) ev_str)) (fun h => ?_) (fun h => ?_)
  · refine st_ret (ev_tup (eva_cons (ev_rI (ev_var rfl) ev_int) (eva_cons (ev_var rfl) (eva_cons (ev_var rfl) (eva_cons (ev_if (x := .tuple ((if s.listens = true then s.waiting ++ [s.present + 1] else s.waiting).map .int)) (evt_b (ev_var rfl)) (fun hb => ?_) (fun hb => ?_)) (eva_cons (ev_var rfl) eva_nil)))))) (rt_of q (by simp_all [LS.after, LS.e]))
    · rw [if_pos hb, List.map_append]
      refine ev_cat (xs := s.waiting.map .int) (ys := [.int (s.present + 1)]) ?_ ?_ (by rw [List.length_map]; show _ + 1 ≤ 1000; omega)
      · exact ev_var rfl
      · exact ev_tup (eva_cons (ev_rI (ev_var rfl) ev_int) eva_nil)
    · rw [if_neg (by rw [hb]; decide)]
      exact ev_var rfl
  refine q_when (evt_test (ev_eqs (ev_var rfl) ev_str)) (fun h2 => ?_) (fun h2 => ?_)
  · exact st_ret (ev_tup (eva_cons (ev_var rfl) (eva_cons (ev_var rfl) (eva_cons ev_bl (eva_cons (ev_tup eva_nil) (eva_cons ev_non eva_nil)))))) (rt_of q (by simp_all [LS.after, LS.e, wkD]))
  obtain ⟨pr, co, li, wa, wk⟩ := s
  cases wk with
  | none =>
    refine q_when (evt_test (ev_eqs (ev_var rfl) ev_str)) (fun h3 => ?_) (fun h3 => ?_)
    · exact st_ret (ev_tup (eva_cons (ev_var rfl) (eva_cons (ev_if (x := .int pr) (evt_test (ev_isN (ev_var rfl))) (fun _ => ev_var rfl) (fun hb => by cases hb)) (eva_cons (ev_var rfl) (eva_cons (ev_var rfl) (eva_cons (ev_var rfl) eva_nil)))))) (rt_of q (by simp_all [LS.after, LS.e, wkD]))
    · exact st_ret (d := (LS.alone ⟨pr, co, li, wa, none⟩ z).e) (ev_if (evt_test (ev_isN (ev_var rfl))) (fun _ => ev_cl (eva_cons (ev_var rfl) (eva_cons (ev_var rfl) eva_nil)) ⟨⟨pr, co, li, wa, none⟩, z, rfl, rfl⟩) (fun hb => by cases hb)) (rt_of q (by simp_all [LS.after]))
  | some k =>
    refine q_when (evt_test (ev_eqs (ev_var rfl) ev_str)) (fun h3 => ?_) (fun h3 => ?_)
    · exact st_ret (ev_tup (eva_cons (ev_var rfl) (eva_cons (ev_if (x := .int k.1) (evt_test (ev_isN (ev_var rfl))) (fun hb => by cases hb) (fun _ => ev_ix (ds := [.int k.1, .str k.2]) (ev_var rfl) ev_int rfl)) (eva_cons (ev_var rfl) (eva_cons (ev_var rfl) (eva_cons (ev_var rfl) eva_nil)))))) (rt_of q (by simp_all [LS.after, LS.e, wkD]))
    · exact st_ret (d := (LS.within ⟨pr, co, li, wa, some k⟩ k z).e) (ev_if (evt_test (ev_isN (ev_var rfl))) (fun hb => by cases hb) (fun _ => ev_cl (eva_cons (ev_var rfl) (eva_cons (ev_var rfl) eva_nil)) ⟨⟨pr, co, li, wa, some k⟩, k, z, rfl, rfl⟩)) (rt_of q (by simp_all [LS.after]))
theorem sc_L_start : FnScope [] [] (defScope s_L_start) := ⟨rfl, rfl, rfl, by decide +kernel, rfl, by decide +kernel, by decide +kernel⟩
theorem ok__law_start (T : Tx w K mg) : FnN P w K mg base 1 a__law_start (spD K fun ds r => ds = [] ∧ r = LS.start.e) := by
  obtain ⟨fd, F⟩ := T.F_L_start
  refine F.okN rfl sc_L_start (fun _ _ _ _ _ _ us hl => match us, hl with | [], _ => rfl) (fun vs H Q h => ?_) (fun A outer s H vs Q hr h => ⟨_, (pss_one (ps_ret (pe_tup (pa_cons pe_int (pa_cons (pe_un un_neg pe_int) (pa_cons pe_bl (pa_cons (pe_tup pa_nil) (pa_cons pe_non pa_nil)))))))), ?_⟩)
  · obtain ⟨ds, r, h1, ⟨rfl, _⟩, _⟩ := h
    exact h1.len
  obtain ⟨ds, r, hd, ⟨rfl, rfl⟩, q⟩ := h
  refine (?_ : StD K (gS H) _ _ _) _ H (Same.refl H) (DS.start hd)
  exact st_ret (ev_tup (eva_cons ev_int (eva_cons (ev_neg ev_int) (eva_cons ev_bl (eva_cons (ev_tup eva_nil) (eva_cons ev_non eva_nil)))))) (rt_of q rfl)
end
end KX
set_option maxHeartbeats 4000000
namespace KX
open PySem PySem.Spec PyProof.Rows L2
section
variable {P : Program} {w : World} {K : PySem.W.Frag} {mg : Str → Option Value} {base : Heap}
theorem sc_is_between : FnScope ["thing", "low", "high"] ["thing", "low", "high"] (defScope s_is_between) := ⟨rfl, rfl, rfl, by decide +kernel, rfl, by decide +kernel, by decide +kernel⟩
theorem ok_is_between (T : Tx w K mg) : FnN P w K mg base 1 a_is_between (spD K fun ds r => ∃ a b c : Int, ds = [.int a, .int b, .int c] ∧ r = .bool (decide (b ≤ a) && decide (a ≤ c))) := by
  obtain ⟨fd, F⟩ := T.F_is_between
  refine F.okN rfl sc_is_between (fun _ _ _ _ _ _ us hl => match us, hl with | [_, _, _], _ => rfl) (fun vs H Q h => ?_) (fun A outer s H vs Q hr h => ⟨_, (pss_one (ps_ret (pe_and (pe_callB call_isi (by rfl) T.z_isinstance (by decide +kernel) (pa_cons (pv 0) (pa_cons (pe_ty (n := "int") T.z_int (by decide +kernel)) pa_nil))) (pe_and (pe_not (pe_callB call_isi (by rfl) T.z_isinstance (by decide +kernel) (pa_cons (pv 0) (pa_cons (pe_ty (n := "bool") T.z_bool (by decide +kernel)) pa_nil)))) (pe_one (pe_chain op_le op_le (pv 1) (pv 0) (pv 2))))))), ?_⟩)
  · obtain ⟨ds, r, h1, ⟨_, _, _, rfl, _⟩, _⟩ := h
    exact h1.len
  obtain ⟨ds, r, hd, ⟨a, b, c, rfl, rfl⟩, q⟩ := h
  refine (?_ : StD K (gS H) _ _ _) _ H (Same.refl H) (DS.start hd)
  exact st_ret (ev_and (ev_isi (ev_var rfl) kb_int_int) fun _ => ev_and (ev_not (ev_isi (ev_var rfl) kb_int_bool)) fun _ => ev_chain (ev_var rfl) (ev_var rfl) (ev_var rfl)) (rt_of q rfl)
theorem sc_is_string_of : FnScope ["thing", "signs", "sign"] ["thing", "signs"] (defScope s_is_string_of) := ⟨rfl, rfl, rfl, by decide +kernel, rfl, by decide +kernel, by decide +kernel⟩
theorem ok_is_string_of (T : Tx w K mg) : FnN P w K mg base 1 a_is_string_of (spD K fun ds r => ∃ z s : Str, ds = [.str z, .str s] ∧ lettersOk z s ∧ r = .bool true) := by
  obtain ⟨fd, F⟩ := T.F_is_string_of
  refine F.okN rfl sc_is_string_of (fun _ _ _ _ _ _ us hl => match us, hl with | [_, _], _ => rfl) (fun vs H Q h => ?_) (fun A outer s H vs Q hr h => ⟨_, (pss_one (ps_ret (pe_and (pe_callB call_isi (by rfl) T.z_isinstance (by decide +kernel) (pa_cons (pv 0) (pa_cons (pe_ty (n := "str") T.z_str (by decide +kernel)) pa_nil))) (pe_and (pe_chain op_le op_le pe_int (pe_callB call_len (by rfl) T.z_len PySem.boot_len (pa_cons (pv 0) pa_nil)) (pe_ci T.i_LONGEST)) (pe_one (pe_callB (cr_all (by rfl)) (by rfl) T.z_all (by decide +kernel) (pa_cons (pe_lc (own := [("sign", 2)]) (by rfl) sc_is_string_of.nd (pi_str (pv 0)) (blkOk_by (N := ["thing", "signs", "sign"]) (sc := defScope s_is_string_of) (by decide +kernel)) (fun _ _ _ _ _ => by exact (pg_name (i := 2) sc_is_string_of.nd rfl (Or.inl rfl))) (fun _ _ _ _ _ => pts_nil) (fun _ _ _ _ _ => (pe_cmpR op_in_sign (pv 2) (pv 1) rfl))) pa_nil))))))), ?_⟩)
  · obtain ⟨ds, r, h1, ⟨_, _, rfl, _⟩, _⟩ := h
    exact h1.len
  obtain ⟨ds, r, hd, ⟨z, l, rfl, ok, rfl⟩, q⟩ := h
  refine (?_ : StD K (gS H) _ _ _) _ H (Same.refl H) (DS.start hd)
  obtain ⟨h1, h2, h3⟩ := ok
  have h4 : z.cps.size ≤ 6 := h2
  refine st_ret (d := .bool true) (ev_and (b := true) (c := true) (ev_isi (ev_var rfl) kb_str_str) fun _ => ev_and (b := true) (c := true) ?_ fun _ => ?_) (rt_of q rfl)
  · have e2 : (decide ((1 : Int) ≤ z.length) && decide ((z.length : Int) ≤ 6)) = true := by
      rw [decide_eq_true (by omega), decide_eq_true (by omega)] <;> rfl
    rw [← e2]
    exact ev_chain ev_int (ev_lens (z := z) rfl (ev_var rfl) (by omega)) ev_int
  · exact ev_allT (n := z.cps.size) (b := fun _ => true) (e := fun i => .bool (decide (z.cps.getD i 0 ∈ l.cps.toList))) (evl_lc (evw_str (ev_var rfl)) (fun i _ => evt_yes) (fun i _ _ => ev_sign (ev_var rfl) (ev_var rfl)) (by omega)) fun i hi _ => by rw [decide_eq_true (h3 i hi)]
def nameB (z : Str) : Prop := lettersOk z "abcdefghijklmnopqrstuvwxyz"
theorem sc_is_name : FnScope ["thing"] ["thing"] (defScope s_is_name) := ⟨rfl, rfl, rfl, by decide +kernel, rfl, by decide +kernel, by decide +kernel⟩
theorem ok_is_name (T : Tx w K mg) : FnN P w K mg base 2 a_is_name (spD K fun ds r => ∃ z : Str, ds = [.str z] ∧ nameB z ∧ r = .bool true) := by
  obtain ⟨fd, F⟩ := T.F_is_name
  refine F.okN rfl sc_is_name (fun _ _ _ _ _ _ us hl => match us, hl with | [_], _ => rfl) (fun vs H Q h => ?_) (fun A outer s H vs Q hr h => ⟨_, (pss_one (ps_ret (pe_cl (ok_is_string_of T) (hr.mono (by decide)) T.kp_is_string_of T.g_is_string_of (pa_cons (pv 0) (pa_cons (pe_cs T.t_LETTERS) pa_nil))))), ?_⟩)
  · obtain ⟨ds, r, h1, ⟨_, rfl, _⟩, _⟩ := h
    exact h1.len
  obtain ⟨ds, r, hd, ⟨z, rfl, ok, rfl⟩, q⟩ := h
  refine (?_ : StD K (gS H) _ _ _) _ H (Same.refl H) (DS.start hd)
  exact st_ret (ev_cl (eva_cons (ev_var rfl) (eva_cons (ev_cst fun _ => .str _) eva_nil)) ⟨_, _, rfl, ok, rfl⟩) (rt_of q rfl)
def wordB (z : Str) : Prop := lettersOk z "abcdefghijklmnopqrstuvwxyz0123456789"
theorem sc_is_word : FnScope ["thing"] ["thing"] (defScope s_is_word) := ⟨rfl, rfl, rfl, by decide +kernel, rfl, by decide +kernel, by decide +kernel⟩
theorem ok_is_word (T : Tx w K mg) : FnN P w K mg base 2 a_is_word (spD K fun ds r => ∃ z : Str, ds = [.str z] ∧ wordB z ∧ r = .bool true) := by
  obtain ⟨fd, F⟩ := T.F_is_word
  refine F.okN rfl sc_is_word (fun _ _ _ _ _ _ us hl => match us, hl with | [_], _ => rfl) (fun vs H Q h => ?_) (fun A outer s H vs Q hr h => ⟨_, (pss_one (ps_ret (pe_cl (ok_is_string_of T) (hr.mono (by decide)) T.kp_is_string_of T.g_is_string_of (pa_cons (pv 0) (pa_cons (pe_cs T.t_SIGNS) pa_nil))))), ?_⟩)
  · obtain ⟨ds, r, h1, ⟨_, rfl, _⟩, _⟩ := h
    exact h1.len
  obtain ⟨ds, r, hd, ⟨z, rfl, ok, rfl⟩, q⟩ := h
  refine (?_ : StD K (gS H) _ _ _) _ H (Same.refl H) (DS.start hd)
  exact st_ret (ev_cl (eva_cons (ev_var rfl) (eva_cons (ev_cst fun _ => .str _) eva_nil)) ⟨_, _, rfl, ok, rfl⟩) (rt_of q rfl)
theorem sc_need_name : FnScope ["thing"] ["thing"] (defScope s_need_name) := ⟨rfl, rfl, rfl, by decide +kernel, rfl, by decide +kernel, by decide +kernel⟩
theorem ok_need_name (T : Tx w K mg) : FnN P w K mg base 3 a_need_name (spU K fun ds => ∃ z : Str, ds = [.str z] ∧ nameB z) := by
  obtain ⟨fd, F⟩ := T.F_need_name
  refine F.okN rfl sc_need_name (fun _ _ _ _ _ _ us hl => match us, hl with | [_], _ => rfl) (fun vs H Q h => ?_) (fun A outer s H vs Q hr h => ⟨_, (pss_one (ps_if (pt_not (pt_val (pe_cl (ok_is_name T) (hr.mono (by decide)) T.kp_is_name T.g_is_name (pa_cons (pv 0) pa_nil)))) (pss_one ps_never) pss_nil)), ?_⟩)
  · obtain ⟨ds, h1, ⟨_, rfl, _⟩, _⟩ := h
    exact h1.len
  obtain ⟨ds, hd, ⟨z, rfl, ok⟩, q⟩ := h
  refine (?_ : StD K (gS H) _ _ _) _ H (Same.refl H) (DS.start hd)
  exact s_not (evt_nF (evt_test (ev_cl (eva_cons (ev_var rfl) eva_nil) ⟨_, rfl, ok, rfl⟩))) fun σ H1 e1 => q H1 e1
theorem sc_need_word : FnScope ["thing"] ["thing"] (defScope s_need_word) := ⟨rfl, rfl, rfl, by decide +kernel, rfl, by decide +kernel, by decide +kernel⟩
theorem ok_need_word (T : Tx w K mg) : FnN P w K mg base 3 a_need_word (spU K fun ds => ∃ z : Str, ds = [.str z] ∧ wordB z) := by
  obtain ⟨fd, F⟩ := T.F_need_word
  refine F.okN rfl sc_need_word (fun _ _ _ _ _ _ us hl => match us, hl with | [_], _ => rfl) (fun vs H Q h => ?_) (fun A outer s H vs Q hr h => ⟨_, (pss_one (ps_if (pt_not (pt_val (pe_cl (ok_is_word T) (hr.mono (by decide)) T.kp_is_word T.g_is_word (pa_cons (pv 0) pa_nil)))) (pss_one ps_never) pss_nil)), ?_⟩)
  · obtain ⟨ds, h1, ⟨_, rfl, _⟩, _⟩ := h
    exact h1.len
  obtain ⟨ds, hd, ⟨z, rfl, ok⟩, q⟩ := h
  refine (?_ : StD K (gS H) _ _ _) _ H (Same.refl H) (DS.start hd)
  exact s_not (evt_nF (evt_test (ev_cl (eva_cons (ev_var rfl) eva_nil) ⟨_, rfl, ok, rfl⟩))) fun σ H1 e1 => q H1 e1
def rules : List Str := ["first", "last", "all"]
theorem sc_need_rule : FnScope ["thing"] ["thing"] (defScope s_need_rule) := ⟨rfl, rfl, rfl, by decide +kernel, rfl, by decide +kernel, by decide +kernel⟩
theorem ok_need_rule (T : Tx w K mg) : FnN P w K mg base 1 a_need_rule (spU K fun ds => ∃ z : Str, ds = [.str z] ∧ z ∈ rules) := by
  obtain ⟨fd, F⟩ := T.F_need_rule
  refine F.okN rfl sc_need_rule (fun _ _ _ _ _ _ us hl => match us, hl with | [_], _ => rfl) (fun vs H Q h => ?_) (fun A outer s H vs Q hr h => ⟨_, (pss_one (ps_if (PW.pt (pw_or (pt_not (pt_val (pe_callB call_isi (by rfl) T.z_isinstance (by decide +kernel) (pa_cons (pv 0) (pa_cons (pe_ty (n := "str") T.z_str (by decide +kernel)) pa_nil))))) (pw_or1 (pt_cmpR op_notIn_seq (pv 0) (pe_gr T.g_RULES) rfl)))) (pss_one ps_never) pss_nil)), ?_⟩)
  · obtain ⟨ds, h1, ⟨_, rfl, _⟩, _⟩ := h
    exact h1.len
  obtain ⟨ds, hd, ⟨z, rfl, ok⟩, q⟩ := h
  refine (?_ : StD K (gS H) _ _ _) _ H (Same.refl H) (DS.start hd)
  exact s_not (evt_oF (evt_nF (evt_test (ev_isi (ev_var rfl) kb_str_str))) (evt_test (ev_ninF rules ok (ev_var rfl) T.u_RULES))) fun σ H1 e1 => q H1 e1
def msteps : List Str := ["begin", "commit", "rollback", "listen", "unlisten", "read", "receive", "disconnect"]
theorem sc_is_mirror_step : FnScope ["thing"] ["thing"] (defScope s_is_mirror_step) := ⟨rfl, rfl, rfl, by decide +kernel, rfl, by decide +kernel, by decide +kernel⟩
theorem ok_is_mirror_step (T : Tx w K mg) : FnN P w K mg base 1 a_is_mirror_step (spD K fun ds r => ∃ z : Str, ds = [.str z] ∧ r = .bool (decide (z ∈ msteps))) := by
  obtain ⟨fd, F⟩ := T.F_is_mirror_step
  refine F.okN rfl sc_is_mirror_step (fun _ _ _ _ _ _ us hl => match us, hl with | [_], _ => rfl) (fun vs H Q h => ?_) (fun A outer s H vs Q hr h => ⟨_, (pss_one (ps_ret (pe_and (pe_callB call_isi (by rfl) T.z_isinstance (by decide +kernel) (pa_cons (pv 0) (pa_cons (pe_ty (n := "str") T.z_str (by decide +kernel)) pa_nil))) (pe_one (pe_cmpR op_in_seq (pv 0) (pe_gr T.g_STEPS) rfl))))), ?_⟩)
  · obtain ⟨ds, r, h1, ⟨_, rfl, _⟩, _⟩ := h
    exact h1.len
  obtain ⟨ds, r, hd, ⟨z, rfl, rfl⟩, q⟩ := h
  refine (?_ : StD K (gS H) _ _ _) _ H (Same.refl H) (DS.start hd)
  exact st_ret (ev_and (b := true) (ev_isi (ev_var rfl) kb_str_str) fun _ => ev_inSK msteps (ev_var rfl) T.u_STEPS) (rt_of q rfl)
end
end KX
set_option maxHeartbeats 4000000
namespace KX
open PySem PySem.Spec PyProof.Rows L2
section
variable {P : Program} {w : World} {K : PySem.W.Frag} {mg : Str → Option Value} {base : Heap}
theorem sc_are_finals : FnScope ["thing", "many", "one", "other"] ["thing", "many"] (defScope s_are_finals) := ⟨rfl, rfl, rfl, by decide +kernel, rfl, by decide +kernel, by decide +kernel⟩
structure FOk (m : Nat) (fs : List Nat) : Prop where
  lt : ∀ i, i < fs.length → fs.getD i 0 < m
  up : ∀ i, i + 1 < fs.length → fs.getD i 0 < fs.getD (i + 1) 0
  six : fs.length ≤ 6
theorem ok_are_finals (T : Tx w K mg) : FnN P w K mg base 2 a_are_finals (spD K fun ds r => ∃ (fs : List Nat) (m : Nat), ds = [fD fs, .int (m : Nat)] ∧ FOk m fs ∧ r = .bool true) := by
  obtain ⟨fd, F⟩ := T.F_are_finals
  refine F.okN rfl sc_are_finals (fun _ _ _ _ _ _ us hl => match us, hl with | [_, _], _ => rfl) (fun vs H Q h => ?_) (fun A outer s H vs Q hr h => ⟨_, (pss_cons (ps_if (PW.pt (pw_or (pt_not (pt_val (pe_callB call_isi (by rfl) T.z_isinstance (by decide +kernel) (pa_cons (pv 0) (pa_cons (pe_ty (n := "tuple") T.z_tuple (by decide +kernel)) pa_nil))))) (pw_or1 (pt_not (pt_val (pe_callB (cr_all (by rfl)) (by rfl) T.z_all (by decide +kernel) (pa_cons (pe_lc (own := [("one", 2)]) (by rfl) sc_are_finals.nd (pi_tup (pv 0)) (blkOk_by (N := ["thing", "many", "one", "other"]) (sc := defScope s_are_finals) (by decide +kernel)) (fun _ _ _ _ _ => by exact (pg_name (i := 2) sc_are_finals.nd rfl (Or.inl rfl))) (fun _ _ _ _ _ => pts_nil) (fun _ _ _ _ _ => (pe_cl (ok_is_between T) (hr.mono (by decide)) T.kp_is_between T.g_is_between (pa_cons (pv 2) (pa_cons pe_int (pa_cons (pe_op op_sub (pv 1) pe_int) pa_nil)))))) pa_nil))))))) (pss_one (ps_ret pe_bl)) pss_nil) (pss_one (ps_ret (pe_callB (cr_all (by rfl)) (by rfl) T.z_all (by decide +kernel) (pa_cons (pe_lc (own := [("one", 2), ("other", 3)]) (g := gTup K 2 (gCons (gName 2) (gCons (gName 3) gNil))) (by rfl) sc_are_finals.nd (RZ.pi_zipA (by rfl) T.z_zip (pa_cons (pv 0) (pa_cons (pe_slice sl_tupA (pv 0) (po_some pe_int) po_none) pa_nil))) (blkOk_by (N := ["thing", "many", "one", "other"]) (sc := defScope s_are_finals) (by decide +kernel)) (fun _ _ _ _ _ => by exact (pg_tup rfl (pgs_cons (pg_name (i := 2) sc_are_finals.nd rfl (Or.inl rfl)) (pgs_cons (pg_name (i := 3) sc_are_finals.nd rfl (Or.inl rfl)) pgs_nil)))) (fun _ _ _ _ _ => pts_nil) (fun _ _ _ _ _ => (pe_cmpR op_lt (pv 2) (pv 3) (nomark _)))) pa_nil))))), ?_⟩)
  · obtain ⟨ds, r, h1, ⟨_, _, rfl, _⟩, _⟩ := h
    exact h1.len
  obtain ⟨ds, r, hd, ⟨fs, m, rfl, ok, rfl⟩, q⟩ := h
  refine (?_ : StD K (gS H) _ _ _) _ H (Same.refl H) (DS.start hd)
  have l1 : (fs.map fun n => ((n : Nat) : Int)).length = fs.length := List.length_map _
  have l2 : ((fs.map fun n => ((n : Nat) : Int)).drop 1).length = fs.length - 1 := by rw [List.length_drop, l1]
  have six := ok.six
  refine q_not (evt_oF (evt_nF (evt_test (ev_isi (ev_var rfl) kb_tup_tup))) (evt_nF (evt_test (ev_allT (n := (fs.map fun n => ((n : Nat) : Int)).length) (b := fun _ => true) (e := fun i => .bool (decide (0 ≤ (fs.map fun n => ((n : Nat) : Int)).getD i 0) && decide ((fs.map fun n => ((n : Nat) : Int)).getD i 0 ≤ (m : Int) - 1))) (evl_lc (evw_tupM (0 : Int) (ev_var rfl)) (fun _ _ => evt_yes) (fun i hi _ => ev_cl (eva_cons (ev_var rfl) (eva_cons ev_int (eva_cons (ev_rI (ev_var rfl) ev_int) eva_nil))) ⟨_, _, _, rfl, rfl⟩) (by omega)) (fun i hi _ => ?_))))) ?_
  · rw [l1] at hi
    have h := ok.lt i hi
    have e : (fs.map fun n => ((n : Nat) : Int)).getD i 0 = ((fs.getD i 0 : Nat) : Int) := by
      rw [List.getD_eq_getElem?_getD, List.getD_eq_getElem?_getD, List.getElem?_map, List.getElem?_eq_getElem hi] <;> rfl
    rw [e, decide_eq_true (by omega), decide_eq_true (by omega)] <;> rfl
  refine st_ret (d := .bool true) (ev_allT (n := fs.length - 1) (b := fun _ => true) (e := fun i => .bool (decide ((fs.map fun n => ((n : Nat) : Int)).getD i 0 < ((fs.map fun n => ((n : Nat) : Int)).drop 1).getD i 0))) (evl_lc2 (f1 := fun i => .int ((fs.map fun n => ((n : Nat) : Int)).getD i 0)) (f2 := fun i => .int (((fs.map fun n => ((n : Nat) : Int)).drop 1).getD i 0)) (evw_zipM (0 : Int) (0 : Int) (by rw [l1, l2]; omega) (eva_cons (ev_var rfl) (eva_cons (ev_to' (ev_slice (lo := some 1) (hi := none) (ev_var rfl) (evo_some ev_int) evo_none) ?_) eva_nil))) (fun _ _ => evt_yes) (fun i hi _ => ev_rB (ev_var rfl) (ev_var rfl)) (by decide) (by omega)) (fun i hi _ => ?_)) (rt_of q rfl)
  · rw [cutD_tail, List.map_drop]
  · have h := ok.up i (by omega)
    have e : (fs.map fun n => ((n : Nat) : Int)).getD i 0 = ((fs.getD i 0 : Nat) : Int) := by
      rw [List.getD_eq_getElem?_getD, List.getD_eq_getElem?_getD, List.getElem?_map, List.getElem?_eq_getElem (show i < fs.length by omega)] <;> rfl
    have e2 : ((fs.map fun n => ((n : Nat) : Int)).drop 1).getD i 0 = ((fs.getD (i + 1) 0 : Nat) : Int) := by
      rw [List.getD_eq_getElem?_getD, List.getD_eq_getElem?_getD, List.getElem?_drop, List.getElem?_map, Nat.add_comm 1 i, List.getElem?_eq_getElem (show i + 1 < fs.length by omega)] <;> rfl
    rw [e, e2, decide_eq_true (by omega)]
theorem sc_are_nodes : FnScope ["thing", "is_step", "node", "edge"] ["thing", "is_step"] (defScope s_are_nodes) := ⟨rfl, rfl, rfl, by decide +kernel, rfl, by decide +kernel, by decide +kernel⟩
theorem ok_are_nodes {α : Type} (T : Tx w K mg) {f : Addr} {Rf : List PyData → PyData → Prop} (S : FnN P w K mg base 3 f (spD K Rf)) (kS : PySem.W.keepIn K (.ref f) = true) (enc : α → PyData) (ok : α → Prop) (dflt : α) (hR : ∀ a, ok a → Rf [enc a] (.bool true)) :
    FnN P w K mg base 4 a_are_nodes (fun vs H Q => ∃ v ns, vs = [v, .ref f] ∧ DT K H v (gD enc ns) ∧ GOk ok ns ∧ ∀ H', Same H H' → Q (.bl true) H') := by
  obtain ⟨fd, F⟩ := T.F_are_nodes
  refine F.okN rfl sc_are_nodes (fun _ _ _ _ _ _ us hl => match us, hl with | [_, _], _ => rfl) (fun vs H Q h => ?_) (fun A outer s H vs Q hr h => ⟨_, (pss_cons (ps_if (PW.pt (pw_or (pt_not (pt_val (pe_callB call_isi (by rfl) T.z_isinstance (by decide +kernel) (pa_cons (pv 0) (pa_cons (pe_ty (n := "tuple") T.z_tuple (by decide +kernel)) pa_nil))))) (pw_or1 (pt_not (pt_chain op_le op_le pe_int (pe_callB call_len (by rfl) T.z_len PySem.boot_len (pa_cons (pv 0) pa_nil)) (pe_ci T.i_MOST_NODES)))))) (pss_one (ps_ret pe_bl)) pss_nil) (pss_cons (ps_for PassesOwn.never rfl (pi_tup (pv 0)) (pg_name (i := 2) sc_are_nodes.nd rfl (Or.inl rfl)) (pss_cons (ps_if (PW.pt (pw_or (pt_not (pt_val (pe_callB call_isi (by rfl) T.z_isinstance (by decide +kernel) (pa_cons (pv 2) (pa_cons (pe_ty (n := "tuple") T.z_tuple (by decide +kernel)) pa_nil))))) (pw_or1 (pt_cmpR op_gt (pe_callB call_len (by rfl) T.z_len PySem.boot_len (pa_cons (pv 2) pa_nil)) (pe_ci T.i_MOST_EDGES) (nomark _))))) (pss_one (ps_ret pe_bl)) pss_nil) (pss_one (ps_for PassesOwn.never rfl (pi_tup (pv 2)) (pg_name (i := 3) sc_are_nodes.nd rfl (Or.inl rfl)) (pss_cons (ps_if (PW.pt (pw_or (pt_not (pt_val (pe_callB call_isi (by rfl) T.z_isinstance (by decide +kernel) (pa_cons (pv 3) (pa_cons (pe_ty (n := "tuple") T.z_tuple (by decide +kernel)) pa_nil))))) (pw_or (pt_cmpR op_ne (pe_callB call_len (by rfl) T.z_len PySem.boot_len (pa_cons (pv 3) pa_nil)) pe_int (nomark _)) (pw_or1 (pt_not (pt_val (ItX.pe_callV (i := 1) (S) (hr.mono (by decide)) kS pass0 rfl (Or.inl rfl) (pa_cons (pe_ix ix_tup (pv 3) pe_int (fun _ _ => rfl)) pa_nil)))))))) (pss_one (ps_ret pe_bl)) pss_nil) (pss_one (ps_if (pt_not (pt_val (pe_cl (ok_is_between T) (hr.mono (by decide)) T.kp_is_between T.g_is_between (pa_cons (pe_ix ix_tup (pv 3) pe_int (fun _ _ => rfl)) (pa_cons pe_int (pa_cons (pe_op op_sub (pe_callB call_len (by rfl) T.z_len PySem.boot_len (pa_cons (pv 0) pa_nil)) pe_int) pa_nil)))))) (pss_one (ps_ret pe_bl)) pss_nil))))))) (pss_one (ps_ret pe_bl)))), ?_⟩)
  · obtain ⟨v, ns, rfl, _⟩ := h
    rfl
  obtain ⟨v, ns, rfl, hd, g, q⟩ := h
  have q2 : ∀ v H', Same H H' → DT K H' v (.bool true) → Q v H' := fun v H' e h => by
    cases h
    exact q H' e
  have s0 : DS K H (start ["thing", "is_step", "node", "edge"] [v, .ref f]) [.d (gD enc ns), .v (.ref f), .no, .no] := .cons (s := .d _) ⟨v, rfl, hd⟩ (.cons (s := .v _) rfl (.cons (s := .no) trivial (.cons (s := .no) trivial .nil)))
  refine (?_ : StD K (gS H) _ _ _) _ H (Same.refl H) s0
  refine q_not (evt_oF (evt_nF (evt_test (ev_isi (ev_var rfl) kb_tup_tup))) (evt_nF (evt_to (evt_test (ev_chain ev_int (ev_len rfl (ev_var rfl)) (ev_int (n := 6)))) ?_))) ?_
  · have h1 := g.one
    have h2 := g.six
    rw [List.length_map, decide_eq_true (by omega), decide_eq_true (by omega)] <;> rfl
  refine q_forW (fun _ => [.d (gD enc ns), .v (.ref f), .no, .no]) (evw_tupM ([] : List (α × Nat)) (ev_var rfl)) ⟨.inr rfl, .inr rfl, .inr rfl, .inr rfl, trivial⟩ (fun G' hG j hj => ?_) (st_ret ev_bl (rt_of q2 rfl))
  have hm : ns.getD j [] ∈ ns := by
    rw [List.getD_eq_getElem?_getD, List.getElem?_eq_getElem hj]
    exact List.getElem_mem hj
  generalize ns.getD j [] = es at hm
  have h3 := g.three es hm
  refine q_not (evt_oF (evt_nF (evt_test (ev_isi (ev_var rfl) kb_tup_tup))) (evt_to (evt_test (ev_rB (ev_len rfl (ev_var rfl)) (ev_int (n := 3)))) ?_)) ?_
  · rw [List.length_map, decide_eq_false (by omega)]
  refine s_forW (fun _ => [.d (gD enc ns), .v (.ref f), .d (.tuple (es.map fun e => .tuple [enc e.1, .int (e.2 : Nat)])), .no]) (evw_tupM ((dflt, 0) : α × Nat) (ev_var rfl)) ⟨.inr rfl, .inr rfl, .inr rfl, .inr rfl, trivial⟩ (fun G2 hG2 i hi => ?_) (st_nxV rfl ⟨.inr rfl, .inr rfl, .inl rfl, .inl rfl, trivial⟩)
  have hm2 : es.getD i (dflt, 0) ∈ es := by
    rw [List.getD_eq_getElem?_getD, List.getElem?_eq_getElem hi]
    exact List.getElem_mem hi
  generalize es.getD i (dflt, 0) = e at hm2
  have hs := g.step es hm e hm2
  have ht := g.there es hm e hm2
  refine q_not (evt_oF (evt_nF (evt_test (ev_isi (ev_var rfl) kb_tup_tup))) (evt_oF (evt_to (evt_test (ev_nei (ev_len rfl (ev_var rfl)) (ev_int (n := 2)))) rfl) (evt_nF (evt_test (ev_cv rfl (eva_cons (ev_ix (ds := [enc e.1, .int (e.2 : Nat)]) (ev_var rfl) ev_int rfl) eva_nil) (hR _ hs)))))) ?_
  refine s_if (b := false) (evt_nF (evt_to (evt_test (ev_cl (eva_cons (ev_ix (ds := [enc e.1, .int (e.2 : Nat)]) (ev_var rfl) ev_int rfl) (eva_cons ev_int (eva_cons (ev_rI (ev_len rfl (ev_var rfl)) ev_int) eva_nil))) ⟨_, _, _, rfl, rfl⟩)) ?_)) (fun z => by cases z) fun _ => st_nxV rfl ⟨.inr rfl, .inr rfl, .inr rfl, .inl rfl, trivial⟩
  rw [List.length_map, decide_eq_true (by omega), decide_eq_true (by omega)] <;> rfl
end
end KX
set_option maxHeartbeats 4000000
namespace KX
open PySem PySem.Spec PyProof.Rows L2 RZ
/-! ### super().__init__(..) -/
/-- what the program's own text is to tell -/
structure PF (P : Program) : Prop where
  file : ((P.main.file : Str) == "/claim/cut.py") = true
  top : (P.main.scope.names.lookup ("super" : Str)).isSome = false
structure PAt (X : Cx) (body : List Stmt) (st : List Stmt) (t : TS) : Prop where
  run : ∀ (pins : List (Addr × Obj)) (s : Shared) (σ : L2.St) (H : Hp) (D : Ends), Inv X pins σ H s → t D σ H → PySem.wpAt (model X.prog X.w) X.A (.func body X.env) (execs st X.env) (SP X pins D) X.xe s
section
variable {X : Cx} {body rest : List Stmt} {st : Stmt} {sts : List Stmt} {t u : TS}
theorem PAt.of (h : PSs X sts t) : PAt X body sts t := ⟨fun pins s σ H D I q => wpAt_of_wpAny (h.run pins s σ H D I q)⟩
theorem pat_cons (h1 : PS X st t) (h2 : PAt X body rest u) : PAt X body (st :: rest) (tSeq t u) := by
  refine ⟨fun pins s σ H D I h => ?_⟩
  refine ks_wpAt_execs_cons (wpAt_of_wpAny (thn (h1.run pins s σ H { D with nx := u D } I h) fun f s1 q => ?_))
  cases f with
  | next =>
    obtain ⟨σ', H', I', q⟩ := q
    exact h2.run pins s1 σ' H' D I' q
  | ret v => exact q
  | brk => exact q
  | cont => exact q
/-- the statement, in its def -/
def tSup (C : Addr) (sp : SpN) (t : TA) : TS := fun D σ H => ∃ x dx fs, σ[0]? = some (some (.ref x)) ∧ H x = some (.ins C dx fs) ∧ t σ H fun vs H1 => sp (.ref x :: vs) H1 fun _ H2 => D.nx σ H2
theorem pat_super {C D g cell code : Addr} {k : Nat} {sp : SpN} {ta : TA} {p0 p1 apos pos spos : Pos} {e : Expr} {es : List Expr} {fd : FuncData} {d : FD} {ar : Arg} {pl : Sem Bool}
    (Z : SupOf X.K C D g cell code) (Pf : PF X.prog) (Fd : FunC X.K d fd) (F : FnN X.prog X.w X.K X.mg X.base k g sp) (hr : Room k X.A)
    (ha : PA X (e :: es) ta) (h2 : PSs X rest u) (hfi : PySem.W.fnIn X.K g = true) (hm : X.mg "super" = none) (hop : PySem.W.nsIn X.K cStatics "thirdparty.any" = some none)
    (hN : X.N[0]? = some ar.arg) (hka : X.env.kindOf ar.arg = some .local) (hcc : X.env.cells.lookup ("__class__" : Str) = some cell) (hg : Gl X "super" := by rfl)
    (hks : X.env.kindOf "super" = some .globalImplicit := by rfl) (hkc : X.env.kindOf "__class__" = some .free := by rfl) (hfu : X.env.func = some d.at_ := by rfl)
    (hp : ((defArgs d.st).posonlyargs ++ (defArgs d.st).args).head? = some ar := by rfl) (hco : X.env.code = .ref code := by rfl)
    (he : starEach (e :: es) X.env = (false, eval e X.env) :: starEach es X.env := by rfl) (hpl : (backTo pos (starEach es X.env)).any (·.1) = false := by rfl)
    (hs : swapsWith (.Call (.Attribute (.Call (.Name "super" p0) [] [] p1) "__init__" apos) (e :: es) [] pos) none spos.line X.env = pure false := by rfl)
    (ht : eval (.Call (.Attribute (.Call (.Name "super" p0) [] [] p1) "__init__" apos) (e :: es) [] pos) X.env = (do
      let ov ← attributeBase (.Call (.Name "super" p0) [] [] p1) "__init__" X.env (eval (.Call (.Name "super" p0) [] [] p1) X.env)
      standAt apos.atName
      let (f, first) ← holding [ov] (getMethod ov "__init__" pl)
      callWith pos f first (backTo pos (starEach (e :: es) X.env)) []) := by rfl) :
    PAt X body (.Expr (.Call (.Attribute (.Call (.Name "super" p0) [] [] p1) "__init__" apos) (e :: es) [] pos) spos :: rest) (tSeq (tSup C sp ta) u) := by
  refine ⟨fun pins s σ H D' I h => ?_⟩
  obtain ⟨x, dx, fs, h0, hx, h⟩ := h
  refine ks_wpAt_execs_cons ?_
  obtain ⟨od, kV, doc, pm, an, ct, osl, rfl, lk, hcd⟩ := Fd.ex
  obtain ⟨cd, hcls⟩ := Z.cls
  obtain ⟨cc, ccd, ccs, hcell⟩ := Z.cell
  obtain ⟨kc, kd, vs, ks, kt, hcode, hvs⟩ := Z.code
  have KI := I.kIn
  obtain ⟨mA, O, _⟩ := ins_get I.hok hx
  obtain ⟨oi, J, _⟩ := O.look
  obtain ⟨oD, hD1, hD2⟩ : ∃ oD, s.heap.get? D = some oD ∧ oD.data = .cls cd := by
    unfold PySem.W.clsIn at hcls
    split at hcls
    · rename_i c d cd' sl ho
      cases hcls
      exact ⟨_, KI _ _ ho, rfl⟩
    · cases hcls
  obtain ⟨m, hn, hl⟩ := I.loc
  obtain ⟨ux, rx, l⟩ := hl 0 ar.arg (.ref x) hN h0 (.inl hka)
  have hmx : m ar.arg = some (.ref x) := by
    rcases l with ⟨_, e2⟩ | ⟨z, _⟩
    · rw [e2]
      exact congrArg some rx
    · rw [hka] at z
      rcases z with z | z <;> cases z
  refine ks_wpAt_Expr_any ?_ I.quiet hs
  refine ks_wpAt_MethodCall (pl := pl) ?_ ht
  obtain ⟨mb, b1, b2⟩ := I.mod.blt
  refine ks_wpAt_super_base hks hkc (by decide) hfu (KI _ _ lk) rfl hp hco (KI _ _ hcode) rfl hvs Pf.file Pf.top ?_
  refine PySem.W.ks_loadName_global I.ok.kind hks (Calls.loadGlobal_builtin (by rw [I.ok.glob]; exact I.mod.glob.keeps I.bk) hm (by rw [I.ok.blt]; exact b1.keeps I.bk) ((b2 "super" (by decide)).trans (by decide +kernel)) ⟨rfl, ?_⟩)
  refine wpAny_loadName_free I.ok.kind hkc hcc ⟨_, KI _ _ hcell, rfl⟩ ?_
  refine wpAny_loadName_local I.ok.kind hka hn hmx ?_
  obtain ⟨hh, gg, dd, tt, os⟩ := s
  refine ks_wpAny_isType_cls hD1 hD2 ⟨rfl, ?_⟩
  refine ks_wpAny_call_super hD1 hD2 J.at_ J.cls (fun c e => ?_) (PySem.W.looks_mroIn KI Z.mro) (fun h' e kk => ?_)
  · have z := J.no
    unfold PySem.W.notCls at z
    rw [e] at z
    exact Bool.noConfusion z
  have I1 : Inv X pins σ H { heap := h', gens := gg, drawn := dd, toks := tt, os := os } := I.kept (t' := tt) kk
  have X1 := I1.kIn
  obtain ⟨oi1, J1, _⟩ : ∃ oi, PySem.W.InstAt h' x _ C (some oi) ∧ True := by
    obtain ⟨mA, O, _⟩ := ins_get I1.hok hx
    obtain ⟨oi, J, _⟩ := O.look
    exact ⟨oi, J, trivial⟩
  have hsup := Z.sup
  cases hcl : PySem.W.clsIn X.K C with
  | none => unfold PySem.W.ks_superIn at hsup; rw [hcl] at hsup; cases hsup
  | some cd2 =>
    unfold PySem.W.ks_superIn at hsup
    rw [hcl] at hsup
    obtain ⟨of, hof, hofc⟩ : ∃ of, h'.get? g = some of ∧ of.cls = .type "function" := by
      have ht' : (X.K.lookup g).map (·.cls) = some (.type "function") := Z.ty
      cases z : X.K.lookup g with
      | none => rw [z] at ht'; cases ht'
      | some of => rw [z] at ht'; exact ⟨of, X1 _ _ z, Option.some.inj ht'⟩
    refine ks_wpAny_getMethod_super e (PySem.W.looks_opaque X1 hop) (l₀ := cd2.mro) ?_ rfl X1 hsup hof hofc (PySem.W.ks_ne X1 J1 hcl) (by decide) ?_
    · exact fun A Q E s k q => wpAny_bind ((PySem.W.looks_clsIn X1 hcl) A _ E s k (wpAny_pure q))
    have I2 : Inv X ((h'.objs.size, PySem.W.methodObj (.ref g) (.ref x)) :: pins) σ H _ := ClX.met_new I1
    refine ClX.callwith_cm I2 (ClX.base_none I1 (Nat.le_refl _)) hfi (thn (ha.run pos _ _ σ H _ I2 h) fun us s3 ⟨vs, H2, I3, rv, q2⟩ => ⟨⟨ClX.pin_at I3, I3.kIn⟩, ?_⟩) he hpl
    refine thn (ClX.run_cm (E := E0) F hr pass0 I3 rv q2) fun u2 s4 ⟨v, H4, I4, _, q4⟩ => ?_
    exact wpAt_of_wpAny (h2.run pins s4 σ H4 D' I4 q4)
end
/-! ### a def with the cell __class__ -/
abbrev FD.nf (d : FD) : NdefX.NF := ⟨d.name, d.qual, defArgs d.st, defBody d.st, defScope d.st, d.clo, d.code⟩
abbrev scx (P : Program) (w : World) (K : PySem.W.Frag) (mg : Str → Option Value) (base : Heap) (N : List Str) (d : FD) (A : Around) (outer : List Env) (s : Shared) (H : Hp) : Cx := (NdefX.ncx CX0 P w K mg base N d.nf d.at_ A outer s H E0).nox
theorem FunC.okS {P : Program} {w : World} {K : PySem.W.Frag} {mg : Str → Option Value} {base : Heap} {k : Nat} {sp : SpN} {d : FD} {fd : FuncData} {N ps : List Str} {cell : Addr} {cv : Option Value} (F : FunC K d fd) (hc : d.clo = [(("__class__" : Str), cell)])
    (hcell : ∃ c dd sl, K.lookup cell = some ⟨c, dd, .cell cv, sl⟩) (S : NdefX.NScope N ps ["__class__"] (defScope d.st))
    (hb : ∀ (kV doc pm : Value) (an : Option Addr) (cdv ct : Value) (us : List Value), us.length = ps.length → bindArgs (PySem.W.fnX d.name d.qual (defArgs d.st) (defBody d.st) (defScope d.st) d.clo .none kV doc pm an cdv ct) ⟨us, []⟩ = pure (ps.zip us))
    (len : ∀ vs H Q, sp vs H Q → vs.length = ps.length)
    (hbody : ∀ (A : Around) (outer : List Env) (s : Shared) (H : Hp) (vs : List V) (Q : VK), Room k (A.deeper (NdefX.envF d.nf d.at_ s.heap.objs.size)) → sp vs H Q →
      ∃ t, PAt (scx P w K mg base N d A outer s H) (defBody d.st) (defBody d.st) t ∧ t { nx := fun _ H' => Q .non H', rt := Q } (NdefX.startF N vs [none]) H) : FnN P w K mg base (k + 1) d.at_ sp := by
  obtain ⟨od, kV, doc, pm, an, ct, osl, rfl, lk, hcd⟩ := F.ex
  intro A outer s H us vs Q E hr e0 r hsp
  have hl := len _ _ _ hsp
  have KI : K.In s.heap := e0.mod.kin.keeps fun b o e => (e0.bs b o e).1
  have lim : s.heap.NoLimit := e0.mod.nolimit.keeps fun b o e => (e0.bs b o e).1
  obtain ⟨cc, cdd, csl, hcl⟩ := hcell
  have hul : us.length = ps.length := by rw [← r.length]; exact hl
  refine ks_codeAny_call_defAt (binds := ps.zip us) (body := defBody d.st) hr.depth (KI _ _ lk) rfl lim (PySem.W.codeRec_of KI hcd) rfl (fun _ _ _ _ h => by rw [hb _ _ _ _ _ _ _ hul]; exact wpAny_pure h) S.nocell (fun ⟨n, _⟩ hy => S.par n (List.of_mem_zip hy).1) (fun h₁ hns kp => ?_) S.co S.gen S.kind
  have C : NdefX.CellsAt d.nf.cl ["__class__"] [none] s.heap H := by
    have e0c : d.nf.cl = [(("__class__" : Str), cell)] := hc
    rw [e0c]
    have hcb : H cell = none := (e0.bs _ _ (e0.mod.kin _ _ hcl)).2
    refine ⟨rfl, fun y c h => ?_, fun x y c h1 h2 => ?_, fun i y h => ?_⟩
    · have q := PySem.mem_of_lookup h
      simp only [List.mem_singleton, Prod.mk.injEq] at q
      rw [q.2]
      exact ⟨hcb, cv, _, KI _ _ hcl, rfl⟩
    · have q1 := PySem.mem_of_lookup h1
      have q2 := PySem.mem_of_lookup h2
      simp only [List.mem_singleton, Prod.mk.injEq] at q1 q2
      rw [q1.1, q2.1]
    · cases i with
      | zero =>
        have e : y = ("__class__" : Str) := by simpa using h.symm
        subst e
        exact ⟨cell, rfl, fun v z => by simp at z⟩
      | succ i => simp at h
  obtain ⟨t, ht, hq⟩ := hbody A outer s H vs Q (hr.deeper _) hsp
  have I : Inv (NdefX.ncx CX0 P w K mg base N d.nf d.at_ A outer s H E0) [] (NdefX.startF N vs [none]) H { s with heap := h₁, toks := s.toks + (ps.zip us).length } := NdefX.inv_startN S hr.hd e0 hl r C hns kp
  refine ks_wpAt_mono (ht.run [] _ _ H _ (I.wish _) hq) (fun fl s' hs => ?_) fun e s' z => False.elim z
  have fin : ∀ {σ' : L2.St} {H' : Hp} {v : V} {u : Value}, Inv (scx P w K mg base N d A outer s H) [] σ' H' s' → L2.RelV v u → Q v H' → CE outer P w H s Q u s' :=
    fun {σ' H' v u} J rv q => ⟨v, H', J.os, J.bare, J.base, J.hok, rv, q⟩
  cases fl with
  | ret u =>
    obtain ⟨v, σ', H', J, rv, q⟩ := hs
    exact fin J rv q
  | next =>
    obtain ⟨σ', H', J, q⟩ := hs
    exact fin (v := V.non) (u := Value.none) J rfl q
  | brk =>
    obtain ⟨_, _, _, q⟩ := hs
    exact False.elim q
  | cont =>
    obtain ⟨_, _, _, q⟩ := hs
    exact False.elim q
end KX
set_option maxHeartbeats 4000000
namespace KX
open PySem PySem.Spec PyProof.Rows L2 RZ
theorem getD_mem' {α : Type} {l : List α} {i : Nat} (d : α) (h : i < l.length) : l.getD i d ∈ l := by
  rw [List.getD_eq_getElem?_getD, List.getElem?_eq_getElem h]
  exact List.getElem_mem h
theorem atI_map {α β : Type} {l : List α} {h : α → β} {i : Nat} (d : α) (hi : i < l.length) : atI (l.map h) ((i : Nat) : Int) = some (h (l.getD i d)) := by
  refine atI_nat ?_
  rw [List.getElem?_map, List.getD_eq_getElem?_getD, List.getElem?_eq_getElem hi] <;> rfl
theorem atI_mapI {α β : Type} {l : List α} {h : α → β} {i : Int} (d : α) (h0 : 0 ≤ i) (hi : i < (l.length : Int)) : atI (l.map h) i = some (h (l.getD i.toNat d)) := by
  have e : i = ((i.toNat : Nat) : Int) := (Int.toNat_of_nonneg h0).symm
  conv => lhs; rw [e]
  exact atI_map d (by omega)
/-! ### a list of one's own -/
def Gm.and (G : Gm) (g : Hp → Prop) (kp : ∀ H H', g H → Same H H' → g H') : Gm := ⟨fun H => G.p H ∧ g H, fun H H' p e => ⟨G.mono _ _ p.1 e, kp _ _ p.2 e⟩⟩
/-- at L a list of such data -/
def LsAt (K : PySem.W.Frag) (L : Addr) (ds : List PyData) (H : Hp) : Prop := ∃ vs, H L = some (.lst vs) ∧ DTs K H vs ds
theorem LsAt.mono {K : PySem.W.Frag} {L : Addr} {ds : List PyData} {H H' : Hp} (h : LsAt K L ds H) (e : Same H H') : LsAt K L ds H' := by
  obtain ⟨vs, h1, h2⟩ := h
  exact ⟨vs, e _ _ h1, h2.mono e.tp⟩
def gL (K : PySem.W.Frag) (H : Hp) (L : Addr) (ds : List PyData) : Gm := (gS H).and (LsAt K L ds) fun _ _ => LsAt.mono
section
variable {K : PySem.W.Frag} {G G2 : Gm} {ss ss2 : List SV} {te : TE} {ts us : TS} {D : Ends} {d : PyData} {ds : List PyData} {i n : Nat} {wi : TI} {f : Nat → PyData} {L : Addr} {H0 : Hp}
theorem q_forG (sl : Nat → List SV) (Gj : Nat → Gm) (hw : EvW K G wi ss n f) (h0 : Wk ss (sl 0)) (hG : ∀ H, G.p H → (Gj 0).p H)
    (hs : ∀ (Gh : Hp → Prop) (kp : ∀ H H', Gh H → Tp K H H' → Gh H') (j : Nat), j < n → StD K ((Gj j).and Gh fun H H' p e => kp H H' p e.tp) ts { D with nx := Tn K ((Gj (j + 1)).and Gh fun H H' p e => kp H H' p e.tp) (sl (j + 1)), ct := Tn K ((Gj (j + 1)).and Gh fun H H' p e => kp H H' p e.tp) (sl (j + 1)), bk := us D } ((sl j).set i (.d (f j))))
    (k : StD K (Gj n) us D (sl n)) : StD K G (tSeq (tFor wi (gName i) ts) us) D ss := fun σ H g s => by
  refine hw σ H g s _ fun J H1 Gh e1 gh w => ?_
  refine for_it (D := { D with nx := us D }) w.walk (fun j σ' H' => Tn K ((Gj j).and Gh fun H H' p e => w.keep H H' p e.tp) (sl j) σ' H') ⟨⟨hG _ (G.mono _ _ g e1), gh⟩, h0.ds (s.mono e1.tp)⟩ (fun j σ' H' _ p => p.1.2) (fun j x σ' H2 H3 hj p y => ?_) fun σ' H' p => k σ' H' p.1.1 p.2
  obtain ⟨s23, dx⟩ := y
  exact hs Gh w.keep j hj _ H3 (((Gj j).and Gh fun H H' p e => w.keep H H' p e.tp).mono _ _ p.1 s23) ((p.2.mono s23.tp).set (i := i) (s := .d (f j)) ⟨x, rfl, dx⟩)
theorem q_app (h : EvD K G te ss d) (hi : ss[i]? = some (.v (.ref L))) (hl : ∀ H, G.p H → LsAt K L ds H) (hn : ds.length ≤ 1000)
    (hw : ∀ H vs v, G.p H → H L = some (.lst vs) → DTs K (upd H L (.lst (vs ++ [v]))) (vs ++ [v]) (ds ++ [d]) → G2.p (upd H L (.lst (vs ++ [v])))) (k : StD K G2 us D ss) : StD K G (tSeq (tDrop (tBM K "list" rAppend (tVar i) (tCons te tNil))) us) D ss := fun σ H g s => by
  obtain ⟨vs0, hv0, t0⟩ := hl H g
  refine ⟨.ref L, s.v hi, .inl ⟨rfl, _, SqL.of hv0⟩, h σ H g s _ fun v H1 e1 a => ?_⟩
  have g1 := G.mono _ _ g e1
  have hv1 := e1 _ _ hv0
  have tu : Tp K H1 (upd H1 L (.lst (vs0 ++ [v]))) := Tp.upd hv1 rfl
  refine ⟨L, vs0, v, rfl, rfl, hv1, small1000 (by rw [t0.len]; exact hn), ?_⟩
  exact k σ _ (hw H1 vs0 v g1 hv1 (((t0.mono e1.tp).append (DTs.one a)).mono tu)) ((s.mono e1.tp).mono tu)
theorem s_app (h : EvD K G te ss d) (hi : ss[i]? = some (.v (.ref L))) (hl : ∀ H, G.p H → LsAt K L ds H) (hn : ds.length ≤ 1000)
    (hw : ∀ H vs v, G.p H → H L = some (.lst vs) → DTs K (upd H L (.lst (vs ++ [v]))) (vs ++ [v]) (ds ++ [d]) → G2.p (upd H L (.lst (vs ++ [v])))) (k : StD K G2 tNext D ss) : StD K G (tDrop (tBM K "list" rAppend (tVar i) (tCons te tNil))) D ss := q_app (us := tNext) h hi hl hn hw k
/-- tuple(that list) -/
theorem ev_tupV {r : List V → Hp → VK → Prop} (hr : r = fun xs H Q => ∃ p ys, xs = [.ref p] ∧ ((SqL K H p ys ∧ ∀ l, H l = none → Q (.ref l) (upd H l (.tup ys))) ∨ (SqT K H p ys ∧ Q (.ref p) H))) (hi : ss[i]? = some (.v (.ref L))) (hl : ∀ H, G.p H → LsAt K L ds H) : EvD K G (tCB r (tCons (tVar i) tNil)) ss (.tuple ds) := fun σ H g s Q q => by
  subst hr
  obtain ⟨vs, hv, t⟩ := hl H g
  exact ⟨.ref L, s.v hi, L, vs, rfl, .inl ⟨SqL.of hv, fun l hz => q _ _ (Same.new hz) (.tup upd_same (t.mono (Same.new hz).tp))⟩⟩
/-- a new list, named -/
theorem q_list (k : ∀ H1 L, G.p H1 → H1 L = none → StD K (gL K H1 L []) us D (ss.set i (.v (.ref L)))) : StD K G (tSeq (tAsg (tLst tNil) (gName i)) us) D ss := fun σ H g s => by
  refine ⟨Nat.le_of_ble_eq_true rfl, fun L hL => ?_⟩
  refine k H L g hL _ _ ⟨Same.new hL, [], upd_same, .nil⟩ ((s.mono (Same.new hL).tp).set (s := .v (.ref L)) rfl)
end
end KX
namespace KX
open PySem PySem.Spec PyProof.Rows L2 RZ
/-! ### targets -/
def TgD (K : PySem.W.Frag) (g : TG) (ss : List SV) (d : PyData) (ss' : List SV) : Prop := ∀ v σ H (Q : L2.St → Hp → Prop), DS K H σ ss → DT K H v d → (∀ σ', DS K H σ' ss' → Q σ' H) → g v σ H Q
def TgDs (K : PySem.W.Frag) (g : TGs) (ss : List SV) (ds : List PyData) (ss' : List SV) : Prop := ∀ vs σ H (Q : L2.St → Hp → Prop), DS K H σ ss → DTs K H vs ds → (∀ σ', DS K H σ' ss' → Q σ' H) → g vs σ H Q
section
variable {K : PySem.W.Frag} {G G2 : Gm} {ss ss1 ss2 : List SV} {g : TG} {gs : TGs} {te : TE} {tA : TA} {ts us : TS} {D : Ends} {d : PyData} {ds es : List PyData} {i n : Nat} {wi : TI} {f : Nat → PyData} {L : Addr} {H0 : Hp}
theorem tg_name : TgD K (gName i) ss d (ss.set i (.d d)) := fun v σ H Q s t q => q _ (s.set (s := .d d) ⟨v, rfl, t⟩)
theorem tg_tup (h : TgDs K gs ss ds ss1) (hn : ds.length = n) : TgD K (gTup K n gs) ss (.tuple ds) ss1 := fun v σ H Q s t q => by
  cases t with
  | tup sq ts => exact ⟨_, _, rfl, SqT.of sq, by rw [ts.len]; exact hn, h _ σ H Q s ts q⟩
theorem tgs_nil : TgDs K gNil ss [] ss := fun vs σ H Q s t q => by
  cases t
  exact ⟨rfl, q σ s⟩
theorem tgs_cons (h : TgD K g ss d ss1) (h2 : TgDs K gs ss1 ds ss2) : TgDs K (gCons g gs) ss (d :: ds) ss2 := fun vs σ H Q s t q => by
  cases t with
  | cons a b => exact ⟨_, _, rfl, h _ σ H _ s a fun σ' s' => h2 _ σ' H Q s' b q⟩
theorem q_forX (sl sm : Nat → List SV) (Gj : Nat → Gm) (hw : EvW K G wi ss n f) (tg : ∀ j, j < n → TgD K g (sl j) (f j) (sm j)) (h0 : Wk ss (sl 0)) (hG : ∀ H, G.p H → (Gj 0).p H)
    (hs : ∀ (Gh : Hp → Prop) (kp : ∀ H H', Gh H → Tp K H H' → Gh H') (j : Nat), j < n → StD K ((Gj j).and Gh fun H H' p e => kp H H' p e.tp) ts { D with nx := Tn K ((Gj (j + 1)).and Gh fun H H' p e => kp H H' p e.tp) (sl (j + 1)), ct := Tn K ((Gj (j + 1)).and Gh fun H H' p e => kp H H' p e.tp) (sl (j + 1)), bk := us D } (sm j))
    (k : StD K (Gj n) us D (sl n)) : StD K G (tSeq (tFor wi g ts) us) D ss := fun σ H gg s => by
  refine hw σ H gg s _ fun J H1 Gh e1 gh w => ?_
  refine for_it (D := { D with nx := us D }) w.walk (fun j σ' H' => Tn K ((Gj j).and Gh fun H H' p e => w.keep H H' p e.tp) (sl j) σ' H') ⟨⟨hG _ (G.mono _ _ gg e1), gh⟩, h0.ds (s.mono e1.tp)⟩ (fun j σ' H' _ p => p.1.2) (fun j x σ' H2 H3 hj p y => ?_) fun σ' H' p => k σ' H' p.1.1 p.2
  obtain ⟨s23, dx⟩ := y
  exact tg j hj x σ' H3 _ (p.2.mono s23.tp) dx fun σ2 s2 => hs Gh w.keep j hj _ H3 (((Gj j).and Gh fun H H' p e => w.keep H H' p e.tp).mono _ _ p.1 s23) s2
theorem eva_star (h : EvD K G te ss (.tuple ds)) (hr : EvA K G tA ss es) : EvA K G (StX.tStar K te tA) ss (ds ++ es) := fun σ H gg s Q q =>
  h σ H gg s _ fun v H1 e1 a => by
    cases a with
    | tup sq ts => exact ⟨_, _, rfl, .inl (SqT.of sq), hr σ H1 (G.mono _ _ gg e1) (s.mono e1.tp) _ fun vs H2 e2 b => q _ H2 (e1.trans e2) ((ts.mono e2.tp).append b)⟩
theorem eva_starE {r : List PyData} (h : EvD K G te ss (.tuple ds)) (hr : EvA K G tA ss es) (e : r = ds ++ es) : EvA K G (StX.tStar K te tA) ss r := e ▸ eva_star h hr
theorem evv_fld {ta : TE} {a : Addr} {f : Str} {x : V} (h : EvV K G ta ss (.ref a)) (hi : ∀ H, G.p H → ∃ C dx fs, H a = some (.ins C dx fs) ∧ Cls K C ∧ NoAttr K C f ∧ fs.lookup f = some x) : EvV K G (tFld K ta f) ss x := fun σ H g s Q q =>
  h σ H g s _ fun H1 e1 => by
    obtain ⟨C, dx, fs, h1, c, n, l⟩ := hi H1 (G.mono _ _ g e1)
    exact ⟨a, C, dx, fs, x, rfl, h1, c, n, l, q H1 e1⟩
/-- a new list of one, named -/
theorem q_list1 (h : EvD K G te ss d) (k : ∀ H1 L, G.p H1 → H1 L = none → StD K (gL K H1 L [d]) us D (ss.set i (.v (.ref L)))) : StD K G (tSeq (tAsg (tLst (tCons te tNil)) (gName i)) us) D ss := fun σ H g s =>
  h σ H g s _ fun v H1 e1 a => by
    refine ⟨Nat.le_of_ble_eq_true rfl, fun L hL => ?_⟩
    exact k H1 L (G.mono _ _ g e1) hL _ _ ⟨Same.new hL, [v], upd_same, DTs.one (a.mono (Same.new hL).tp)⟩ (((s.mono e1.tp).mono (Same.new hL).tp).set (s := .v (.ref L)) rfl)
/-- return that list -/
theorem s_retL (hi : ss[i]? = some (.v (.ref L))) (k : ∀ H, G.p H → D.rt (.ref L) H) : StD K G (tRet (tVar i)) D ss := fun σ H g s => ⟨.ref L, s.v hi, k H g⟩
end
end KX
namespace KX
open PySem PySem.Spec PyProof.Rows L2 RZ
theorem whileR {c : TT} {tb us : TS} {D : Ends} {σ : L2.St} {H : Hp} (Pv : L2.St → Hp → Prop) (μ : L2.St → Nat) (h0 : Pv σ H)
    (hs : ∀ σ H, Pv σ H → ∃ b, (∀ Q : Bool → Hp → Prop, (∀ H', Same H H' → Q b H') → c σ H Q) ∧ (b = true → ∀ H', Same H H' → tb { D with nx := fun σ' H' => Pv σ' H' ∧ μ σ' < μ σ, ct := fun σ' H' => Pv σ' H' ∧ μ σ' < μ σ, bk := us D } σ H') ∧ (b = false → ∀ H', Same H H' → us D σ H')) : tSeq (tWhile c tb) us D σ H := by
  refine ⟨fun m σ H => m = μ σ ∧ Pv σ H, ⟨_, rfl, h0⟩, ?_⟩
  rintro m σ H ⟨rfl, p⟩
  obtain ⟨b, h1, h2, h3⟩ := hs σ H p
  refine h1 _ fun H' e => ?_
  cases b with
  | true => exact iteT ⟨_, fun σ' H' ⟨p', l⟩ => ⟨_, l, rfl, p'⟩, h2 rfl H' e⟩
  | false => exact iteF (h3 rfl H' e)
section
variable {K : PySem.W.Frag} {G : Gm} {ss : List SV} {d : PyData} {ds : List PyData} {i : Nat} {L : Addr}
theorem ev_lenL {r : List V → Hp → VK → Prop} (hr : r = fun xs H Q => ∃ p ys, xs = [.ref p] ∧ (SqL K H p ys ∨ SqT K H p ys) ∧ Q (.int ys.length) H) (hi : ss[i]? = some (.v (.ref L))) (hl : ∀ H, G.p H → LsAt K L ds H) : EvD K G (tCB r (tCons (tVar i) tNil)) ss (.int ds.length) := fun σ H g s Q q => by
  subst hr
  obtain ⟨vs, hv, t⟩ := hl H g
  exact ⟨.ref L, s.v hi, L, vs, rfl, .inl (SqL.of hv), by rw [t.len]; exact q _ H (Same.refl H) (.int _)⟩
theorem ev_ixL {te : TE} {n : Int} (hi : ss[i]? = some (.v (.ref L))) (hl : ∀ H, G.p H → LsAt K L ds H) (h : EvD K G te ss (.int n)) (e : atI ds n = some d) : EvD K G (tOp (rIxL K) (tVar i) te) ss d := fun σ H g s Q q => by
  refine ⟨.ref L, s.v hi, h σ H g s _ fun v H1 e1 a => ?_⟩
  cases a
  obtain ⟨vs, hv, t⟩ := hl H1 (G.mono _ _ g e1)
  obtain ⟨v, h3, h4⟩ := t.at e
  exact ⟨L, vs, n, v, rfl, rfl, SqL.of hv, h3, q v H1 e1 h4⟩
end
end KX
theorem KX.StD.go {K : PySem.W.Frag} {G : KX.Gm} {ts : L2.TS} {D : L2.Ends} {ss : List KX.SV} {σ : L2.St} {H : L2.Hp} (h : KX.StD K G ts D ss) (g : G.p H) (s : KX.DS K H σ ss) : ts D σ H := h σ H g s

namespace KX
open PySem PySem.Spec PyProof.Rows L2 RZ
theorem DS.d1 {K : PySem.W.Frag} {H : Hp} {σ : L2.St} {ss : List SV} (h : DS K H σ ss) {i : Nat} {d : PyData} {a : V} (e : ss[i]? = some (.d d)) (f : sV d = some a := by rfl) : σ[i]? = some (some a) := by
  obtain ⟨v, h1, h2⟩ := h.d e
  rw [h1, h2.flat f]
end KX
theorem KX.DS.wk {K : PySem.W.Frag} {H : L2.Hp} {σ : L2.St} {ss ss' : List KX.SV} (s : KX.DS K H σ ss) (w : KX.Wk ss ss') : KX.DS K H σ ss' := w.ds s
set_option maxHeartbeats 4000000
namespace KX
open PySem PySem.Spec PyProof.Rows L2 RZ
/-! ### a pen: three ints in a list, drawn from -/
def PenAt (H : Hp) (p : Addr) : Prop := ∃ a b c : Int, H p = some (.lst [.int a, .int b, .int c])
theorem PenAt.mono {H H' : Hp} {p : Addr} (h : PenAt H p) (e : Same H H') : PenAt H' p := by
  obtain ⟨a, b, c, h⟩ := h
  exact ⟨a, b, c, e _ _ h⟩
abbrev FrP (p : Addr) (H H' : Hp) : Prop := Fr (· = p) H H'
theorem _root_.L2.Same.frP {H H' : Hp} {p : Addr} (e : Same H H') : FrP p H H' := fun b o h _ => e b o h
theorem FrP.refl {p : Addr} {H : Hp} : FrP p H H := fun _ _ h _ => h
theorem FrP.trans {p : Addr} {H H1 H2 : Hp} (a : FrP p H H1) (b : FrP p H1 H2) : FrP p H H2 := fun c o h n => b c o (a c o h n) n
theorem FrP.tp {K : PySem.W.Frag} {p : Addr} {H H' : Hp} (e : FrP p H H') (h : PenAt H p) : Tp K H H' := fun a xs s => e a _ s fun z => by
  obtain ⟨_, _, _, h⟩ := h
  rw [z, h] at s
  cases s
theorem FrP.free {p : Addr} {H H' : Hp} {a : Addr} (e : FrP p H H') (h : H' a = none) (hp : PenAt H' p) : H a = none := by
  cases q : H a with
  | none => rfl
  | some o =>
    obtain ⟨_, _, _, hp⟩ := hp
    have n : a ≠ p := fun z => by rw [z, hp] at h; cases h
    rw [e a o q n] at h
    cases h
structure Gn (p : Addr) where
  q : Hp → Prop
  mono : ∀ H H', q H → PenAt H p → FrP p H H' → q H'
def gN {p : Addr} (g : Gn p) : Gm := ⟨fun H => g.q H ∧ PenAt H p, fun H H' h e => ⟨g.mono H H' h.1 h.2 e.frP, h.2.mono e⟩⟩
/-- all but the pen as it was in H -/
def nS (H : Hp) (p : Addr) : Gn p := ⟨FrP p H, fun _ _ a _ b => FrP.trans a b⟩
def gT : Gm := ⟨fun _ => True, fun _ _ _ _ => trivial⟩
def EvN (K : PySem.W.Frag) (p : Addr) (te : TE) (ss : List SV) (R : PyData → Prop) : Prop := ∀ σ H, PenAt H p → DS K H σ ss → ∀ Q : VK, (∀ v d H', FrP p H H' → PenAt H' p → R d → DT K H' v d → Q v H') → te σ H Q
def EvNA (K : PySem.W.Frag) (p : Addr) (ta : TA) (ss : List SV) (R : List PyData → Prop) : Prop := ∀ σ H, PenAt H p → DS K H σ ss → ∀ Q : List V → Hp → Prop, (∀ vs ds H', FrP p H H' → PenAt H' p → R ds → DTs K H' vs ds → Q vs H') → ta σ H Q
/-- a new list -/
def EvNL (K : PySem.W.Frag) (p : Addr) (te : TE) (ss : List SV) (R : List PyData → Prop) : Prop := ∀ σ H, PenAt H p → DS K H σ ss → ∀ Q : VK, (∀ L vs ds H', FrP p H H' → PenAt H' p → H L = none → H' L = some (.lst vs) → DTs K H' vs ds → R ds → Q (.ref L) H') → te σ H Q
/-- the promise of a def that draws -/
def spP (K : PySem.W.Frag) (Pre : List PyData → Prop) (R : List PyData → PyData → Prop) : SpN := fun vs H Q => ∃ p vs' ds, vs = .ref p :: vs' ∧ PenAt H p ∧ DTs K H vs' ds ∧ Pre ds ∧ ∀ v d H', FrP p H H' → PenAt H' p → R ds d → DT K H' v d → Q v H'
section
variable {K : PySem.W.Frag} {p : Addr} {g : Gn p} {G : Gm} {ss : List SV} {ta tb te : TE} {t u : TT} {tA : TA} {x y d : PyData} {i n : Nat} {ts us rs : TS} {D : Ends} {R : PyData → Prop} {RA : List PyData → Prop} {A B : Int → Prop}
theorem evn_of (h : EvD K gT te ss d) : EvN K p te ss (· = d) := fun σ H hp s Q q => h σ H trivial s _ fun v H1 e a => q v d H1 e.frP (hp.mono e) rfl a
theorem EvN.imp {R' : PyData → Prop} (h : EvN K p te ss R) (e : ∀ d, R d → R' d) : EvN K p te ss R' := fun σ H hp s Q q => h σ H hp s _ fun v d H1 e1 p1 r a => q v d H1 e1 p1 (e d r) a
theorem evn_int {k : Int} (h : EvD K gT te ss (.int k)) : EvN K p te ss (fun d => ∃ i, d = .int i ∧ i = k) := (evn_of h).imp fun d e => ⟨k, e, rfl⟩
theorem evna_nil : EvNA K p tNil ss (· = []) := fun σ H hp s Q q => q [] [] H FrP.refl hp rfl .nil
theorem evna_cons (h : EvN K p te ss R) (h2 : EvNA K p tA ss RA) : EvNA K p (tCons te tA) ss (fun ds => ∃ d ds', ds = d :: ds' ∧ R d ∧ RA ds') := fun σ H hp s Q q =>
  h σ H hp s _ fun v d H1 e1 p1 r a => h2 σ H1 p1 (s.mono (e1.tp hp)) _ fun vs ds H2 e2 p2 r2 b => q (v :: vs) (d :: ds) H2 (e1.trans e2) p2 ⟨d, ds, rfl, r, r2⟩ (.cons (a.mono (e2.tp p1)) b)
theorem evn_tup (h : EvNA K p tA ss RA) (hl : ∀ ds, RA ds → ds.length ≤ 1000) : EvN K p (tTup tA) ss (fun d => ∃ ds, d = .tuple ds ∧ RA ds) := fun σ H hp s Q q =>
  h σ H hp s _ fun vs ds H1 e1 p1 r a => ⟨Nat.le_of_lt (small1000 (by rw [a.len]; exact hl ds r)), fun b hb => q (.ref b) _ _ (e1.trans (Same.new hb).frP) (p1.mono (Same.new hb)) ⟨ds, rfl, r⟩ (.tup upd_same (a.mono (Same.new hb).tp))⟩
theorem evn_rI {f : Int → Int → Int} (h1 : EvN K p ta ss (fun d => ∃ i, d = .int i ∧ A i)) (h2 : EvN K p tb ss (fun d => ∃ i, d = .int i ∧ B i)) : EvN K p (tOp (rI0 fun i j => .int (f i j)) ta tb) ss (fun d => ∃ i, d = .int i ∧ ∃ a b, A a ∧ B b ∧ i = f a b) := fun σ H hp s Q q =>
  h1 σ H hp s _ fun v d H1 e1 p1 ⟨i, ei, ai⟩ a1 => h2 σ H1 p1 (s.mono (e1.tp hp)) _ fun w d2 H2 e2 p2 ⟨j, ej, bj⟩ a2 => by
    subst ei ej
    cases a1
    cases a2
    exact ⟨_, _, rfl, rfl, q _ _ H2 (e1.trans e2) p2 ⟨_, rfl, i, j, ai, bj, rfl⟩ (.int _)⟩
theorem evn_ix {ds : List PyData} (h1 : EvD K gT ta ss (.tuple ds)) (h2 : EvN K p tb ss (fun d => ∃ i, d = .int i ∧ A i)) (hA : ∀ i, A i → ∃ x, atI ds i = some x ∧ R x) : EvN K p (tOp (rIxT K) ta tb) ss R := fun σ H hp s Q q =>
  h1 σ H trivial s _ fun v H1 e1 a1 => h2 σ H1 (hp.mono e1) (s.mono e1.tp) _ fun w d2 H2 e2 p2 ⟨j, ej, aj⟩ a2 => by
    subst ej
    cases a2
    obtain ⟨x, hx, rx⟩ := hA j aj
    cases a1 with
    | tup sq ts =>
      have tp := e2.tp (K := K) (hp.mono e1)
      obtain ⟨v, h3, h4⟩ := (ts.mono tp).at hx
      exact ⟨_, _, _, _, rfl, rfl, SqT.of (tp _ _ sq), h3, q v x H2 (e1.frP.trans e2) p2 rx h4⟩
/-- a call of a def that draws -/
theorem evn_pen {Pre : List PyData → Prop} {R : List PyData → PyData → Prop} (hi : ss[i]? = some (.v (.ref p))) (h : EvNA K p tA ss RA) (pre : ∀ ds, RA ds → Pre ds) : EvN K p (tCl (spP K Pre R) (tCons (tVar i) tA)) ss (fun d => ∃ ds, RA ds ∧ R ds d) := fun σ H hp s Q q => by
  refine ⟨.ref p, s.v hi, h σ H hp s _ fun vs ds H1 e1 p1 r a => ?_⟩
  exact ⟨p, vs, ds, rfl, p1, a, pre ds r, fun v d H2 e2 p2 r2 b => q v d H2 (e1.trans e2) p2 ⟨ds, r, r2⟩ b⟩
theorem q_setN (h : EvN K p te ss R) (k : ∀ d, R d → StD K (gN g) us D (ss.set i (.d d))) : StD K (gN g) (tSeq (tAsg te (gName i)) us) D ss := fun σ H gp s =>
  h σ H gp.2 s _ fun v d H1 e1 p1 r a => k d r _ H1 ⟨g.mono _ _ gp.1 gp.2 e1, p1⟩ ((s.mono (e1.tp gp.2)).set ⟨v, rfl, a⟩)
theorem s_setN (h : EvN K p te ss R) (k : ∀ d, R d → StD K (gN g) tNext D (ss.set i (.d d))) : StD K (gN g) (tAsg te (gName i)) D ss := q_setN (us := tNext) h k
theorem st_retN (h : EvN K p te ss R) (r : ∀ d, R d → RtD K (gN g) D d) : StD K (gN g) (tRet te) D ss := fun σ H gp s =>
  h σ H gp.2 s _ fun v d H1 e1 p1 rd a => r d rd v H1 ⟨g.mono _ _ gp.1 gp.2 e1, p1⟩ a
theorem rt_N {H : Hp} {Q : VK} {nx : L2.St → Hp → Prop} {R : PyData → Prop} (q : ∀ v d H', FrP p H H' → PenAt H' p → R d → DT K H' v d → Q v H') (e : R d) : RtD K (gN (nS H p)) { nx := nx, rt := Q } d := fun v H' g a => q v d H' g.1 g.2 e a
theorem DTs.set {H : Hp} : ∀ {xs : List V} {ds : List PyData} {v : V} {d : PyData} (j : Nat), DTs K H xs ds → DT K H v d → DTs K H (xs.set j v) (ds.set j d)
  | _, _, _, _, _, .nil, _ => .nil
  | _, _, _, _, 0, .cons _ t, h => .cons h t
  | _, _, _, _, j + 1, .cons a t, h => .cons a (DTs.set j t h)
/-- L[k] = e -/
theorem q_setIx {G2 : Gm} {ti : TE} {k : Int} {j : Nat} {ds : List PyData} {L : Addr} (h : EvD K G te ss d) (hi : ss[i]? = some (.v (.ref L))) (hk : EvD K G ti ss (.int k)) (hl : ∀ H, G.p H → LsAt K L ds H) (hj : ixN ds.length k = some j)
    (hw : ∀ H vs, G.p H → (∃ o, H L = some (.lst o)) → DTs K (upd H L (.lst vs)) vs (ds.set j d) → G2.p (upd H L (.lst vs))) (kk : StD K G2 us D ss) : StD K G (tSeq (tAsg te (gSub (tVar i) ti rSetL)) us) D ss := fun σ H gp s =>
  h σ H gp s _ fun v H1 e1 a => ⟨.ref L, (s.mono e1.tp).v hi, hk σ H1 (G.mono _ _ gp e1) (s.mono e1.tp) _ fun w H2 e2 b => by
    cases b
    have g2 := G.mono _ _ gp (e1.trans e2)
    obtain ⟨vs, hv, tv⟩ := hl H2 g2
    have tu : Tp K H2 (upd H2 L (.lst (vs.set j v))) := Tp.upd hv rfl
    exact ⟨L, vs, k, j, rfl, rfl, hv, by rw [tv.len]; exact hj, kk σ _ (hw H2 _ g2 ⟨_, hv⟩ ((tv.set j (a.mono e2.tp)).mono tu)) ((s.mono (e1.trans e2).tp).mono tu)⟩⟩
end
/-- the pen as it is -/
def gP (K : PySem.W.Frag) (H : Hp) (p : Addr) (ds : List PyData) : Gm := ⟨fun H' => FrP p H H' ∧ LsAt K p ds H', fun _ _ a e => ⟨a.1.trans e.frP, a.2.mono e⟩⟩
end KX
set_option maxHeartbeats 4000000
namespace KX
open PySem PySem.Spec PyProof.Rows L2
def midI (m : Int) : Prop := 0 < m ∧ m < 2 ^ 62
theorem midI.log {m : Int} (h : midI m) : CDivW 0 m := by
  obtain ⟨h1, h2⟩ := h
  refine ⟨h1, ?_⟩
  have h3 : m.natAbs < 2 ^ 62 := by omega
  have h4 := PySem.Flt.log2_lt_of (by decide : 0 < 62) h3
  omega
section
variable {P : Program} {w : World} {K : PySem.W.Frag} {mg : Str → Option Value} {base : Heap}
theorem sc_L_rest : FnScope ["_law_number", "_law_by"] ["_law_number", "_law_by"] (defScope s_L_rest) := ⟨rfl, rfl, rfl, by decide +kernel, rfl, by decide +kernel, by decide +kernel⟩
theorem ok__law_rest (T : Tx w K mg) : FnN P w K mg base 1 a__law_rest (spD K fun ds r => ∃ n m : Int, ds = [.int n, .int m] ∧ midI m ∧ r = .int (n % m)) := by
  obtain ⟨fd, F⟩ := T.F_L_rest
  refine F.okN rfl sc_L_rest (fun _ _ _ _ _ _ us hl => match us, hl with | [_, _], _ => rfl) (fun vs H Q h => ?_) (fun A outer s H vs Q hr h => ⟨_, (pss_one (ps_ret (pe_op op_sub (pv 0) (pe_op op_mul (pe_op op_fdivW (pv 0) (pv 1)) (pv 1))))), ?_⟩)
  · obtain ⟨ds, r, h1, ⟨_, _, rfl, _⟩, _⟩ := h
    exact h1.len
  obtain ⟨ds, r, hd, ⟨n, m, rfl, hm, rfl⟩, q⟩ := h
  refine StD.go (G := gS H) ?_ (Same.refl H) (DS.start hd)
  refine st_ret (ev_rI (ev_var rfl) (ev_rIC (ev_rIC (ev_var rfl) (ev_var rfl) hm.log) (ev_var rfl) (.inr ?_))) (rt_of q ?_)
  · obtain ⟨h1, h2⟩ := hm
    omega
  · rw [Int.emod_def, Int.mul_comm]
def preDraw : List PyData → Prop := fun ds => ∃ m : Int, ds = [.int m] ∧ midI m
def rDraw : List PyData → PyData → Prop := fun ds d => ∃ m r : Int, ds = [.int m] ∧ d = .int r ∧ 0 ≤ r ∧ r < m
theorem sc_L_draw : FnScope ["_law_pen_here", "_law_many", "_law_mixed", "_law_found"] ["_law_pen_here", "_law_many"] (defScope s_L_draw) := ⟨rfl, rfl, rfl, by decide +kernel, rfl, by decide +kernel, by decide +kernel⟩
theorem ok__law_draw (T : Tx w K mg) : FnN P w K mg base 2 a__law_draw (spP K preDraw rDraw) := by
  obtain ⟨fd, F⟩ := T.F_L_draw
  refine F.okN rfl sc_L_draw (fun _ _ _ _ _ _ us hl => match us, hl with | [_, _], _ => rfl) (fun vs H Q h => ?_) (fun A outer s H vs Q hr h => ⟨_, (pss_cons (ps_if (pt_cmpR op_gt (pe_ix ix_list (pv 0) pe_int (fun _ _ => rfl)) pe_int (nomark _)) (pss_cons (ps_set (i := 3) sc_L_draw.nd rfl (Or.inl rfl) (pe_cl (ok__law_rest T) (hr.mono (by decide)) T.kp__law_rest T.g__law_rest (pa_cons (pe_ix ix_list (pv 0) pe_int (fun _ _ => rfl)) (pa_cons (pv 1) pa_nil)))) (pss_cons (ps_asg (pe_op op_fdivW (pe_ix ix_list (pv 0) pe_int (fun _ _ => rfl)) (pv 1)) (pg_sub (pv 0) pe_int set_list)) (pss_one (ps_ret (pv 3))))) pss_nil) (pss_cons (ps_asg (pe_op op_add (pe_ix ix_list (pv 0) pe_int (fun _ _ => rfl)) pe_int) (pg_sub (pv 0) pe_int set_list)) (pss_cons (ps_asg (pe_cl (ok__law_rest T) (hr.mono (by decide)) T.kp__law_rest T.g__law_rest (pa_cons (pe_op op_add (pe_op op_add (pe_op op_mul (pe_ix ix_list (pv 0) pe_int (fun _ _ => rfl)) pe_int) (pe_op op_mul pe_int (pe_ix ix_list (pv 0) pe_int (fun _ _ => rfl)))) pe_int) (pa_cons pe_int pa_nil))) (pg_sub (pv 0) pe_int set_list)) (pss_cons (ps_set (i := 2) sc_L_draw.nd rfl (Or.inl rfl) (pe_cl (ok__law_rest T) (hr.mono (by decide)) T.kp__law_rest T.g__law_rest (pa_cons (pe_op op_add (pe_op op_add (pe_op op_mul (pe_ix ix_list (pv 0) pe_int (fun _ _ => rfl)) (pe_ix ix_list (pv 0) pe_int (fun _ _ => rfl))) (pe_op op_mul pe_int (pe_ix ix_list (pv 0) pe_int (fun _ _ => rfl)))) pe_int) (pa_cons pe_int pa_nil)))) (pss_cons (ps_set (i := 2) sc_L_draw.nd rfl (Or.inl rfl) (pe_cl (ok__law_rest T) (hr.mono (by decide)) T.kp__law_rest T.g__law_rest (pa_cons (pe_op op_add (pe_op op_mul (pv 2) (pv 2)) (pe_op op_mul pe_int (pv 2))) (pa_cons pe_int pa_nil)))) (pss_one (ps_ret (pe_cl (ok__law_rest T) (hr.mono (by decide)) T.kp__law_rest T.g__law_rest (pa_cons (pe_op op_fdivW (pv 2) pe_int) (pa_cons (pv 1) pa_nil)))))))))), ?_⟩)
  · obtain ⟨p, vs', ds, rfl, _, h1, ⟨m, rfl, _⟩, _⟩ := h
    exact congrArg Nat.succ h1.len
  obtain ⟨p, vs', ds, rfl, ⟨a, b, c, hp⟩, hd, ⟨m, rfl, hm⟩, q⟩ := h
  cases hd with
  | cons d1 nl =>
  cases nl
  have s0 : DS K H (start ["_law_pen_here", "_law_many", "_law_mixed", "_law_found"] [.ref p, _]) [.v (.ref p), .d (.int m), .no, .no] := .cons (s := .v _) rfl (.cons (s := .d _) ⟨_, rfl, d1⟩ (DS.nos 2))
  refine StD.go (G := gP K H p [.int a, .int b, .int c]) ?_ ⟨FrP.refl, _, hp, .cons (.int _) (.cons (.int _) (.cons (.int _) .nil))⟩ s0
  have fin : ∀ (a b c n : Int), RtD K (gP K H p [.int a, .int b, .int c]) { nx := fun _ H' => Q .non H', rt := Q } (.int (n % m)) := fun a b c n v H' g t => by
    obtain ⟨vs, hv, tv⟩ := g.2
    have e := tv.flat (as := [.int a, .int b, .int c]) rfl
    subst e
    exact q v _ H' g.1 ⟨a, b, c, hv⟩ ⟨m, n % m, rfl, rfl, Int.emod_nonneg _ (by have := hm.1; omega), Int.emod_lt_of_pos _ hm.1⟩ t
  have wr : ∀ (ds ds' : List PyData) (H' : Hp) (vs : List V), (gP K H p ds).p H' → (∃ o, H' p = some (.lst o)) → DTs K (upd H' p (.lst vs)) vs ds' → (gP K H p ds').p (upd H' p (.lst vs)) := fun ds ds' H' vs g _ t =>
    ⟨fun b o hb hn => (upd_ne hn).trans (g.1 b o hb hn), vs, upd_same, t⟩
  have m1 : midI 2147483647 := ⟨by decide, by decide⟩
  have m2 : midI 2147483629 := ⟨by decide, by decide⟩
  have m3 : midI 2147483587 := ⟨by decide, by decide⟩
  refine q_when (evt_test (ev_rB (ev_ixL (L := p) rfl (fun H' g => g.2) ev_int rfl) ev_int)) (fun _ => ?_) (fun _ => ?_)
  · refine q_set (ev_cl (eva_cons (ev_ixL (L := p) rfl (fun H' g => g.2) ev_int rfl) (eva_cons (ev_var rfl) eva_nil)) ⟨a, m, rfl, hm, rfl⟩) ?_
    exact q_setIx (L := p) (ev_rIC (ev_ixL (L := p) rfl (fun H' g => g.2) ev_int rfl) (ev_var rfl) hm.log) rfl ev_int (fun H' g => g.2) rfl (wr _ _) (st_ret (ev_var rfl) (fin _ _ _ a))
  refine q_setIx (L := p) (ev_rI (ev_ixL (L := p) rfl (fun H' g => g.2) ev_int rfl) ev_int) rfl ev_int (fun H' g => g.2) rfl (wr _ _) ?_
  refine q_setIx (L := p) (ev_cl (eva_cons (ev_rI (ev_rI (ev_rIC (ev_ixL (L := p) rfl (fun H' g => g.2) ev_int rfl) ev_int (.inr (by decide))) (ev_rIC ev_int (ev_ixL (L := p) rfl (fun H' g => g.2) ev_int rfl) (.inl (by decide)))) ev_int) (eva_cons ev_int eva_nil)) ⟨_, _, rfl, m1, rfl⟩) rfl ev_int (fun H' g => g.2) rfl (wr _ _) ?_
  generalize hX : (b * 48271 + 1009 * (c + 1) + 7) % 2147483647 = x
  have hx : -(2 ^ 64) < x ∧ x < 2 ^ 64 := by
    have h1 := Int.emod_nonneg (b * 48271 + 1009 * (c + 1) + 7) (by decide : (2147483647 : Int) ≠ 0)
    have h2 := Int.emod_lt_of_pos (b * 48271 + 1009 * (c + 1) + 7) (by decide : (0 : Int) < 2147483647)
    omega
  refine q_set (ev_cl (eva_cons (ev_rI (ev_rI (ev_rIC (ev_ixL (L := p) (d := .int x) rfl (fun H' g => g.2) ev_int rfl) (ev_ixL (L := p) (d := .int x) rfl (fun H' g => g.2) ev_int rfl) (.inl hx)) (ev_rIC ev_int (ev_ixL (L := p) (d := .int x) rfl (fun H' g => g.2) ev_int rfl) (.inl (by decide)))) ev_int) (eva_cons ev_int eva_nil)) ⟨_, _, rfl, m2, rfl⟩) ?_
  generalize hY : (x * x + 69621 * x + 11) % 2147483629 = y
  have hy : -(2 ^ 64) < y ∧ y < 2 ^ 64 := by
    have h1 := Int.emod_nonneg (x * x + 69621 * x + 11) (by decide : (2147483629 : Int) ≠ 0)
    have h2 := Int.emod_lt_of_pos (x * x + 69621 * x + 11) (by decide : (0 : Int) < 2147483629)
    omega
  refine q_set (ev_cl (eva_cons (ev_rI (ev_rIC (ev_var rfl) (ev_var rfl) (.inl hy)) (ev_rIC ev_int (ev_var rfl) (.inl (by decide)))) (eva_cons ev_int eva_nil)) ⟨_, _, rfl, m3, rfl⟩) ?_
  exact st_ret (ev_cl (eva_cons (ev_rIC (ev_var rfl) ev_int ⟨by decide, by decide⟩) (eva_cons (ev_var rfl) eva_nil)) ⟨_, m, rfl, hm, rfl⟩) (fin _ _ _ _)
/-- one of a list -/
def spPick (K : PySem.W.Frag) : SpN := fun vs H Q => ∃ p L ds, vs = [.ref p, .ref L] ∧ PenAt H p ∧ L ≠ p ∧ LsAt K L ds H ∧ 0 < ds.length ∧ ds.length ≤ 1000 ∧ ∀ v d H', FrP p H H' → PenAt H' p → d ∈ ds → DT K H' v d → Q v H'
theorem sc_L_pick : FnScope ["_law_pen_here", "_law_some"] ["_law_pen_here", "_law_some"] (defScope s_L_pick) := ⟨rfl, rfl, rfl, by decide +kernel, rfl, by decide +kernel, by decide +kernel⟩
theorem ok__law_pick (T : Tx w K mg) : FnN P w K mg base 3 a__law_pick (spPick K) := by
  obtain ⟨fd, F⟩ := T.F_L_pick
  refine F.okN rfl sc_L_pick (fun _ _ _ _ _ _ us hl => match us, hl with | [_, _], _ => rfl) (fun vs H Q h => ?_) (fun A outer s H vs Q hr h => ⟨_, (pss_one (ps_ret (pe_ix ix_list (pv 1) (pe_cl (ok__law_draw T) (hr.mono (by decide)) T.kp__law_draw T.g__law_draw (pa_cons (pv 0) (pa_cons (pe_callB call_len_seq (by rfl) T.z_len PySem.boot_len (pa_cons (pv 1) pa_nil)) pa_nil))) (fun _ _ => rfl)))), ?_⟩)
  · obtain ⟨p, L, ds, rfl, _⟩ := h
    rfl
  obtain ⟨p, L, ds, rfl, hp, hn, ⟨xs, hL, dl⟩, h0, h1, q⟩ := h
  have hl := dl.len
  refine ⟨.ref L, rfl, .ref p, rfl, .ref L, rfl, L, xs, rfl, .inl (SqL.of hL), p, [.int xs.length], [.int xs.length], rfl, hp, .cons (.int _) .nil, ⟨_, rfl, by show (0 : Int) < _; omega, by rw [hl]; omega⟩, fun v d H' e p' ⟨m, r, em, ed, r0, r1⟩ dv => ?_⟩
  subst ed
  cases dv
  cases em
  have hL' := e L _ hL hn
  obtain ⟨j, hj⟩ : ∃ j : Nat, r = j := ⟨r.toNat, (Int.toNat_of_nonneg r0).symm⟩
  subst hj
  have hj2 : j < xs.length := by omega
  obtain ⟨d, hd, td⟩ := dl.getV (List.getElem?_eq_getElem hj2)
  exact ⟨L, xs, j, xs[j], rfl, rfl, SqL.of hL', atI_nat (List.getElem?_eq_getElem hj2), q _ d H' e p' (List.mem_of_getElem? hd) (td.mono (e.tp hp))⟩
/-- pick(pen, [written things]) -/
theorem evn_pickL {p : Addr} {i : Nat} {ss : List SV} {tA : TA} {ds : List PyData} (hi : ss[i]? = some (.v (.ref p))) (h : EvA K gT tA ss ds) (h0 : 0 < ds.length) (h1 : ds.length ≤ 1000) : EvN K p (tCl (spPick K) (tCons (tVar i) (tCons (tLst tA) tNil))) ss (· ∈ ds) := fun σ H hp s Q q => by
  refine ⟨.ref p, s.v hi, h σ H trivial s _ fun vs H1 e1 a => ⟨Nat.le_of_lt (small1000 (by rw [a.len]; exact h1)), fun L hL => ?_⟩⟩
  have sn := Same.new (o := HO.lst vs) hL
  have hp1 := hp.mono e1
  have hne : L ≠ p := by
    obtain ⟨_, _, _, z⟩ := hp1
    exact fun z2 => by rw [z2, z] at hL; cases hL
  exact ⟨p, L, ds, rfl, hp1.mono sn, hne, ⟨vs, upd_same, a.mono sn.tp⟩, h0, h1, fun v d H2 e2 p2 m t => q v d H2 ((e1.trans sn).frP.trans e2) p2 m t⟩
theorem evn_draw {p : Addr} {i : Nat} {ss : List SV} {te : TE} {m : Int} (hi : ss[i]? = some (.v (.ref p))) (h : EvD K gT te ss (.int m)) (hm : midI m) : EvN K p (tCl (spP K preDraw rDraw) (tCons (tVar i) (tCons te tNil))) ss (fun d => ∃ r, d = .int r ∧ 0 ≤ r ∧ r < m) :=
  (evn_pen hi (evna_cons (evn_of h) evna_nil) (fun ds ⟨d, ds', e, e1, e2⟩ => ⟨m, by rw [e, e1, e2], hm⟩)).imp fun d ⟨ds, ⟨d2, ds', e, e1, e2⟩, m2, r, e3, e4, r0, r1⟩ => by
    rw [e1, e2] at e
    rw [e] at e3
    cases e3
    exact ⟨r, e4, r0, r1⟩
theorem sc_L_rule : FnScope ["_law_pen_here"] ["_law_pen_here"] (defScope s_L_rule) := ⟨rfl, rfl, rfl, by decide +kernel, rfl, by decide +kernel, by decide +kernel⟩
theorem ok__law_rule (T : Tx w K mg) : FnN P w K mg base 4 a__law_rule (spP K (· = []) fun _ d => ∃ z ∈ rules, d = .str z) := by
  obtain ⟨fd, F⟩ := T.F_L_rule
  refine F.okN rfl sc_L_rule (fun _ _ _ _ _ _ us hl => match us, hl with | [_], _ => rfl) (fun vs H Q h => ?_) (fun A outer s H vs Q hr h => ⟨_, (pss_one (ps_ret (pe_cl (ok__law_pick T) (hr.mono (by decide)) T.kp__law_pick T.g__law_pick (pa_cons (pv 0) (pa_cons (pe_lst (pa_cons pe_str (pa_cons pe_str (pa_cons pe_str pa_nil)))) pa_nil))))), ?_⟩)
  · obtain ⟨p, vs', ds, rfl, _, h1, rfl, _⟩ := h
    exact congrArg Nat.succ h1.len
  obtain ⟨p, vs', ds, rfl, hp, hd, rfl, q⟩ := h
  cases hd
  have s0 : DS K H (start ["_law_pen_here"] [.ref p]) [.v (.ref p)] := .cons (s := .v _) rfl .nil
  refine StD.go (G := gN (nS H p)) ?_ ⟨FrP.refl, hp⟩ s0
  exact st_retN (evn_pickL rfl (eva_cons ev_str (eva_cons ev_str (eva_cons ev_str eva_nil))) (by decide) (by decide)) fun d hd => rt_N q (by
    obtain ⟨z, hz, e⟩ := List.mem_map.mp (show d ∈ rules.map PyData.str from hd)
    exact ⟨z, hz, e.symm⟩)
theorem sc_L_mirror_step : FnScope ["_law_pen_here", "_law_some"] ["_law_pen_here"] (defScope s_L_mirror_step) := ⟨rfl, rfl, rfl, by decide +kernel, rfl, by decide +kernel, by decide +kernel⟩
theorem ok__law_mirror_step (T : Tx w K mg) : FnN P w K mg base 4 a__law_mirror_step (spP K (· = []) fun _ d => ∃ z ∈ msteps, d = .str z) := by
  obtain ⟨fd, F⟩ := T.F_L_mirror_step
  refine F.okN rfl sc_L_mirror_step (fun _ _ _ _ _ _ us hl => match us, hl with | [_], _ => rfl) (fun vs H Q h => ?_) (fun A outer s H vs Q hr h => ⟨_, (pss_cons (ps_set (i := 1) sc_L_mirror_step.nd rfl (Or.inl rfl) (pe_lst (pa_cons pe_str (pa_cons pe_str (pa_cons pe_str (pa_cons pe_str (pa_cons pe_str (pa_cons pe_str (pa_cons pe_str (pa_cons pe_str pa_nil)))))))))) (pss_one (ps_ret (pe_cl (ok__law_pick T) (hr.mono (by decide)) T.kp__law_pick T.g__law_pick (pa_cons (pv 0) (pa_cons (pe_op op_cat (pv 1) (pe_lst (pa_cons pe_str (pa_cons pe_str (pa_cons pe_str (pa_cons pe_str (pa_cons pe_str (pa_cons pe_str (pa_cons pe_str pa_nil))))))))) pa_nil)))))), ?_⟩)
  · obtain ⟨p, vs', ds, rfl, _, h1, rfl, _⟩ := h
    exact congrArg Nat.succ h1.len
  obtain ⟨p, vs', ds, rfl, hp, hd, rfl, q⟩ := h
  cases hd
  refine ⟨by decide, fun L hL => ⟨.ref p, rfl, .ref L, rfl, by decide, fun M hM => ⟨L, M, _, _, rfl, rfl, (upd_ne (ne_of_none upd_same hM)).trans upd_same, upd_same, by decide, fun N hN => ?_⟩⟩⟩
  have e1 := (Same.new (o := HO.lst (msteps.map V.str)) hL).trans ((Same.new (o := HO.lst ((["listen", "read", "read", "receive", "commit", "begin", "listen"] : List Str).map V.str)) hM).trans (Same.new (o := HO.lst ((msteps ++ (["listen", "read", "read", "receive", "commit", "begin", "listen"] : List Str)).map V.str)) hN))
  refine ⟨p, N, (msteps ++ (["listen", "read", "read", "receive", "commit", "begin", "listen"] : List Str)).map .str, rfl, hp.mono e1, ?_, ⟨_, upd_same, DTs.str (msteps ++ (["listen", "read", "read", "receive", "commit", "begin", "listen"] : List Str))⟩, by decide, by decide, fun v d H' e2 p2 hm t => q v d H' (e1.frP.trans e2) p2 ?_ t⟩
  · obtain ⟨_, _, _, z⟩ := hp.mono ((Same.new (o := HO.lst (msteps.map V.str)) hL).trans (Same.new (o := HO.lst ((["listen", "read", "read", "receive", "commit", "begin", "listen"] : List Str).map V.str)) hM))
    exact fun z2 => by
      rw [← z2] at z
      exact absurd (hN.symm.trans z) (by intro h; cases h)
  · obtain ⟨z, hz, ez⟩ := List.mem_map.mp hm
    refine ⟨z, ?_, ez.symm⟩
    have h2 : ∀ x ∈ msteps ++ (["listen", "read", "read", "receive", "commit", "begin", "listen"] : List Str), x ∈ msteps := by decide +kernel
    exact h2 z hz
end
end KX
set_option maxHeartbeats 4000000
namespace KX
open PySem PySem.Spec PyProof.Rows L2 RZ
section
variable {K : PySem.W.Frag} {p : Addr} {g : Gn p} {G : Gm} {ss : List SV} {ta tb te tx : TE} {t u : TT} {tA : TA} {x y d : PyData} {i j n : Nat} {ts us rs : TS} {D : Ends} {R : PyData → Prop} {RA : List PyData → Prop} {A B : Int → Prop} {L : Addr} {ds : List PyData} {H0 : Hp}
theorem evn_if {b : Bool} (h : EvT K gT t ss b) (h1 : b = true → EvN K p ta ss R) (h2 : b = false → EvN K p tb ss R) : EvN K p (tIf t ta tb) ss R := fun σ H hp s Q q => h σ H trivial s _ fun H1 e1 => by
  cases b with
  | true => exact iteT (h1 rfl σ H1 (hp.mono e1) (s.mono e1.tp) _ fun v d H2 e2 p2 r a => q v d H2 (e1.frP.trans e2) p2 r a)
  | false => exact iteF (h2 rfl σ H1 (hp.mono e1) (s.mono e1.tp) _ fun v d H2 e2 p2 r a => q v d H2 (e1.frP.trans e2) p2 r a)
/-- [e for x in range(n)], drawing -/
theorem eln_rng {k : Nat} (hr : EvD K gT te ss (.int (k : Nat))) (hk : k ≤ 1000) (he : ∀ i, i < k → EvN K p tx (ss.set j (.d (.int (i : Nat)))) R) : EvNL K p (tLc (iRng1 (tCons te tNil)) (gName j) tYes tx [j]) ss (fun ds => ds.length = k ∧ ∀ d ∈ ds, R d) := fun σ H hp s Q q =>
  hr σ H trivial s _ fun v H1 e1 a => by
    cases a
    have hp1 := hp.mono e1
    refine ⟨(k : Nat), rfl, by omega, by omega, fun D hD => ?_⟩
    have hDp : D ≠ p := by
      obtain ⟨_, _, _, z⟩ := hp1
      exact fun z2 => by rw [z2, z] at hD; cases hD
    have hD0 : H D = none := e1.free hD
    have ek : (k : Int).toNat = k := Int.toNat_natCast k
    rw [ek]
    refine lc_it (walk_range (lo := 0) (n := k)) (fun i H' => FrP p H1 H' ∧ PenAt H' p ∧ ∃ vs ds, H' D = some (.lst vs) ∧ DTs K H' vs ds ∧ ds.length = i ∧ ∀ d ∈ ds, R d) ⟨(Same.new hD).frP, hp1.mono (Same.new hD), [], [], upd_same, .nil, rfl, fun d hd => by cases hd⟩ (fun _ _ _ _ => trivial) (fun i xv H2 H3 hi ⟨f2, p2, vs, ds, hv, tv, hl, hR⟩ y => ?_) fun H2 ⟨f2, p2, vs, ds, hv, tv, hl, hR⟩ => ?_
    · obtain ⟨rfl, rfl⟩ := y
      have s2 : DS K H3 ((σ.set j none).set j (some (.int (0 + (i : Nat))))) (ss.set j (.d (.int (i : Nat)))) := by
        rw [List.set_set]
        exact ((s.mono e1.tp).mono (f2.tp hp1)).set (s := .d (.int (i : Nat))) ⟨_, rfl, by rw [Int.zero_add]; exact .int _⟩
      refine ⟨wipe_set, ?_⟩
      refine he i hi _ H3 p2 s2 _ fun w d H4 e4 p4 r4 d4 => ?_
      have hv4 := e4 _ _ hv hDp
      have tu : Tp K H4 (upd H4 D (.lst (vs ++ [w]))) := Tp.upd hv4 rfl
      refine ⟨vs, hv4, small1000 (by rw [tv.len, hl]; omega), fun b o hb hn => ?_, ?_, vs ++ [w], ds ++ [d], upd_same, ?_, ?_, ?_⟩
      · have hbD : b ≠ D := fun z => by rw [z, hD] at hb; cases hb
        exact (upd_ne hbD).trans (e4 _ _ (f2 _ _ hb hn) hn)
      · obtain ⟨a, b, c, z⟩ := p4
        exact ⟨a, b, c, (upd_ne hDp.symm).trans z⟩
      · exact ((tv.mono (e4.tp p2)).append (DTs.one d4)).mono tu
      · rw [List.length_append, hl] <;> rfl
      · intro d' hd'
        rcases List.mem_append.mp hd' with h | h
        · exact hR d' h
        · have e : d' = d := by simpa using h
          exact e ▸ r4
    · exact q D vs ds H2 (e1.frP.trans f2) p2 hD0 hv tv ⟨hl, hR⟩
/-- tuple(that new list) -/
theorem evn_tupL {r : List V → Hp → VK → Prop} (hr : r = fun xs H Q => ∃ p ys, xs = [.ref p] ∧ ((SqL K H p ys ∧ ∀ l, H l = none → Q (.ref l) (upd H l (.tup ys))) ∨ (SqT K H p ys ∧ Q (.ref p) H))) (h : EvNL K p te ss RA) :
    EvN K p (tCB r (tCons te tNil)) ss (fun d => ∃ ds, d = .tuple ds ∧ RA ds) := fun σ H hp s Q q => by
  subst hr
  refine h σ H hp s _ fun L vs ds H1 e1 p1 _ hL ts r => ⟨L, vs, rfl, .inl ⟨SqL.of hL, fun l hl => ?_⟩⟩
  exact q _ _ _ (e1.trans (Same.new hl).frP) (p1.mono (Same.new hl)) ⟨ds, rfl, r⟩ (.tup upd_same (ts.mono (Same.new hl).tp))
/-- tuple(a list in a slot) -/
theorem evn_tupV {r : List V → Hp → VK → Prop} (hr : r = fun xs H Q => ∃ p ys, xs = [.ref p] ∧ ((SqL K H p ys ∧ ∀ l, H l = none → Q (.ref l) (upd H l (.tup ys))) ∨ (SqT K H p ys ∧ Q (.ref p) H))) (hi : ss[i]? = some (.v (.ref L))) (hl : ∀ H, G.p H → LsAt K L ds H) : EvD K G (tCB r (tCons (tVar i) tNil)) ss (.tuple ds) := ev_tupV hr hi hl
/-- a list of one's own beside the pen -/
def nL (K : PySem.W.Frag) (H0 : Hp) (p L : Addr) (ds : List PyData) : Gn p := ⟨fun H => FrP p H0 H ∧ LsAt K L ds H ∧ L ≠ p, fun H H' a hp e => ⟨FrP.trans a.1 e, by
  obtain ⟨vs, h1, h2⟩ := a.2.1
  exact ⟨vs, e _ _ h1 a.2.2, h2.mono (e.tp hp)⟩, a.2.2⟩⟩
theorem q_appN (h : EvN K p te ss R) (hi : ss[i]? = some (.v (.ref L))) (L0 : H0 L = none) (hn : ds.length ≤ 1000) (k : ∀ d, R d → StD K (gN (nL K H0 p L (ds ++ [d]))) us D ss) :
    StD K (gN (nL K H0 p L ds)) (tSeq (tDrop (tBM K "list" rAppend (tVar i) (tCons te tNil))) us) D ss := fun σ H gp s => by
  obtain ⟨⟨f0, ⟨vs, hv, tv⟩, hne⟩, hp⟩ := gp
  refine ⟨.ref L, s.v hi, .inl ⟨rfl, _, SqL.of hv⟩, h σ H hp s _ fun w d H1 e1 p1 r a => ?_⟩
  have hv1 := e1 _ _ hv hne
  have tu : Tp K H1 (upd H1 L (.lst (vs ++ [w]))) := Tp.upd hv1 rfl
  refine ⟨L, vs, w, rfl, rfl, hv1, small1000 (by rw [tv.len]; exact hn), k d r σ _ ⟨⟨fun b o hb hn2 => ?_, ⟨_, upd_same, ?_⟩, hne⟩, ?_⟩ ((s.mono (e1.tp hp)).mono tu)⟩
  · have hbL : b ≠ L := fun z => by rw [z, L0] at hb; cases hb
    exact (upd_ne hbL).trans (e1 _ _ (f0 _ _ hb hn2) hn2)
  · exact ((tv.mono (e1.tp hp)).append (DTs.one a)).mono tu
  · obtain ⟨a, b, c, z⟩ := p1
    exact ⟨a, b, c, (upd_ne hne.symm).trans z⟩
theorem s_appN (h : EvN K p te ss R) (hi : ss[i]? = some (.v (.ref L))) (L0 : H0 L = none) (hn : ds.length ≤ 1000) (k : ∀ d, R d → StD K (gN (nL K H0 p L (ds ++ [d]))) tNext D ss) :
    StD K (gN (nL K H0 p L ds)) (tDrop (tBM K "list" rAppend (tVar i) (tCons te tNil))) D ss := q_appN (us := tNext) h hi L0 hn k
/-- for i in range(n), by an own word -/
theorem q_forRng (Iv : Nat → L2.St → Hp → Prop) (hr : EvD K G te ss (.int (n : Nat))) (hn : n ≤ 1000) (h0 : ∀ σ H, G.p H → DS K H σ ss → Iv 0 σ H) (hs : ∀ j σ H, j < n → Iv j σ H → ts { D with nx := Iv (j + 1), ct := Iv (j + 1), bk := us D } (σ.set i (some (.int (j : Nat)))) H) (k : ∀ σ H, Iv n σ H → us D σ H) :
    StD K G (tSeq (tFor (iRng1 (tCons te tNil)) (gName i) ts) us) D ss := fun σ H gp s =>
  hr σ H gp s _ fun v H1 e1 a => by
    cases a
    refine ⟨(n : Nat), rfl, by omega, by omega, ?_⟩
    rw [show (n : Int).toNat = n from Int.toNat_natCast n]
    refine for_it (D := { D with nx := us D }) (walk_range (lo := 0) (n := n)) Iv (h0 _ _ (G.mono _ _ gp e1) (s.mono e1.tp)) (fun _ _ _ _ _ => trivial) (fun j x σ' H2 H3 hj iv y => ?_) k
    obtain ⟨rfl, rfl⟩ := y
    show ts _ (σ'.set i (some (.int (0 + (j : Nat))))) H3
    rw [Int.zero_add]
    exact hs j σ' H3 hj iv
/-- one more list beside the pen -/
def nM (K : PySem.W.Frag) (g : Gn p) (M : Addr) (ds : List PyData) : Gn p := ⟨fun H => g.q H ∧ LsAt K M ds H ∧ M ≠ p, fun H H' a hp e => ⟨g.mono H H' a.1 hp e, by
  obtain ⟨vs, h1, h2⟩ := a.2.1
  exact ⟨vs, e _ _ h1 a.2.2, h2.mono (e.tp hp)⟩, a.2.2⟩⟩
theorem q_setNL (h : EvNL K p te ss RA) (k : ∀ H1 M ds, g.q H1 → H1 M = none → RA ds → StD K (gN (nM K g M ds)) us D (ss.set i (.v (.ref M)))) : StD K (gN g) (tSeq (tAsg te (gName i)) us) D ss := fun σ H gp s =>
  h σ H gp.2 s _ fun M vs ds H1 e1 p1 hM hv ts r => by
    have hne : M ≠ p := by
      obtain ⟨_, _, _, z⟩ := gp.2
      exact fun z2 => by rw [z2, z] at hM; cases hM
    exact k H M ds gp.1 hM r _ H1 ⟨⟨g.mono _ _ gp.1 gp.2 e1, ⟨vs, hv, ts⟩, hne⟩, p1⟩ ((s.mono (e1.tp gp.2)).set (s := .v (.ref M)) rfl)
/-- for i in range(a draw) -/
theorem q_forRngN {m : Int} (Iv : Nat → L2.St → Hp → Prop) (hr : EvN K p te ss (fun d => ∃ r, d = .int r ∧ 0 ≤ r ∧ r < m)) (hm : m ≤ 1000) (h0 : ∀ σ H, (gN g).p H → DS K H σ ss → Iv 0 σ H) (hs : ∀ (j : Nat) σ H, (j : Int) + 1 < m → Iv j σ H → ts { D with nx := Iv (j + 1), ct := Iv (j + 1), bk := us D } (σ.set i (some (.int (j : Nat)))) H) (k : ∀ (n : Nat) σ H, (n : Int) < m → Iv n σ H → us D σ H) :
    StD K (gN g) (tSeq (tFor (iRng1 (tCons te tNil)) (gName i) ts) us) D ss := fun σ H gp s =>
  hr σ H gp.2 s _ fun v d H1 e1 p1 ⟨r, er, r0, r1⟩ a => by
    subst er
    cases a
    obtain ⟨n, hn⟩ : ∃ n : Nat, r = n := ⟨r.toNat, (Int.toNat_of_nonneg r0).symm⟩
    subst hn
    refine ⟨(n : Nat), rfl, by omega, by omega, ?_⟩
    rw [show (n : Int).toNat = n from Int.toNat_natCast n]
    refine for_it (D := { D with nx := us D }) (walk_range (lo := 0) (n := n)) Iv (h0 _ _ ⟨g.mono _ _ gp.1 gp.2 e1, p1⟩ (s.mono (e1.tp gp.2))) (fun _ _ _ _ _ => trivial) (fun j x σ' H2 H3 hj iv y => ?_) fun σ' H' iv => k n σ' H' r1 iv
    obtain ⟨rfl, rfl⟩ := y
    show ts _ (σ'.set i (some (.int (0 + (j : Nat))))) H3
    rw [Int.zero_add]
    exact hs j σ' H3 (by omega) iv
end
end KX
set_option maxHeartbeats 4000000
namespace KX
open PySem PySem.Spec PyProof.Rows L2
/-- a writer's step -/
inductive WS where
  | set (z : Str) | say (z : Str) | again
instance : Inhabited WS := ⟨.again⟩
def encW : WS → PyData
  | .set z => .tuple [.str "set", .str z]
  | .say z => .tuple [.str "say", .str z]
  | .again => .tuple [.str "say"]
def wwords : List Str := ["w", "x", "yy"]
def WOk : WS → Prop
  | .set z => z ∈ wwords
  | .say z => z ∈ wwords
  | .again => True
def EdgeR {α : Type} (enc : α → PyData) (ok : α → Prop) (k : Nat) (d : PyData) : Prop := ∃ e : α × Nat, d = .tuple [enc e.1, .int (e.2 : Nat)] ∧ ok e.1 ∧ e.2 < k
def rowD {α : Type} (enc : α → PyData) (es : List (α × Nat)) : PyData := .tuple (es.map fun e => .tuple [enc e.1, .int (e.2 : Nat)])
def RowOk {α : Type} (ok : α → Prop) (k : Nat) (es : List (α × Nat)) : Prop := es.length ≤ 3 ∧ ∀ e ∈ es, ok e.1 ∧ e.2 < k
def RowR {α : Type} (enc : α → PyData) (ok : α → Prop) (k : Nat) (d : PyData) : Prop := ∃ es : List (α × Nat), d = rowD enc es ∧ RowOk ok k es
theorem ex_map {α : Type} {f : α → PyData} {P : α → Prop} : ∀ {ds : List PyData}, (∀ d ∈ ds, ∃ e, d = f e ∧ P e) → ∃ es : List α, ds = es.map f ∧ ∀ e ∈ es, P e
  | [], _ => ⟨[], rfl, fun e h => by cases h⟩
  | d :: ds, h => by
    obtain ⟨e, he, pe⟩ := h d List.mem_cons_self
    obtain ⟨es, hes, pes⟩ := ex_map fun d' hd => h d' (List.mem_cons_of_mem _ hd)
    refine ⟨e :: es, by rw [he, hes] <;> rfl, fun x hx => ?_⟩
    rcases List.mem_cons.mp hx with h1 | h1
    · exact h1 ▸ pe
    · exact pes x h1
theorem row_of {α : Type} {enc : α → PyData} {ok : α → Prop} {k : Nat} {ds : List PyData} (h : ∀ d ∈ ds, EdgeR enc ok k d) (hl : ds.length ≤ 3) : RowR enc ok k (.tuple ds) := by
  obtain ⟨es, e1, e2⟩ := ex_map (P := fun e : α × Nat => ok e.1 ∧ e.2 < k) h
  refine ⟨es, by rw [e1] <;> rfl, ?_, e2⟩
  rw [e1, List.length_map] at hl
  exact hl
section
variable {P : Program} {w : World} {K : PySem.W.Frag} {mg : Str → Option Value} {base : Heap} {p : Addr} {ss : List SV} {ts td : TE}
theorem evn_edge {α : Type} {enc : α → PyData} {ok : α → Prop} {k : Nat} (h1 : EvN K p ts ss (fun d => ∃ a, d = enc a ∧ ok a)) (h2 : EvN K p td ss (fun d => ∃ r : Int, d = .int r ∧ 0 ≤ r ∧ r < (k : Int))) : EvN K p (tTup (tCons ts (tCons td tNil))) ss (EdgeR enc ok k) :=
  (evn_tup (evna_cons h1 (evna_cons h2 evna_nil)) fun ds ⟨_, _, e, _, _, _, e2, _, e3⟩ => by rw [e, e2, e3]; exact Nat.le_of_ble_eq_true rfl).imp fun d ⟨ds, e, d1, ds1, e1, ⟨a, ea, oa⟩, d2, ds2, e2, ⟨r, er, r0, r1⟩, e3⟩ => by
    refine ⟨(a, r.toNat), ?_, oa, by show r.toNat < k; omega⟩
    rw [e, e1, e2, e3, ea, er]
    show PyData.tuple [enc a, .int r] = .tuple [enc a, .int ((r.toNat : Nat) : Int)]
    rw [Int.toNat_of_nonneg r0]
theorem sc_L_writer_step : FnScope ["_law_pen_here", "_law_sort"] ["_law_pen_here"] (defScope s_L_writer_step) := ⟨rfl, rfl, rfl, by decide +kernel, rfl, by decide +kernel, by decide +kernel⟩
theorem ok__law_writer_step (T : Tx w K mg) : FnN P w K mg base 4 a__law_writer_step (spP K (· = []) fun _ d => ∃ a, d = encW a ∧ WOk a) := by
  obtain ⟨fd, F⟩ := T.F_L_writer_step
  refine F.okN rfl sc_L_writer_step (fun _ _ _ _ _ _ us hl => match us, hl with | [_], _ => rfl) (fun vs H Q h => ?_) (fun A outer s H vs Q hr h => ⟨_, (pss_cons (ps_set (i := 1) sc_L_writer_step.nd rfl (Or.inl rfl) (pe_cl (ok__law_draw T) (hr.mono (by decide)) T.kp__law_draw T.g__law_draw (pa_cons (pv 0) (pa_cons pe_int pa_nil)))) (pss_cons (ps_if (pt_cmpR op_lt (pv 1) pe_int (nomark _)) (pss_one (ps_ret (pe_tup (pa_cons pe_str (pa_cons (pe_cl (ok__law_pick T) (hr.mono (by decide)) T.kp__law_pick T.g__law_pick (pa_cons (pv 0) (pa_cons (pe_lst (pa_cons pe_str (pa_cons pe_str (pa_cons pe_str pa_nil)))) pa_nil))) pa_nil))))) pss_nil) (pss_one (ps_ret (pe_ifExp (pt_cmpR op_lt (pv 1) pe_int (nomark _)) (pe_tup (pa_cons pe_str (pa_cons (pe_cl (ok__law_pick T) (hr.mono (by decide)) T.kp__law_pick T.g__law_pick (pa_cons (pv 0) (pa_cons (pe_lst (pa_cons pe_str (pa_cons pe_str (pa_cons pe_str pa_nil)))) pa_nil))) pa_nil))) (pe_tup (pa_cons pe_str pa_nil))))))), ?_⟩)
  · obtain ⟨p, vs', ds, rfl, _, h1, rfl, _⟩ := h
    exact congrArg Nat.succ h1.len
  obtain ⟨p, vs', ds, rfl, hp, hd, rfl, q⟩ := h
  cases hd
  have s0 : DS K H (start ["_law_pen_here", "_law_sort"] [.ref p]) [.v (.ref p), .no] := .cons (s := .v _) rfl (DS.nos 1)
  refine StD.go (G := gN (nS H p)) ?_ ⟨FrP.refl, hp⟩ s0
  refine q_setN (evn_draw rfl ev_int ⟨by decide, by decide⟩) fun d ⟨r, ed, _, _⟩ => ?_
  subst ed
  have pick : ∀ {ss : List SV}, ss[0]? = some (.v (.ref p)) → EvN K p (tCl (spPick K) (tCons (tVar 0) (tCons (tLst (tCons (tC (.str "w")) (tCons (tC (.str "x")) (tCons (tC (.str "yy")) tNil)))) tNil))) ss (fun d => ∃ z ∈ wwords, d = .str z) := fun h =>
    (evn_pickL h (eva_cons ev_str (eva_cons ev_str (eva_cons ev_str eva_nil))) (by decide) (by decide)).imp fun d hd => by
      obtain ⟨z, hz, e⟩ := List.mem_map.mp (show d ∈ wwords.map PyData.str from hd)
      exact ⟨z, hz, e.symm⟩
  have two : ∀ {c : Str} {f : Str → WS}, (∀ z, encW (f z) = .tuple [.str c, .str z]) → (∀ z ∈ wwords, WOk (f z)) → EvN K p (tTup (tCons (tC (.str c)) (tCons (tCl (spPick K) (tCons (tVar 0) (tCons (tLst (tCons (tC (.str "w")) (tCons (tC (.str "x")) (tCons (tC (.str "yy")) tNil)))) tNil))) tNil))) [.v (.ref p), .d (.int r)] (fun d => ∃ a, d = encW a ∧ WOk a) := fun {c f} hf hw =>
    (evn_tup (evna_cons (evn_of ev_str) (evna_cons (pick rfl) evna_nil)) fun ds ⟨_, _, e, _, _, _, e2, _, e3⟩ => by rw [e, e2, e3]; exact Nat.le_of_ble_eq_true rfl).imp fun d ⟨ds, e, d1, ds1, e1, ea, d2, ds2, e2, ⟨z, hz, ez⟩, e3⟩ => ⟨f z, by rw [hf, e, e1, e2, e3, ea, ez], hw z hz⟩
  refine q_when (evt_test (ev_rB (ev_var rfl) ev_int)) (fun _ => ?_) (fun _ => ?_)
  · exact st_retN (two (f := .set) (fun _ => rfl) fun _ h => h) fun d hd => rt_N q hd
  · exact st_retN (evn_if (evt_test (ev_rB (ev_var rfl) ev_int)) (fun _ => two (f := .say) (fun _ => rfl) fun _ h => h) fun _ => (evn_of (ev_tup (eva_cons ev_str eva_nil))).imp fun d e => ⟨.again, e, trivial⟩) fun d hd => rt_N q hd
def preN : List PyData → Prop := fun ds => ∃ m : Int, ds = [.int m] ∧ 0 < m ∧ m ≤ 6
theorem sc_L_writer_nodes : FnScope ["_law_pen_here", "_law_most", "_law_at", "_law_many", "_law_nodes", "_law_wide", "_law_lap"] ["_law_pen_here", "_law_most"] (defScope s_L_writer_nodes) := ⟨rfl, rfl, rfl, by decide +kernel, rfl, by decide +kernel, by decide +kernel⟩
theorem ok__law_writer_nodes (T : Tx w K mg) : FnN P w K mg base 5 a__law_writer_nodes (spP K preN fun ds d => ∃ ns, d = gD encW ns ∧ GOk WOk ns ∧ ∃ m : Int, ds = [.int m] ∧ ns.length ≤ m) := by
  obtain ⟨fd, F⟩ := T.F_L_writer_nodes
  refine F.okN rfl sc_L_writer_nodes (fun _ _ _ _ _ _ us hl => match us, hl with | [_, _], _ => rfl) (fun vs H Q h => ?_) (fun A outer s H vs Q hr h => ⟨_, (pss_cons (ps_asg (pe_tup (pa_cons (pe_op op_add pe_int (pe_cl (ok__law_draw T) (hr.mono (by decide)) T.kp__law_draw T.g__law_draw (pa_cons (pv 0) (pa_cons (pv 1) pa_nil)))) (pa_cons (pe_lst pa_nil) pa_nil))) (pg_tup rfl (pgs_cons (pg_name (i := 3) sc_L_writer_nodes.nd rfl (Or.inr rfl)) (pgs_cons (pg_name (i := 4) sc_L_writer_nodes.nd rfl (Or.inl rfl)) pgs_nil)))) (pss_cons (ps_for PassesOwn.never rfl (pi_range1 (by rfl) T.z_range (pa_cons (pv 3) pa_nil)) (pg_name (i := 2) sc_L_writer_nodes.nd rfl (Or.inl rfl)) (pss_cons (ps_set (i := 5) sc_L_writer_nodes.nd rfl (Or.inl rfl) (pe_cl (ok__law_pick T) (hr.mono (by decide)) T.kp__law_pick T.g__law_pick (pa_cons (pv 0) (pa_cons (pe_lst (pa_cons pe_int (pa_cons pe_int (pa_cons pe_int (pa_cons pe_int (pa_cons pe_int (pa_cons pe_int pa_nil))))))) pa_nil)))) (pss_one (ps_expr (pe_bm PySem.F.plainAttrs_list PySem.F.slot_list_append PySem.F.type_list_append mt_append (pv 4) (pa_cons (pe_callTy call_tuple_of (by rfl) T.z_tuple (by decide +kernel) (pa_cons (pe_lc (own := [("_law_lap", 6)]) (by rfl) sc_L_writer_nodes.nd (pi_range1 (by rfl) T.z_range (pa_cons (pv 5) pa_nil)) (blkOk_by (N := ["_law_pen_here", "_law_most", "_law_at", "_law_many", "_law_nodes", "_law_wide", "_law_lap"]) (sc := defScope s_L_writer_nodes) (by decide +kernel)) (fun _ _ _ _ _ => by exact (pg_name (i := 6) sc_L_writer_nodes.nd rfl (Or.inl rfl))) (fun _ _ _ _ _ => pts_nil) (fun _ _ _ _ _ => (pe_tup (pa_cons (pe_cl (ok__law_writer_step T) (hr.mono (by decide)) T.kp__law_writer_step T.g__law_writer_step (pa_cons (pv 0) pa_nil)) (pa_cons (pe_cl (ok__law_draw T) (hr.mono (by decide)) T.kp__law_draw T.g__law_draw (pa_cons (pv 0) (pa_cons (pv 3) pa_nil))) pa_nil))))) pa_nil)) pa_nil)))))) (pss_one (ps_ret (pe_callTy call_tuple_of (by rfl) T.z_tuple (by decide +kernel) (pa_cons (pv 4) pa_nil)))))), ?_⟩)
  · obtain ⟨p, vs', ds, rfl, _, h1, ⟨_, rfl, _⟩, _⟩ := h
    exact congrArg Nat.succ h1.len
  obtain ⟨p, vs', ds, rfl, hp, hd, ⟨m, rfl, m0, m6⟩, q⟩ := h
  cases hd with
  | cons d1 nl =>
  cases nl
  have s0 : DS K H (start ["_law_pen_here", "_law_most", "_law_at", "_law_many", "_law_nodes", "_law_wide", "_law_lap"] [.ref p, _]) [.v (.ref p), .d (.int m), .no, .no, .no, .no, .no] := .cons (s := .v _) rfl (.cons (s := .d _) ⟨_, rfl, d1⟩ (DS.nos 5))
  refine (evn_rI (f := fun i j => i + j) (evn_int ev_int) (evn_draw rfl (ev_var rfl) ⟨m0, by omega⟩)) _ H hp s0 _ fun v d H1 e1 p1 ⟨i, ed, a, b, ea, ⟨b0, b1⟩, ei⟩ dv => ?_
  subst ed
  obtain ⟨k, hk⟩ : ∃ k : Nat, i = k := ⟨i.toNat, (Int.toNat_of_nonneg (by omega)).symm⟩
  subst hk
  have k1 : 1 ≤ k := by omega
  have k6 : (k : Int) ≤ m := by omega
  refine ⟨Nat.zero_le _, fun L hL => ⟨by show 2 ≤ sizeLine; decide, fun t ht => ⟨t, _, rfl, SqT.of upd_same, rfl, _, _, rfl, _, _, rfl, rfl, ?_⟩⟩⟩
  have L0 : H L = none := e1.free hL p1
  have sL := Same.new (o := HO.lst []) hL
  have st := Same.new (o := HO.tup [v, .ref L]) ht
  have hne : L ≠ p := by
    obtain ⟨_, _, _, z⟩ := p1
    exact fun z2 => by rw [z2, z] at hL; cases hL
  have eH := e1.trans (sL.trans st).frP
  refine StD.go (G := gN (nL K H p L [])) (ss := [.v (.ref p), .d (.int m), .no, .d (.int (k : Nat)), .v (.ref L), .no, .no]) ?_ ⟨⟨eH, ⟨[], st _ _ upd_same, .nil⟩, hne⟩, p1.mono (sL.trans st)⟩ (((s0.mono (eH.tp hp)).set (i := 3) (s := .d (.int (k : Nat))) ⟨_, rfl, dv.mono (sL.trans st).tp⟩).set (i := 4) (s := .v (.ref L)) rfl)
  refine q_forRng (fun j σ' H' => ∃ rows : List (List (WS × Nat)), rows.length = j ∧ (∀ es ∈ rows, RowOk WOk k es) ∧ (gN (nL K H p L (rows.map (rowD encW)))).p H' ∧ DS K H' σ' [.v (.ref p), .d (.int m), .no, .d (.int (k : Nat)), .v (.ref L), .no, .no]) (ev_var rfl) (by omega) (fun σ' H' g' s' => ⟨[], rfl, fun _ h => by (cases h), g', s'⟩) (fun j σ' H' hj ⟨rows, hl, hrow, g', s'⟩ => ?_) (fun σ' H' ⟨rows, hl, hrow, g', s'⟩ => ?_)
  · refine StD.go ?_ g' (s'.set (i := 2) (s := .d (.int (j : Nat))) ⟨_, rfl, .int _⟩)
    refine q_setN (evn_pickL rfl (eva_cons ev_int (eva_cons ev_int (eva_cons ev_int (eva_cons ev_int (eva_cons ev_int (eva_cons ev_int eva_nil)))))) (by decide) (by decide)) fun d hd => ?_
    obtain ⟨c, hc, c3⟩ : ∃ c : Nat, d = .int (c : Nat) ∧ c ≤ 3 := by
      obtain ⟨c, hc, e⟩ := List.mem_map.mp (show d ∈ ([0, 1, 1, 2, 2, 3] : List Nat).map (fun c : Nat => PyData.int (c : Nat)) from hd)
      have h2 : ∀ x ∈ ([0, 1, 1, 2, 2, 3] : List Nat), x ≤ 3 := by decide
      exact ⟨c, e.symm, h2 c hc⟩
    subst hc
    refine s_appN (R := RowR encW WOk k) ((evn_tupL rfl (eln_rng (k := c) (R := EdgeR encW WOk k) (ev_var rfl) (by omega) fun i hi => evn_edge ((evn_pen rfl evna_nil fun _ h => h).imp fun d ⟨_, _, h⟩ => h) (evn_draw rfl (ev_var rfl) ⟨by omega, by omega⟩))).imp fun d ⟨ds, e, hl2, hR⟩ => e ▸ row_of hR (by omega)) rfl L0 (by rw [List.length_map]; omega) fun d ⟨es, ed, oes⟩ σ2 H2 g2 s2 => ?_
    subst ed
    refine ⟨rows ++ [es], by rw [List.length_append, hl] <;> rfl, fun es' h => ?_, by rw [List.map_append]; exact g2, s2.wk ⟨.inr rfl, .inr rfl, .inl rfl, .inr rfl, .inr rfl, .inl rfl, .inl rfl, trivial⟩⟩
    rcases List.mem_append.mp h with h | h
    · exact hrow es' h
    · have e : es' = es := by simpa using h
      exact e ▸ oes
  · have hrt : RtD K (gN (nL K H p L (rows.map (rowD encW)))) { nx := fun _ H' => Q .non H', rt := Q } (gD encW rows) := RtD.weak (G := gN (nS H p)) (fun H' g' => ⟨g'.1.1, g'.2⟩) (rt_N q ⟨rows, rfl, ⟨by omega, by omega, fun es h => (hrow es h).1, fun es h e he => ((hrow es h).2 e he).1, fun es h e he => by rw [hl]; exact ((hrow es h).2 e he).2⟩, m, rfl, by omega⟩)
    exact StD.go (G := gN (nL K H p L (rows.map (rowD encW)))) (st_ret (ev_tupV rfl rfl fun H' g' => g'.1.2.1) hrt) g' s'
end
end KX
set_option maxHeartbeats 4000000
namespace KX
open PySem PySem.Spec PyProof.Rows L2
theorem cutD_mem {xs : List PyData} {lo hi : Option Int} {d : PyData} (h : d ∈ cutD xs lo hi) : d ∈ xs := List.mem_of_mem_drop (List.mem_of_mem_take h)
theorem cutD2_len {xs : List PyData} : (cutD xs (some 2) none).length ≤ xs.length - 2 := by
  unfold cutD
  have e1 : HT.sIx xs.length 0 (some 2) = min 2 xs.length := HT.sIx_nat _ _ 2
  rw [e1, List.length_take, List.length_drop]
  omega
section
variable {P : Program} {w : World} {K : PySem.W.Frag} {mg : Str → Option Value} {base : Heap} {p : Addr} {g : Gn p} {ss : List SV} {tx : TE} {us : TS} {D : Ends} {R : PyData → Prop} {es : List PyData} {i : Nat} {M : Addr}
theorem s_cat2 (h : EvN K p tx ss R) (hi : ss[i]? = some (.v (.ref M))) (hl : es.length ≤ 100) (k : ∀ N d, R d → StD K (gN (nM K g N (d :: cutD es (some 2) none))) us D (ss.set i (.v (.ref N)))) :
    StD K (gN (nM K g M es)) (tSeq (tAsg (tOp rCat (tLst (tCons tx tNil)) (tSl (rSlL K) (tVar i) (tPart (tC (.int 2))) tNoPart)) (gName i)) us) D ss := fun σ H gp s => by
  obtain ⟨⟨gq, ⟨vs, hv, tv⟩, hne⟩, hp⟩ := gp
  refine h σ H hp s _ fun v d H1 e1 p1 r a => ⟨Nat.le_of_ble_eq_true rfl, fun l hl1 => ⟨.ref M, s.v hi, 2, rfl, M, vs, rfl, ?_, fun q hq => ?_⟩⟩
  · exact SqL.of ((Same.new hl1) _ _ (e1 _ _ hv hne))
  have s1 := Same.new (o := HO.lst [v]) hl1
  have s2 := Same.new (o := HO.lst (cutV vs (some 2) none)) hq
  have ecut : DTs K H1 (cutV vs (some 2) none) (cutD es (some 2) none) := by
    have t := tv.mono (e1.tp hp)
    unfold cutD cutV
    rw [t.len]
    exact (t.drop _).take _
  refine ⟨l, q, [v], cutV vs (some 2) none, rfl, rfl, s2 _ _ upd_same, upd_same, ?_, fun N hN => ?_⟩
  · have h1 := cutD2_len (xs := es)
    have h2 := ecut.len
    exact Nat.le_of_lt (small1000 (by rw [List.length_singleton, h2]; omega))
  have s3 := Same.new (o := HO.lst ([v] ++ cutV vs (some 2) none)) hN
  have sm := (s1.trans s2).trans s3
  have hNp : N ≠ p := by
    obtain ⟨_, _, _, z⟩ := p1.mono (s1.trans s2)
    exact fun z2 => by rw [z2, z] at hN; cases hN
  exact k N d r _ _ ⟨⟨g.mono _ _ gq hp (e1.trans sm.frP), ⟨_, upd_same, .cons (a.mono sm.tp) (ecut.mono sm.tp)⟩, hNp⟩, p1.mono sm⟩ (((s.mono (e1.tp hp)).mono sm.tp).set (s := .v (.ref N)) rfl)
theorem s_appM {r : List V → Hp → VK → Prop} (hr : r = fun xs H Q => ∃ p ys, xs = [.ref p] ∧ ((SqL K H p ys ∧ ∀ l, H l = none → Q (.ref l) (upd H l (.tup ys))) ∨ (SqT K H p ys ∧ Q (.ref p) H))) {H0 : Hp} {L N : Addr} {i j : Nat} {rows es : List PyData} (hi : ss[i]? = some (.v (.ref L))) (hj : ss[j]? = some (.v (.ref N))) (L0 : H0 L = none) (hn : rows.length ≤ 1000) (k : StD K (gN (nL K H0 p L (rows ++ [.tuple es]))) tNext D ss) :
    StD K (gN (nM K (nL K H0 p L rows) N es)) (tDrop (tBM K "list" rAppend (tVar i) (tCons (tCB r (tCons (tVar j) tNil)) tNil))) D ss := by
  refine s_app (L := L) (ds := rows) (d := .tuple es) (G2 := gN (nL K H0 p L (rows ++ [.tuple es]))) (ev_tupV hr hj fun H' g' => g'.1.2.1) hi (fun H' g' => g'.1.1.2.1) hn (fun H' vs v g' hv hd => ?_) k
  refine ⟨⟨fun b o hb hn2 => ?_, ⟨_, upd_same, hd⟩, g'.1.1.2.2⟩, ?_⟩
  · have hbL : b ≠ L := fun z => by rw [z, L0] at hb; cases hb
    exact (upd_ne hbL).trans (g'.1.1.1 _ _ hb hn2)
  · obtain ⟨a, b, c, z⟩ := g'.2
    exact ⟨a, b, c, (upd_ne g'.1.1.2.2.symm).trans z⟩
theorem sc_L_mirror_nodes : FnScope ["_law_pen_here", "_law_most", "_law_at", "_law_many", "_law_nodes", "_law_line", "_law_wide", "_law_edges", "_law_lap"] ["_law_pen_here", "_law_most"] (defScope s_L_mirror_nodes) := ⟨rfl, rfl, rfl, by decide +kernel, rfl, by decide +kernel, by decide +kernel⟩
theorem ok__law_mirror_nodes (T : Tx w K mg) : FnN P w K mg base 5 a__law_mirror_nodes (spP K preN fun ds d => ∃ ns, d = gD PyData.str ns ∧ GOk (· ∈ msteps) ns ∧ ∃ m : Int, ds = [.int m] ∧ ns.length ≤ m) := by
  obtain ⟨fd, F⟩ := T.F_L_mirror_nodes
  refine F.okN rfl sc_L_mirror_nodes (fun _ _ _ _ _ _ us hl => match us, hl with | [_, _], _ => rfl) (fun vs H Q h => ?_) (fun A outer s H vs Q hr h => ⟨_, (pss_cons (ps_asg (pe_tup (pa_cons (pe_op op_add pe_int (pe_cl (ok__law_draw T) (hr.mono (by decide)) T.kp__law_draw T.g__law_draw (pa_cons (pv 0) (pa_cons (pv 1) pa_nil)))) (pa_cons (pe_lst pa_nil) (pa_cons (pe_cl (ok__law_draw T) (hr.mono (by decide)) T.kp__law_draw T.g__law_draw (pa_cons (pv 0) (pa_cons pe_int pa_nil))) pa_nil)))) (pg_tup rfl (pgs_cons (pg_name (i := 3) sc_L_mirror_nodes.nd rfl (Or.inr rfl)) (pgs_cons (pg_name (i := 4) sc_L_mirror_nodes.nd rfl (Or.inl rfl)) (pgs_cons (pg_name (i := 5) sc_L_mirror_nodes.nd rfl (Or.inl rfl)) pgs_nil))))) (pss_cons (ps_for PassesOwn.never rfl (pi_range1 (by rfl) T.z_range (pa_cons (pv 3) pa_nil)) (pg_name (i := 2) sc_L_mirror_nodes.nd rfl (Or.inl rfl)) (pss_cons (ps_set (i := 6) sc_L_mirror_nodes.nd rfl (Or.inl rfl) (pe_cl (ok__law_pick T) (hr.mono (by decide)) T.kp__law_pick T.g__law_pick (pa_cons (pv 0) (pa_cons (pe_lst (pa_cons pe_int (pa_cons pe_int (pa_cons pe_int (pa_cons pe_int (pa_cons pe_int (pa_cons pe_int (pa_cons pe_int pa_nil)))))))) pa_nil)))) (pss_cons (ps_setLc (i := 7) (own := [("_law_lap", 8)]) (by rfl) sc_L_mirror_nodes.nd rfl rfl (sw_true rfl rfl rfl (by decide +kernel)) (pi_range1 (by rfl) T.z_range (pa_cons (pv 6) pa_nil)) (blkOk_by (N := ["_law_pen_here", "_law_most", "_law_at", "_law_many", "_law_nodes", "_law_line", "_law_wide", "_law_edges", "_law_lap"]) (sc := defScope s_L_mirror_nodes) (by decide +kernel)) (fun _ _ _ _ _ => by exact (pg_name (i := 8) sc_L_mirror_nodes.nd rfl (Or.inl rfl))) (fun _ _ _ _ _ => pts_nil) (fun _ _ _ _ _ => (pe_tup (pa_cons (pe_cl (ok__law_mirror_step T) (hr.mono (by decide)) T.kp__law_mirror_step T.g__law_mirror_step (pa_cons (pv 0) pa_nil)) (pa_cons (pe_cl (ok__law_draw T) (hr.mono (by decide)) T.kp__law_draw T.g__law_draw (pa_cons (pv 0) (pa_cons (pv 3) pa_nil))) pa_nil))))) (pss_cons (ps_if (PW.pt (pw_and (pt_cmpR op_eq (pv 5) pe_int (nomark _)) (pw_and1 (pt_cmpR op_lt (pe_op op_add (pv 2) pe_int) (pv 3) (nomark _))))) (pss_one (ps_set (i := 7) sc_L_mirror_nodes.nd rfl (Or.inl rfl) (pe_op op_cat (pe_lst (pa_cons (pe_tup (pa_cons (pe_cl (ok__law_mirror_step T) (hr.mono (by decide)) T.kp__law_mirror_step T.g__law_mirror_step (pa_cons (pv 0) pa_nil)) (pa_cons (pe_op op_add (pv 2) pe_int) pa_nil))) pa_nil)) (pe_slice sl_list (pv 7) (po_some pe_int) po_none)))) pss_nil) (pss_one (ps_expr (pe_bm PySem.F.plainAttrs_list PySem.F.slot_list_append PySem.F.type_list_append mt_append (pv 4) (pa_cons (pe_callTy call_tuple_of (by rfl) T.z_tuple (by decide +kernel) (pa_cons (pv 7) pa_nil)) pa_nil)))))))) (pss_one (ps_ret (pe_callTy call_tuple_of (by rfl) T.z_tuple (by decide +kernel) (pa_cons (pv 4) pa_nil)))))), ?_⟩)
  · obtain ⟨p, vs', ds, rfl, _, h1, ⟨_, rfl, _⟩, _⟩ := h
    exact congrArg Nat.succ h1.len
  obtain ⟨p, vs', ds, rfl, hp, hd, ⟨m, rfl, m0, m6⟩, q⟩ := h
  cases hd with
  | cons d1 nl =>
  cases nl
  have s0 : DS K H (start ["_law_pen_here", "_law_most", "_law_at", "_law_many", "_law_nodes", "_law_line", "_law_wide", "_law_edges", "_law_lap"] [.ref p, _]) [.v (.ref p), .d (.int m), .no, .no, .no, .no, .no, .no, .no] := .cons (s := .v _) rfl (.cons (s := .d _) ⟨_, rfl, d1⟩ (DS.nos 7))
  refine (evn_rI (f := fun i j => i + j) (evn_int ev_int) (evn_draw rfl (ev_var rfl) ⟨m0, by omega⟩)) _ H hp s0 _ fun v d H1 e1 p1 ⟨i, ed, a, b, ea, ⟨b0, b1⟩, ei⟩ dv => ?_
  subst ed
  obtain ⟨k, hk⟩ : ∃ k : Nat, i = k := ⟨i.toNat, (Int.toNat_of_nonneg (by omega)).symm⟩
  subst hk
  have k1 : 1 ≤ k := by omega
  have k6 : (k : Int) ≤ m := by omega
  refine ⟨Nat.zero_le _, fun L hL => ?_⟩
  have L0 : H L = none := e1.free hL p1
  have sL := Same.new (o := HO.lst []) hL
  have hne : L ≠ p := by
    obtain ⟨_, _, _, z⟩ := p1
    exact fun z2 => by rw [z2, z] at hL; cases hL
  have s1 := (s0.mono (e1.tp hp)).mono sL.tp
  refine (evn_draw (m := 2) rfl ev_int ⟨by decide, by decide⟩) _ _ (p1.mono sL) s1 _ fun v2 d2 H2 e2 p2 ⟨r, er, _, _⟩ dv2 => ⟨by show 3 ≤ sizeLine; decide, fun t ht => ⟨t, _, rfl, SqT.of upd_same, rfl, _, _, rfl, _, _, rfl, _, _, rfl, rfl, ?_⟩⟩
  subst er
  have st := Same.new (o := HO.tup [v, .ref L, v2]) ht
  have eH : FrP p H (upd H2 t (.tup [v, .ref L, v2])) := (e1.trans sL.frP).trans (e2.trans st.frP)
  refine StD.go (G := gN (nL K H p L [])) (ss := [.v (.ref p), .d (.int m), .no, .d (.int (k : Nat)), .v (.ref L), .d (.int r), .no, .no, .no]) ?_ ⟨⟨eH, ⟨[], st _ _ (e2 _ _ upd_same hne), .nil⟩, hne⟩, p2.mono st⟩ ((((s1.mono ((e2.trans st.frP).tp (p1.mono sL))).set (i := 3) (s := .d (.int (k : Nat))) ⟨_, rfl, ((dv.mono sL.tp).mono (e2.tp (p1.mono sL))).mono st.tp⟩).set (i := 4) (s := .v (.ref L)) rfl).set (i := 5) (s := .d (.int r)) ⟨_, rfl, dv2.mono st.tp⟩)
  refine q_forRng (fun j σ' H' => ∃ rows : List (List (Str × Nat)), rows.length = j ∧ (∀ es ∈ rows, RowOk (· ∈ msteps) k es) ∧ (gN (nL K H p L (rows.map (rowD PyData.str)))).p H' ∧ DS K H' σ' [.v (.ref p), .d (.int m), .no, .d (.int (k : Nat)), .v (.ref L), .d (.int r), .no, .no, .no]) (ev_var rfl) (by omega) (fun σ' H' g' s' => ⟨[], rfl, fun _ h => by (cases h), g', s'⟩) (fun j σ' H' hj ⟨rows, hl, hrow, g', s'⟩ => ?_) (fun σ' H' ⟨rows, hl, hrow, g', s'⟩ => ?_)
  · refine StD.go ?_ g' (s'.set (i := 2) (s := .d (.int (j : Nat))) ⟨_, rfl, .int _⟩)
    refine q_setN (evn_pickL rfl (eva_cons ev_int (eva_cons ev_int (eva_cons ev_int (eva_cons ev_int (eva_cons ev_int (eva_cons ev_int (eva_cons ev_int eva_nil))))))) (by decide) (by decide)) fun d hd => ?_
    obtain ⟨c, hc, c3⟩ : ∃ c : Nat, d = .int (c : Nat) ∧ c ≤ 3 := by
      obtain ⟨c, hc, e⟩ := List.mem_map.mp (show d ∈ ([1, 1, 1, 2, 2, 3, 0] : List Nat).map (fun c : Nat => PyData.int (c : Nat)) from hd)
      have h2 : ∀ x ∈ ([1, 1, 1, 2, 2, 3, 0] : List Nat), x ≤ 3 := by decide
      exact ⟨c, e.symm, h2 c hc⟩
    subst hc
    have step : ∀ {ss : List SV}, ss[0]? = some (.v (.ref p)) → EvN K p (tCl (spP K (· = []) fun _ d => ∃ z ∈ msteps, d = .str z) (tCons (tVar 0) tNil)) ss (fun d => ∃ a : Str, d = .str a ∧ a ∈ msteps) := fun h => (evn_pen h evna_nil fun _ h => h).imp fun d ⟨_, _, z, hz, e⟩ => ⟨z, e, hz⟩
    refine q_setNL (eln_rng (k := c) (R := EdgeR PyData.str (· ∈ msteps) k) (ev_var rfl) (by omega) fun i hi => evn_edge (step rfl) (evn_draw rfl (ev_var rfl) ⟨by omega, by omega⟩)) fun Hm M es gq hM ⟨hel, heR⟩ => ?_
    have hML : L ≠ M := fun z => by
      obtain ⟨_, ⟨vs, hv, _⟩, _⟩ := gq
      rw [z, hM] at hv
      cases hv
    have hel3 : es.length ≤ 3 := by omega
    have fin : ∀ (es : List PyData) (N : Addr) (σ2 : L2.St) (H2 : Hp), RowR PyData.str (· ∈ msteps) k (.tuple es) → (gN (nL K H p L (rows.map (rowD PyData.str) ++ [.tuple es]))).p H2 → DS K H2 σ2 [.v (.ref p), .d (.int m), .d (.int (j : Nat)), .d (.int (k : Nat)), .v (.ref L), .d (.int r), .d (.int (c : Nat)), .v (.ref N), .no] → ∃ rows : List (List (Str × Nat)), rows.length = j + 1 ∧ (∀ es ∈ rows, RowOk (· ∈ msteps) k es) ∧ (gN (nL K H p L (rows.map (rowD PyData.str)))).p H2 ∧ DS K H2 σ2 [.v (.ref p), .d (.int m), .no, .d (.int (k : Nat)), .v (.ref L), .d (.int r), .no, .no, .no] := fun es N σ2 H2 ⟨es2, ed, oes⟩ g2 s2 => by
      rw [ed] at g2
      refine ⟨rows ++ [es2], by rw [List.length_append, hl] <;> rfl, fun es' h => ?_, by rw [List.map_append]; exact g2, s2.wk ⟨.inr rfl, .inr rfl, .inl rfl, .inr rfl, .inr rfl, .inr rfl, .inl rfl, .inl rfl, .inr rfl, trivial⟩⟩
      rcases List.mem_append.mp h with h | h
      · exact hrow es' h
      · have e : es' = es2 := by simpa using h
        exact e ▸ oes
    have hrl : (rows.map (rowD PyData.str)).length ≤ 1000 := by rw [List.length_map]; omega
    refine q_if (b := decide (r = 1) && decide (((j : Nat) : Int) + 1 < (k : Nat))) (evt_and (evt_test (ev_eqi (ev_var rfl) ev_int)) fun _ => evt_test (ev_rB (ev_rI (ev_var rfl) ev_int) (ev_var rfl))) (fun hb => ?_) (fun hb => ?_)
    · have hjk : j + 1 < k := by
        have h2 := (Bool.and_eq_true_iff.mp hb).2
        have h3 := of_decide_eq_true h2
        omega
      have ed : EvN K p (tTup (tCons (tCl (spP K (· = []) fun _ d => ∃ z ∈ msteps, d = .str z) (tCons (tVar 0) tNil)) (tCons (tOp (rI0 fun i j => .int (i + j)) (tVar 2) (tC (.int 1))) tNil))) [.v (.ref p), .d (.int m), .d (.int (j : Nat)), .d (.int (k : Nat)), .v (.ref L), .d (.int r), .d (.int (c : Nat)), .v (.ref M), .no] (EdgeR PyData.str (· ∈ msteps) k) :=
        evn_edge (step rfl) ((evn_of (ev_rI (ev_var rfl) ev_int)).imp fun d e => ⟨(j : Int) + 1, e, by omega, by omega⟩)
      have mid := s_cat2 (K := K) (g := nL K H p L (rows.map (rowD PyData.str))) (us := tDrop (tBM K "list" rAppend (tVar 4) (tCons (tCB (fun xs H Q => ∃ p ys, xs = [.ref p] ∧ ((SqL K H p ys ∧ ∀ l, H l = none → Q (.ref l) (upd H l (.tup ys))) ∨ (SqT K H p ys ∧ Q (.ref p) H))) (tCons (tVar 7) tNil)) tNil))) (D := { nx := fun σ' H' => ∃ rows : List (List (Str × Nat)), rows.length = j + 1 ∧ (∀ es ∈ rows, RowOk (· ∈ msteps) k es) ∧ (gN (nL K H p L (rows.map (rowD PyData.str)))).p H' ∧ DS K H' σ' [.v (.ref p), .d (.int m), .no, .d (.int (k : Nat)), .v (.ref L), .d (.int r), .no, .no, .no], rt := Q, bk := fun σ H => tRet (tCB (fun xs H Q => ∃ p ys, xs = [.ref p] ∧ ((SqL K H p ys ∧ ∀ l, H l = none → Q (.ref l) (upd H l (.tup ys))) ∨ (SqT K H p ys ∧ Q (.ref p) H))) (tCons (tVar 4) tNil)) { nx := fun _ H' => Q .non H', rt := Q } σ H, ct := fun σ' H' => ∃ rows : List (List (Str × Nat)), rows.length = j + 1 ∧ (∀ es ∈ rows, RowOk (· ∈ msteps) k es) ∧ (gN (nL K H p L (rows.map (rowD PyData.str)))).p H' ∧ DS K H' σ' [.v (.ref p), .d (.int m), .no, .d (.int (k : Nat)), .v (.ref L), .d (.int r), .no, .no, .no] }) ed (i := 7) (M := M) (es := es) rfl (by omega) fun N d hd => s_appM rfl rfl rfl L0 hrl fun σ2 H2 g2 s2 => fin _ N σ2 H2 (row_of (fun d' hd' => by
          rcases List.mem_cons.mp hd' with h | h
          · exact h ▸ hd
          · exact heR d' (cutD_mem h)) (by
            have := cutD2_len (xs := es)
            rw [List.length_cons]
            omega)) g2 s2
      exact mid
    · exact s_appM rfl rfl rfl L0 hrl fun σ2 H2 g2 s2 => fin es M σ2 H2 (row_of heR hel3) g2 s2
  · have hrt : RtD K (gN (nL K H p L (rows.map (rowD PyData.str)))) { nx := fun _ H' => Q .non H', rt := Q } (gD PyData.str rows) := RtD.weak (G := gN (nS H p)) (fun H' g' => ⟨g'.1.1, g'.2⟩) (rt_N q ⟨rows, rfl, ⟨by omega, by omega, fun es h => (hrow es h).1, fun es h e he => ((hrow es h).2 e he).1, fun es h e he => by rw [hl]; exact ((hrow es h).2 e he).2⟩, m, rfl, by omega⟩)
    exact StD.go (G := gN (nL K H p L (rows.map (rowD PyData.str)))) (st_ret (ev_tupV rfl rfl fun H' g' => g'.1.2.1) hrt) g' s'
end
end KX
set_option maxHeartbeats 4000000
namespace KX
open PySem PySem.Spec PyProof.Rows L2
/-- a graph's object -/
def GAt {α : Type} (K : PySem.W.Frag) (H : Hp) (C : Addr) (enc : α → PyData) (x : Addr) (ns : List (List (α × Nat))) (fs : List Nat) : Prop := ∃ dx v1 v2, H x = some (.ins C dx [("nodes", v1), ("finals", v2)]) ∧ DT K H v1 (gD enc ns) ∧ DT K H v2 (fD fs)
theorem GAt.mono {α : Type} {K : PySem.W.Frag} {H H' : Hp} {C x : Addr} {enc : α → PyData} {ns : List (List (α × Nat))} {fs : List Nat} (h : GAt K H C enc x ns fs) (e : Same H H') : GAt K H' C enc x ns fs := by
  obtain ⟨dx, v1, v2, h1, h2, h3⟩ := h
  exact ⟨dx, v1, v2, e _ _ h1, h2.mono e.tp, h3.mono e.tp⟩
def spGraph (K : PySem.W.Frag) : SpN := fun vs H Q => ∃ x C dx v1 v2, vs = [.ref x, v1, v2] ∧ H x = some (.ins C dx []) ∧ Cls K C ∧ NoAttr K C "nodes" ∧ NoAttr K C "finals" ∧ Q .non (upd H x (.ins C dx [("nodes", v1), ("finals", v2)]))
/-- a graph's own __init__ -/
def spGI {α : Type} (K : PySem.W.Frag) (C : Addr) (enc : α → PyData) (ok : α → Prop) (more : List (List (α × Nat)) → Prop) : SpN := fun vs H Q => ∃ x dx v1 v2 ns fs, vs = [.ref x, v1, v2] ∧ H x = some (.ins C dx []) ∧ DT K H v1 (gD enc ns) ∧ DT K H v2 (fD fs) ∧ GOk ok ns ∧ FOk ns.length fs ∧ more ns ∧
  ∀ H', Fr (· = x) H H' → GAt K H' C enc x ns fs → Q .non H'
section
variable {P : Program} {w : World} {K : PySem.W.Frag} {mg : Str → Option Value} {base : Heap}
theorem sc_Graph_D_init_D : FnScope ["self", "nodes", "finals"] ["self", "nodes", "finals"] (defScope s_Graph_D_init_D) := ⟨rfl, rfl, rfl, by decide +kernel, rfl, by decide +kernel, by decide +kernel⟩
theorem ok_Graph_D_init_D (T : Tx w K mg) : FnN P w K mg base 1 m_Graph___init__ (spGraph K) := by
  obtain ⟨fd, F⟩ := T.F_Graph_D_init_D
  refine F.okN rfl sc_Graph_D_init_D (fun _ _ _ _ _ _ us hl => match us, hl with | [_, _, _], _ => rfl) (fun vs H Q h => ?_) (fun A outer s H vs Q hr h => ⟨_, (pss_cons (ps_fld (pv 0) (pv 1) rfl) (pss_one (ps_fld (pv 0) (pv 2) rfl))), ?_⟩)
  · obtain ⟨x, C, dx, v1, v2, rfl, _⟩ := h
    rfl
  obtain ⟨x, C, dx, v1, v2, rfl, hx, c, n1, n2, q⟩ := h
  refine ⟨v1, rfl, .ref x, rfl, x, C, dx, [], rfl, hx, c, n1, by decide, v2, rfl, .ref x, rfl, x, C, dx, _, rfl, upd_same, c, n2, Nat.le_of_ble_eq_true rfl, ?_⟩
  show Q .non _
  rw [upd_upd]
  exact q
theorem sc_Question_D_init_D : FnScope ["self", "graph"] ["self", "graph"] (defScope s_Question_D_init_D) := ⟨rfl, rfl, rfl, by decide +kernel, rfl, by decide +kernel, by decide +kernel⟩
theorem ok_Question_D_init_D (T : Tx w K mg) : FnN P w K mg base 1 m_Question___init__ (fun vs H Q => ∃ x dx v, vs = [.ref x, v] ∧ H x = some (.ins a_Stale dx []) ∧ Q .non (upd H x (.ins a_Stale dx [("graph", v)]))) := by
  obtain ⟨fd, F⟩ := T.F_Question_D_init_D
  refine F.okN rfl sc_Question_D_init_D (fun _ _ _ _ _ _ us hl => match us, hl with | [_, _], _ => rfl) (fun vs H Q h => ?_) (fun A outer s H vs Q hr h => ⟨_, (pss_one (ps_fld (pv 0) (pv 1) rfl)), ?_⟩)
  · obtain ⟨x, dx, v1, rfl, _⟩ := h
    rfl
  obtain ⟨x, dx, v1, rfl, hx, q⟩ := h
  exact ⟨v1, rfl, .ref x, rfl, x, _, dx, [], rfl, hx, T.c_Stale, T.n_Stale_graph, by decide, q⟩
theorem an_m (T : Tx w K mg) : FnN P w K mg base 4 a_are_nodes (fun vs H Q => ∃ v ns, vs = [v, .ref a_is_mirror_step] ∧ DT K H v (gD PyData.str ns) ∧ GOk (· ∈ msteps) ns ∧ ∀ H', Same H H' → Q (.bl true) H') :=
  ok_are_nodes T ((ok_is_mirror_step T).mono (by decide)) T.kp_is_mirror_step PyData.str (· ∈ msteps) "" fun a ha => ⟨a, rfl, by rw [decide_eq_true ha]⟩
theorem ev_an {G : Gm} {ss : List SV} {ta : TE} {α : Type} {f : Addr} {enc : α → PyData} {ok : α → Prop} {ns : List (List (α × Nat))} (h : EvD K G ta ss (gD enc ns)) (g : GOk ok ns) :
    EvD K G (tCl (fun vs H Q => ∃ v ns, vs = [v, .ref f] ∧ DT K H v (gD enc ns) ∧ GOk ok ns ∧ ∀ H', Same H H' → Q (.bl true) H') (tCons ta (tCons (tC (.ref f)) tNil))) ss (.bool true) := fun σ H gg s Q q =>
  h σ H gg s _ fun v H1 e1 a => ⟨v, ns, rfl, a, g, fun H2 e2 => q _ H2 (e1.trans e2) (.bl true)⟩
theorem sc_Mirror_D_init_D : NdefX.NScope ["self", "nodes", "finals", "__class__"] ["self", "nodes", "finals"] ["__class__"] (defScope s_Mirror_D_init_D) := NdefX.nscope_by (by decide +kernel)
theorem ok_Mirror_D_init_D (T : Tx w K mg) (Pf : PF P) : FnN P w K mg base 5 m_Mirror___init__ (spGI K a_Mirror PyData.str (· ∈ msteps) fun _ => True) := by
  obtain ⟨fd, F⟩ := T.F_Mirror_D_init_D
  refine F.okS rfl (T.sup_Mirror.cell) sc_Mirror_D_init_D (fun _ _ _ _ _ _ us hl => match us, hl with | [_, _, _], _ => rfl) (fun vs H Q h => ?_) (fun A outer s H vs Q hr h => ⟨_, (pat_cons (ps_if (PW.pt (pw_or (pt_not (pt_val (pe_cl (an_m T) (hr.mono (by decide)) T.kp_are_nodes T.g_are_nodes (pa_cons (pv 1) (pa_cons (pe_gr T.g_is_mirror_step) pa_nil))))) (pw_or1 (pt_not (pt_val (pe_cl (ok_are_finals T) (hr.mono (by decide)) T.kp_are_finals T.g_are_finals (pa_cons (pv 2) (pa_cons (pe_callB call_len (by rfl) T.z_len PySem.boot_len (pa_cons (pv 1) pa_nil)) pa_nil)))))))) (pss_one ps_never) pss_nil) (pat_super T.sup_Mirror Pf F (ok_Graph_D_init_D T) (hr.mono (by decide)) (pa_cons (pv 1) (pa_cons (pv 2) pa_nil)) pss_nil (by obtain ⟨_, F2⟩ := T.F_Graph_D_init_D; exact F2.fi) T.z_super T.stat rfl rfl rfl)), ?_⟩)
  · obtain ⟨x, dx, v1, v2, ns, fs, rfl, _⟩ := h
    rfl
  obtain ⟨x, dx, v1, v2, ns, fs, rfl, hx, d1, d2, g, f, _, q⟩ := h
  have s0 : DS K H (NdefX.startF ["self", "nodes", "finals", "__class__"] [.ref x, v1, v2] [none]) [.v (.ref x), .d (gD PyData.str ns), .d (fD fs), .no] := .cons (s := .v _) rfl (.cons (s := .d _) ⟨v1, rfl, d1⟩ (.cons (s := .d _) ⟨v2, rfl, d2⟩ (.cons (s := .no) trivial .nil)))
  refine (?_ : StD K (gS H) _ _ _) _ H (Same.refl H) s0
  refine q_not (evt_oF (evt_nF (evt_test (ev_an (ev_var rfl) g))) (evt_nF (evt_test (ev_cl (eva_cons (ev_var rfl) (eva_cons (ev_len rfl (ev_var rfl)) eva_nil)) ⟨fs, ns.length, by rw [List.length_map], f, rfl⟩)))) ?_
  intro σ H1 e1 s1
  have e1 : Same H H1 := e1
  obtain ⟨u1, p1, t1⟩ := s1.d (i := 1) rfl
  obtain ⟨u2, p2, t2⟩ := s1.d (i := 2) rfl
  refine ⟨x, dx, [], s1.v rfl, e1 _ _ hx, u1, p1, u2, p2, x, _, dx, u1, u2, rfl, e1 _ _ hx, T.c_Mirror, T.n_Mirror_nodes, T.n_Mirror_finals, ?_⟩
  refine q _ (fun b o hb hn => (upd_ne hn).trans (e1 _ _ hb)) ⟨dx, u1, u2, upd_same, ?_, ?_⟩
  · exact t1.mono (Tp.upd (e1 _ _ hx) rfl)
  · exact t2.mono (Tp.upd (e1 _ _ hx) rfl)
end
end KX
set_option maxHeartbeats 4000000
namespace KX
open PySem PySem.Spec PyProof.Rows L2
/-! ### runs -/
section
variable {α : Type} [Inhabited α]
def nxS (ns : List (List (α × Nat))) (a : Nat) (l : Int) : Nat × Option α := if l = -1 then (a, none) else (((ns.getD a []).getD l.toNat default).2, some ((ns.getD a []).getD l.toNat default).1)
def fol (ns : List (List (α × Nat))) (run : List Int) : Nat × List (Option α) := run.foldl (fun p l => ((nxS ns p.1 l).1, p.2 ++ [(nxS ns p.1 l).2])) (0, [])
theorem fol_snoc {ns : List (List (α × Nat))} {run : List Int} {l : Int} : fol ns (run ++ [l]) = ((nxS ns (fol ns run).1 l).1, (fol ns run).2 ++ [(nxS ns (fol ns run).1 l).2]) := by
  unfold fol
  rw [List.foldl_append] <;> rfl
def okL (oth : Bool) (ns : List (List (α × Nat))) (a : Nat) (l : Int) : Prop := (l = -1 ∧ oth = true) ∨ (0 ≤ l ∧ l < ((ns.getD a []).length : Int))
def RunV (oth : Bool) (ns : List (List (α × Nat))) (run : List Int) : Prop := ∀ j, j < run.length → okL oth ns (fol ns (run.take j)).1 (run.getD j 0)
theorem take_succ' {run : List Int} {j : Nat} (h : j < run.length) : run.take (j + 1) = run.take j ++ [run.getD j 0] := by
  rw [List.take_succ, List.getD_eq_getElem?_getD, List.getElem?_eq_getElem h] <;> rfl
theorem fol_lt {oth : Bool} {ok : α → Prop} {ns : List (List (α × Nat))} {run : List Int} (g : GOk ok ns) (v : RunV oth ns run) : ∀ j, j ≤ run.length → (fol ns (run.take j)).1 < ns.length
  | 0, _ => by
    have h1 := g.one
    show 0 < ns.length
    omega
  | j + 1, hj => by
    have ih := fol_lt g v j (by omega)
    rw [take_succ' (by omega), fol_snoc]
    unfold nxS
    split
    · exact ih
    · rcases v j (by omega) with h | ⟨h1, h2⟩
      · exact absurd h.1 (by assumption)
      · have hm : ns.getD (fol ns (run.take j)).1 [] ∈ ns := by
          rw [List.getD_eq_getElem?_getD, List.getElem?_eq_getElem ih]
          exact List.getElem_mem ih
        refine g.there _ hm _ ?_
        exact getD_mem' _ (by omega)
theorem fol_len {ns : List (List (α × Nat))} : ∀ (run : List Int) , (fol ns run).2.length = run.length := by
  intro run
  have h : ∀ (run : List Int) (p : Nat × List (Option α)), (run.foldl (fun p l => ((nxS ns p.1 l).1, p.2 ++ [(nxS ns p.1 l).2])) p).2.length = p.2.length + run.length := by
    intro run
    induction run with
    | nil => intro p; rfl
    | cons l r ih =>
      intro p
      rw [List.foldl_cons, ih]
      simp
      omega
  have q := h run (0, [])
  unfold fol
  rw [q]
  simp
end
def stD {α : Type} (enc : α → PyData) : Option α → PyData
  | none => .str "other"
  | some a => enc a
def spFol {α : Type} [Inhabited α] (K : PySem.W.Frag) (C : Addr) (enc : α → PyData) : SpN := fun vs H Q => ∃ x v ok ns fs run oth, vs = [.ref x, v, .bl oth] ∧ GAt K H C enc x ns fs ∧ GOk ok ns ∧ DT K H v (.tuple (run.map .int)) ∧ RunV oth ns run ∧ run.length ≤ 900 ∧
  ∀ v H', Same H H' → DT K H' v (.tuple ((fol ns run).2.map (stD enc))) → Q v H'
theorem ev_fld {K : PySem.W.Frag} {G : Gm} {ss : List SV} {ta : TE} {a : Addr} {f : Str} {d : PyData} (h : EvV K G ta ss (.ref a)) (hi : ∀ H, G.p H → ∃ C dx fs v, H a = some (.ins C dx fs) ∧ Cls K C ∧ NoAttr K C f ∧ fs.lookup f = some v ∧ DT K H v d) : EvD K G (tFld K ta f) ss d := fun σ H g s Q q =>
  h σ H g s _ fun H1 e1 => by
    obtain ⟨C, dx, fs, v, h1, c, n, l, t⟩ := hi H1 (G.mono _ _ g e1)
    exact ⟨a, C, dx, fs, v, rfl, h1, c, n, l, q v H1 e1 t⟩
section
variable {P : Program} {w : World} {K : PySem.W.Frag} {mg : Str → Option Value} {base : Heap}
theorem sc_Graph_followed : FnScope ["self", "run", "has_others", "at", "found", "label", "step"] ["self", "run", "has_others"] (defScope s_Graph_followed) := ⟨rfl, rfl, rfl, by decide +kernel, rfl, by decide +kernel, by decide +kernel⟩
theorem ok_Graph_followed {α : Type} [Inhabited α] {enc : α → PyData} {C : Addr} (T : Tx w K mg) (c : Cls K C) (nn : NoAttr K C "nodes") : FnN P w K mg base 2 m_Graph_followed (spFol K C enc) := by
  obtain ⟨fd, F⟩ := T.F_Graph_followed
  refine F.okN rfl sc_Graph_followed (fun _ _ _ _ _ _ us hl => match us, hl with | [_, _, _], _ => rfl) (fun vs H Q h => ?_) (fun A outer s H vs Q hr h => ⟨_, (pss_cons (ps_if (pt_not (pt_val (pe_callB call_isi (by rfl) T.z_isinstance (by decide +kernel) (pa_cons (pv 1) (pa_cons (pe_ty (n := "tuple") T.z_tuple (by decide +kernel)) pa_nil))))) (pss_one ps_never) pss_nil) (pss_cons (ps_set (i := 3) sc_Graph_followed.nd rfl (Or.inl rfl) pe_int) (pss_cons (ps_set (i := 4) sc_Graph_followed.nd rfl (Or.inl rfl) (pe_lst pa_nil)) (pss_cons (ps_for PassesOwn.never rfl (pi_tup (pv 1)) (pg_name (i := 5) sc_Graph_followed.nd rfl (Or.inl rfl)) (pss_one (ps_if (PW.pt (pw_and (pt_val (pv 2)) (pw_and1 (pt_val (pe_cl (ok_is_between T) (hr.mono (by decide)) T.kp_is_between T.g_is_between (pa_cons (pv 5) (pa_cons (pe_ci T.i_OTHER) (pa_cons (pe_ci T.i_OTHER) pa_nil)))))))) (pss_one (ps_expr (pe_bm PySem.F.plainAttrs_list PySem.F.slot_list_append PySem.F.type_list_append mt_append (pv 4) (pa_cons pe_str pa_nil)))) (pss_one (ps_if (pt_val (pe_cl (ok_is_between T) (hr.mono (by decide)) T.kp_is_between T.g_is_between (pa_cons (pv 5) (pa_cons pe_int (pa_cons (pe_op op_sub (pe_callB call_len (by rfl) T.z_len PySem.boot_len (pa_cons (pe_ix ix_tup (pe_fld (pv 0) rfl) (pv 3) (fun _ _ => rfl)) pa_nil)) pe_int) pa_nil))))) (pss_cons (ps_asg (pe_ix ix_tup (pe_ix ix_tup (pe_fld (pv 0) rfl) (pv 3) (fun _ _ => rfl)) (pv 5) (fun _ _ => rfl)) (pg_tup rfl (pgs_cons (pg_name (i := 6) sc_Graph_followed.nd rfl (Or.inl rfl)) (pgs_cons (pg_name (i := 3) sc_Graph_followed.nd rfl (Or.inl rfl)) pgs_nil)))) (pss_one (ps_expr (pe_bm PySem.F.plainAttrs_list PySem.F.slot_list_append PySem.F.type_list_append mt_append (pv 4) (pa_cons (pv 6) pa_nil))))) (pss_one ps_never)))))) (pss_one (ps_ret (pe_callTy call_tuple_of (by rfl) T.z_tuple (by decide +kernel) (pa_cons (pv 4) pa_nil)))))))), ?_⟩)
  · obtain ⟨x, v, ok, ns, fs, run, oth, rfl, _⟩ := h
    rfl
  obtain ⟨x, v, ok, ns, fs, run, oth, rfl, ga, g, dr, rv, hn, q⟩ := h
  have s0 : DS K H (start ["self", "run", "has_others", "at", "found", "label", "step"] [.ref x, v, .bl oth]) [.v (.ref x), .d (.tuple (run.map .int)), .d (.bool oth), .no, .no, .no, .no] := .cons (s := .v _) rfl (.cons (s := .d _) ⟨v, rfl, dr⟩ (.cons (s := .d _) ⟨_, rfl, .bl oth⟩ (DS.nos 4)))
  refine (?_ : StD K (gS H) _ _ _) _ H (Same.refl H) s0
  refine q_not (evt_nF (evt_test (ev_isi (ev_var rfl) kb_tup_tup))) (q_set ev_int (q_list fun H1 L e1 hL => ?_))
  have e1 : Same H H1 := e1
  have gn : ∀ H', Same H1 H' → ∃ C dx fs v, H' x = some (.ins C dx fs) ∧ Cls K C ∧ NoAttr K C "nodes" ∧ fs.lookup ("nodes" : Str) = some v ∧ DT K H' v (gD enc ns) := fun H' e => by
    obtain ⟨dx, v1, v2, h1, h2, h3⟩ := (ga.mono e1).mono e
    exact ⟨C, dx, _, v1, h1, c, nn, rfl, h2⟩
  refine q_forG (fun j => [.v (.ref x), .d (.tuple (run.map .int)), .d (.bool oth), .d (.int ((fol ns (run.take j)).1 : Nat)), .v (.ref L), .no, .no]) (fun j => gL K H1 L ((fol ns (run.take j)).2.map (stD enc))) (evw_tupM (0 : Int) (ev_var rfl)) ⟨.inr rfl, .inr rfl, .inr rfl, .inr rfl, .inr rfl, .inr rfl, .inr rfl, trivial⟩ (fun _ z => z) (fun Gh kp j hj => ?_) ?_
  · have hlt := fol_lt g rv j (by omega)
    have hfl : ((fol ns (run.take j)).2.map (stD enc)).length ≤ 1000 := by
      rw [List.length_map, fol_len, List.length_take]
      omega
    have hts := fol_snoc (ns := ns) (run := run.take j) (l := run.getD j 0)
    rw [← take_succ' hj] at hts
    have hok := rv j hj
    generalize run.getD j 0 = l at hts hok
    have hnd := atI_map (h := fun es : List (α × Nat) => PyData.tuple (es.map fun e => .tuple [enc e.1, .int (e.2 : Nat)])) [] hlt
    rcases hok with ⟨h1, h2⟩ | ⟨h1, h2⟩
    · subst h1 h2
      refine s_if (b := true) (evt_and (b := true) (c := true) (evt_test (ev_var rfl)) fun _ => evt_test (ev_to (ev_cl (eva_cons (ev_var rfl) (eva_cons (ev_cst fun _ => .int _) (eva_cons (ev_cst fun _ => .int _) eva_nil))) ⟨_, _, _, rfl, rfl⟩) (by decide))) (fun _ => ?_) (fun z => by cases z)
      refine s_app (L := L) (ds := (fol ns (run.take j)).2.map (stD enc)) (G2 := (gL K H1 L ((fol ns (run.take (j + 1))).2.map (stD enc))).and Gh fun H H' p e => kp H H' p e.tp) ev_str rfl (fun H' g' => g'.1.2) hfl (fun H2 vs v g2 hv hd => ?_) (st_nxV rfl ⟨.inr rfl, .inr rfl, .inr rfl, .inr (by rw [hts]; rfl), .inr rfl, .inl rfl, .inl rfl, trivial⟩)
      refine ⟨⟨Same.upd g2.1.1 hL, _, upd_same, ?_⟩, kp _ _ g2.2 (Tp.upd hv rfl)⟩
      rw [hts, List.map_append]
      exact hd
    · have hne : ¬ l = -1 := by omega
      have hlt2 : l.toNat < (ns.getD (fol ns (run.take j)).1 []).length := by omega
      refine s_if (b := false) (evt_to (evt_and (evt_test (ev_var rfl)) fun _ => evt_test (ev_cl (eva_cons (ev_var rfl) (eva_cons (ev_cst fun _ => .int _) (eva_cons (ev_cst fun _ => .int _) eva_nil))) ⟨_, _, _, rfl, rfl⟩)) ?_) (fun z => by cases z) (fun _ => ?_)
      · have hz : decide (l ≤ -1) = false := decide_eq_false (by omega)
        rw [hz]
        cases oth <;> simp
      refine s_if (b := true) (evt_to (evt_test (ev_cl (eva_cons (ev_var rfl) (eva_cons ev_int (eva_cons (ev_rI (ev_len rfl (ev_ix (ev_fld (evv_var rfl) fun H' g' => gn H' g'.1.1) (ev_var rfl) hnd)) ev_int) eva_nil))) ⟨_, _, _, rfl, rfl⟩)) ?_) (fun _ => ?_) (fun z => by cases z)
      · rw [List.length_map, decide_eq_true (by omega), decide_eq_true (by omega)] <;> rfl
      refine q_unpack (is := [6, 3]) rfl rfl (ev_ix (ev_ix (ev_fld (evv_var rfl) fun H' g' => gn H' g'.1.1) (ev_var rfl) hnd) (ev_var rfl) (atI_mapI default h1 h2)) rfl ?_
      refine s_app (L := L) (ds := (fol ns (run.take j)).2.map (stD enc)) (G2 := (gL K H1 L ((fol ns (run.take (j + 1))).2.map (stD enc))).and Gh fun H H' p e => kp H H' p e.tp) (ev_var rfl) rfl (fun H' g' => g'.1.2) hfl (fun H2 vs v g2 hv hd => ?_) (st_nxV rfl ⟨.inr rfl, .inr rfl, .inr rfl, .inr ?_, .inr rfl, .inl rfl, .inl rfl, trivial⟩)
      · refine ⟨⟨Same.upd g2.1.1 hL, _, upd_same, ?_⟩, kp _ _ g2.2 (Tp.upd hv rfl)⟩
        rw [hts, List.map_append]
        unfold nxS
        rw [if_neg hne]
        exact hd
      · rw [hts]
        unfold nxS
        rw [if_neg hne] <;> rfl
  · refine st_ret (ev_tupV rfl rfl fun H' g' => g'.2) ((rt_of (fun v H' e t => q v H' (e1.trans e) t) ?_).weak fun H' g' => g'.1)
    rw [show run.take run.length = run from List.take_length]
theorem sc_Mirror_steps : FnScope ["self", "run"] ["self", "run"] (defScope s_Mirror_steps) := ⟨rfl, rfl, rfl, by decide +kernel, rfl, by decide +kernel, by decide +kernel⟩
theorem ok_Mirror_steps (T : Tx w K mg) : FnN P w K mg base 3 m_Mirror_steps (fun vs H Q => ∃ x v ns fs run, vs = [.ref x, v] ∧ GAt K H a_Mirror PyData.str x ns fs ∧ GOk (· ∈ msteps) ns ∧ DT K H v (.tuple (run.map .int)) ∧ RunV true ns run ∧ run.length ≤ 900 ∧
    ∀ v H', Same H H' → DT K H' v (.tuple ((fol ns run).2.map (stD PyData.str))) → Q v H') := by
  obtain ⟨fd, F⟩ := T.F_Mirror_steps
  refine F.okN rfl sc_Mirror_steps (fun _ _ _ _ _ _ us hl => match us, hl with | [_, _], _ => rfl) (fun vs H Q h => ?_) (fun A outer s H vs Q hr h => ⟨_, (pss_one (ps_ret (pe_mt (ok_Graph_followed (enc := PyData.str) T T.c_Mirror T.n_Mirror_nodes) (hr.mono (by decide)) T.c_Mirror T.me_Mirror_followed (pv 0) (pa_cons (pv 1) (pa_cons pe_bl pa_nil))))), ?_⟩)
  · obtain ⟨x, v, ns, fs, run, rfl, _⟩ := h
    rfl
  obtain ⟨x, v, ns, fs, run, rfl, ga, g, dr, rv, hn, q⟩ := h
  obtain ⟨dx, v1, v2, h1, h2, h3⟩ := id ga
  exact ⟨.ref x, rfl, x, dx, _, rfl, h1, rfl, v, rfl, x, v, _, ns, fs, run, true, rfl, ga, g, dr, rv, hn, fun v H' e t => q v H' e t⟩
end
end KX
set_option maxHeartbeats 4000000
namespace KX
open PySem PySem.Spec PyProof.Rows L2 RZ
open AutoSeq1 (wpAny_loadPart')
/-! ### enumerate(a tuple) -/
theorem meets_enumerate_newT (l : Addr) (items : Array Value) (n : Nat) (dct : Option Addr) (sl : Array (Option Value)) :
    Meets (Builtin.«enumerate.__new__» ⟨[.type "enumerate", .ref l], []⟩) (fun _ R s => s.heap.get? l = some { cls := .type "tuple", dict := dct, data := .seq items n, slots := sl } ∧
      R (.ok (.ret (.ref (s.heap.push { cls := .type "tuple_iterator", data := .fields #[.ref l, .int 0 0] }).objs.size)))
        { s with heap := (s.heap.push { cls := .type "tuple_iterator", data := .fields #[.ref l, .int 0 0] }).push { cls := .type "enumerate", data := .fields #[.none, .bool false, .ref s.heap.objs.size, rawInt 0, .none, .none] } }) :=
  .of_wp fun prog w A R s h => by
    obtain ⟨hp, g, d, tk, os⟩ := s; obtain ⟨hl, h⟩ := h
    have hsub := sub_enumerate
    have hL : Heap.IsTuple (Shared.heap ⟨hp, g, d, tk, os⟩) l items := ⟨_, hl, rfl, n, rfl⟩
    wp_walk using wpAny_loadPart' hl
    refine wpAny_stack_any fun st => wpAny_pure ?_
    split
    · rename_i c _ _ _ _ _
      cases (c == Value.type "enumerate")
      · wp_walk using wpAny_loadPart' hl, wpAny_pyIter_tuple hL
        exact ⟨_, rfl, h⟩
      · wp_walk using wpAny_loadPart' hl, wpAny_pyIter_tuple hL
        exact ⟨_, rfl, h⟩
    · wp_walk using wpAny_loadPart' hl, wpAny_pyIter_tuple hL
      exact ⟨_, rfl, h⟩
section
variable {prog : Program} {w : World} {A : Around} {E : Value → Shared → Prop} {s : Shared}
theorem call_enumerate_tup {l : Addr} {items : Array Value} {Q : Value → Shared → Prop} (hL : s.heap.IsTuple l items)
    (h : ∀ h', IsEnum h' (s.heap.objs.size + 1) s.heap.objs.size 0 .none → h'.IsTupleIter s.heap.objs.size l 0 → h'.objs.size = s.heap.objs.size + 2 →
      (∀ b o, s.heap.get? b = some o → h'.get? b = some o) → Q (.ref (s.heap.objs.size + 1)) { s with heap := h' }) :
    wpAny (model prog w) A (call (.type "enumerate") [.ref l]) Q E s := by
  obtain ⟨⟨c, dct, dt, sl⟩, hl, hc, n, hd⟩ := hL
  replace hc : c = .type "tuple" := hc
  replace hd : dt = .seq items n := hd
  subst hc hd
  refine callType_new F.called_enumerate (by decide) (F.typeCall_enumerate_1 _) (F.newCall_enumerate_1 _) (fun obj => F.args_object_init_2 obj _) F.entry_enumerate_new
    (meets_enumerate_newT l items n dct sl) ⟨hl, ?_⟩
  have hz : (s.heap.push { cls := .type "tuple_iterator", data := .fields #[.ref l, .int 0 0] }).objs.size = s.heap.objs.size + 1 := Heap.size_push ..
  show _ ∧ _
  rw [hz]
  have he : IsEnum ((s.heap.push { cls := .type "tuple_iterator", data := .fields #[.ref l, .int 0 0] }).push
      { cls := .type "enumerate", data := .fields #[.none, .bool false, .ref s.heap.objs.size, rawInt 0, .none, .none] }) (s.heap.objs.size + 1) s.heap.objs.size 0 .none := by
    have := Heap.get?_push_size (s.heap.push { cls := .type "tuple_iterator", data := .fields #[.ref l, .int 0 0] })
      (o := { cls := .type "enumerate", data := .fields #[.none, .bool false, .ref s.heap.objs.size, rawInt 0, .none, .none] }) rfl
    rw [hz] at this; exact this
  refine ⟨⟨_, he, rfl⟩, h _ he ⟨_, Heap.get?_push_of_some _ (Heap.get?_push_size _ rfl), rfl, rfl⟩ (by rw [Heap.size_push, hz]) fun b o x => Heap.get?_push_of_some _ (Heap.get?_push_of_some _ x)⟩
end
def IteT (K : PySem.W.Frag) (a : Addr) : It :=
  ⟨fun i H => ∃ (xs : List V) (x : V), SqT K H a xs ∧ xs[i]? = some x, fun i H v H' => ∃ T x, v = .ref T ∧ H T = none ∧ H' = upd H T (.tup [.int (i : Nat), x]) ∧ ∀ xs, SqT K H a xs → xs[i]? = some x, fun i H => ∃ xs : List V, SqT K H a xs ∧ xs.length = i⟩
theorem turn_enumT {P : Program} {w : World} {K : PySem.W.Frag} {elts : List Expr} {kk : Nat} {tpos : Pos} (a e it : Addr) :
    Turn P w K (.Tuple elts kk tpos) (IteT K a) [e, it] e (fun i h => (∃ old, IsEnum h e it ((i : Nat) : Int) old) ∧ h.IsTupleIter it a i ∧ e ≠ it) where
  mem := by simp
  obj := fun i h st b hb => by
    obtain ⟨⟨old, he⟩, ⟨o, ho, hc, hd⟩, _⟩ := st
    have e' : b = e ∨ b = it := by simpa using hb
    rcases e' with z | z
    · rw [z]; exact ⟨_, he, fun v q => nomatch q⟩
    · rw [z]; exact ⟨o, ho, fun v q => by rw [hd] at q; cases q⟩
  keep := fun i h h' st k => let ⟨⟨old, he⟩, hi, hne⟩ := st; ⟨⟨old, k e (by simp) _ he⟩, hi.at fun o q => k it (by simp) o q, hne⟩
  item := by
    intro X hP hw hK hc i pins s σ H E I hf st hg
    subst hP hw hK
    obtain ⟨⟨old, he⟩, hit, hne⟩ := st
    obtain ⟨xs, x, hq, hx⟩ := hg
    obtain ⟨its, rv, p, hz⟩ := I.tuple hq
    obtain ⟨u, hu, ru⟩ := rv.get hx
    have hel : e < s.heap.objs.size := Heap.lt_size he
    have hil : it < s.heap.objs.size := by obtain ⟨_, q, _⟩ := hit; exact Heap.lt_size q
    have pT : s.heap.IsTuple a its.toArray := p
    have hat : a ≠ it := by
      rintro rfl
      obtain ⟨o1, h1, c1, _⟩ := hit
      obtain ⟨o2, h2, c2, _⟩ := pT
      rw [h1] at h2
      cases h2
      rw [c1] at c2
      injection c2 with z
      exact absurd z (by decide)
    have hae : e ∉ [it, a] := by
      intro hm
      have hm : e = it ∨ e = a := by simpa using hm
      rcases hm with hm | hm
      · exact hne hm
      · obtain ⟨o2, h2, c2, _⟩ := pT
        rw [← hm] at h2
        have he2 := he
        unfold IsEnum at he2
        rw [he2] at h2
        cases h2
        injection c2 with z
        exact absurd z (by decide)
    have lt : i < its.toArray.size := by
      have q := (List.getElem?_eq_some_iff.mp hu).1
      simpa using q
    refine wpAny_pyNext_enum_itemD (Draws.tuple (show X.A.in1.handled = none from I.ok.hd hc) it a hat its.toArray) he ⟨hit, pT⟩ lt hne hae fun u2 h' tk hP ho hst hT hsz hk => ?_
    have hu2 : u2 = u := by
      have q : its.toArray[i]? = some u := by simpa using hu
      rw [q] at hP
      exact (Option.some.inj hP).symm
    subst hu2
    refine ⟨_, rfl, wpAny_letOwnedTupleGo_enum (s := { s with heap := h', toks := tk + 1 }) ho fun h'' he' sb => ?_⟩
    have hT2 : h''.get? s.heap.objs.size = some { cls := .type "tuple", data := .seq #[.int i tk, u2] } := (sb.2 _ (Nat.ne_of_gt hel)).trans hT
    have new : ObjOk X.prog X.w (upd H s.heap.objs.size (.tup [.int (i : Nat), x])) h'' s.heap.objs.size (.tup [.int (i : Nat), x]) :=
      ⟨by show 2 ≤ sizeLine; decide, [.int i tk, u2], .cons ⟨_, rfl⟩ (.cons ru .nil), ⟨_, hT2, rfl, _, rfl⟩⟩
    have I1 : Inv X pins σ (upd H s.heap.objs.size (.tup [.int (i : Nat), x])) { s with heap := h'', toks := tk + 1 } :=
      I.turnedNew (ch := [e, it]) (fun b ob hb q => (sb.2 b (fun z => hb (by simp [z]))).trans (hk b ob (fun z => hb (by simp [z])) (fun z => hb (by simp [z])) q)) hf (Nat.le_refl _) new
    refine ⟨.ref s.heap.objs.size, _, I1, rfl, ⟨_, x, rfl, I.hok.fresh (Nat.le_refl _), rfl, fun ys hy => by rw [I.tuple_inj hy hq]; exact hx⟩, ⟨⟨u2, ?_⟩, hst.1.at fun o q => (sb.2 it (Ne.symm hne)).trans q, hne⟩, fun b hb => ?_⟩
    · have e1 : ((i + 1 : Nat) : Int) = (i : Int) + 1 := by omega
      rw [e1]; exact he'
    · have hb' : b < s.heap.objs.size := by
        have e' : b = e ∨ b = it := by simpa using hb
        rcases e' with z | z
        · rw [z]; exact hel
        · rw [z]; exact hil
      rw [upd_ne (Nat.ne_of_lt hb')]
      exact (hf b hb).1
  done := by
    intro X hP hw hK hc i pins s σ H E I hf st hg
    subst hP hw hK
    obtain ⟨⟨old, he⟩, hit, hne⟩ := st
    obtain ⟨xs, hq, hx⟩ := hg
    obtain ⟨its, rv, p, hz⟩ := I.tuple hq
    obtain ⟨f0, f1, f2, f3, f4, f5⟩ := hf it (by simp)
    have pT : s.heap.IsTuple a its.toArray := p
    have hat : a ≠ it := by
      rintro rfl
      obtain ⟨o1, h1, c1, _⟩ := hit
      obtain ⟨o2, h2, c2, _⟩ := pT
      rw [h1] at h2
      cases h2
      rw [c1] at c2
      injection c2 with z
      exact absurd z (by decide)
    have hi : i = its.toArray.size := by
      have q := rv.length
      simp
      omega
    subst hi
    exact wpAny_pyNext_enum_endD (Draws.tuple (show X.A.in1.handled = none from I.ok.hd hc) it a hat its.toArray) he ⟨hit, pT⟩ fun h' eb => ⟨rfl, I.turned (t' := s.toks) (fun b o hb q => eb b o hb q) f0 f1 f3 f4 f5⟩
  self := fun A i s Q E st h => let ⟨⟨_, he⟩, _⟩ := st; wpAny_pyIter_enum he h
def iEnumT (K : PySem.W.Frag) (ta : TA) : TI := fun σ H R => ta σ H fun vs H1 => ∃ a xs, vs = [.ref a] ∧ SqT K H1 a xs ∧ R (IteT K a) H1
theorem pi_enumT {X : Cx} {e : Expr} {ta : TA} {p pos tpos : Pos} {elts : List Expr} {kk : Nat} (hg : Gl X "enumerate") (hm : X.mg "enumerate" = none) (ha : PA X [e] ta) (hs : starEach [e] X.env = [(false, eval e X.env)] := by rfl) :
    PI X (.Tuple elts kk tpos) (.Call (.Name "enumerate" p) [e] [] pos) (iEnumT X.K ta) := by
  refine ⟨fun pins s σ H R I h => ?_⟩
  refine Call_ (ld_blt I hg hm boot_enumerate (PyProof.Rows.callWith_type1 (thn (ha.run pos pins s σ H _ I h) fun us s1 ⟨vs, H1, I1, r1, q1⟩ => ?_) hs rfl))
  obtain ⟨a, xs, ex, hq, q⟩ := q1
  subst ex
  cases r1 with
  | cons r rr =>
    cases rr
    cases r
    obtain ⟨its, rv, p', hz⟩ := I1.tuple hq
    refine call_enumerate_tup (show s1.heap.IsTuple a its.toArray from p') fun h' he hit hsz hk => wpAny_pyIter_enum he ?_
    have I2 : Inv X pins σ H1 { s1 with heap := h' } := I1.kept (t' := s1.toks) hk
    refine ⟨s1.heap.objs.size + 1, [s1.heap.objs.size + 1, s1.heap.objs.size], _, _, H1, rfl, I2, turn_enumT a (s1.heap.objs.size + 1) s1.heap.objs.size, ⟨⟨.none, he⟩, hit, Nat.succ_ne_self _⟩, fun b hb => ?_, q⟩
    have e' : b = s1.heap.objs.size + 1 ∨ b = s1.heap.objs.size := by simpa using hb
    have hle : s1.heap.objs.size ≤ b := by
      rcases e' with z | z
      · rw [z]; exact Nat.le_add_right _ _
      · rw [z]; exact Nat.le_refl _
    exact I1.fpOk hle (I1.hok.fresh hle)
theorem walk_enumT {K : PySem.W.Frag} {a : Addr} {xs : List V} : Walk (IteT K a) xs.length (fun H => SqT K H a xs) (YPair (fun i => some (.int (i : Nat))) (fun i => xs[i]?)) := by
  refine ⟨fun i _ hi q => ⟨xs, xs[i], q, by simp [hi]⟩, fun _ q => ⟨xs, q, rfl⟩, fun i H v H' _ q y => ?_⟩
  obtain ⟨T, x, h1, h2, h3, h4⟩ := y
  exact ⟨T, .int (i : Nat), x, h1, h2, h3, rfl, h4 xs q⟩
theorem evw_enumT {K : PySem.W.Frag} {G : Gm} {ss : List SV} {te : TE} {α : Type} {l : List α} {h : α → PyData} (d : α) (e : EvD K G te ss (.tuple (l.map h))) : EvW K G (iEnumT K (tCons te tNil)) ss l.length (fun i => .tuple [.int (i : Nat), h (l.getD i d)]) := fun σ H g s R r =>
  e σ H g s _ fun v H1 e1 a => by
    cases a with
    | @tup a xs _ sq ts =>
      refine ⟨a, xs, rfl, SqT.of sq, r _ H1 (fun H => H a = some (.tup xs) ∧ DTs K H xs (l.map h)) e1 ⟨sq, ts⟩ ⟨fun H H' p t => ⟨t _ _ p.1, p.2.mono t⟩, ?_⟩⟩
      have hw := walk_enumT (K := K) (a := a) (xs := xs)
      rw [ts.len, List.length_map] at hw
      refine hw.mono (fun H p => SqT.of p.1) fun i H x H' hi p y => ?_
      obtain ⟨T, x1, x2, h1, h2, h3, h4, h5⟩ := y
      obtain ⟨dd, hd, td⟩ := p.2.getV h5
      cases h4
      subst h1 h3
      have sm := Same.new (o := HO.tup [.int (i : Nat), x2]) h2
      have e2 : dd = h (l.getD i d) := by
        rw [List.getElem?_map, List.getElem?_eq_getElem hi] at hd
        rw [List.getD_eq_getElem?_getD, List.getElem?_eq_getElem hi]
        exact (Option.some.inj hd).symm
      subst e2
      exact ⟨sm, .tup upd_same (.cons (.int _) (.cons (td.mono sm.tp) .nil))⟩
end KX
set_option maxHeartbeats 4000000
namespace KX
open PySem PySem.Spec PyProof.Rows L2
/-! ### the question stale -/
abbrev W3 : Type := Int × Int × Int
abbrev P2 : Type := Int × Int
def wD (w : W3) : PyData := .tuple [.int w.1, .int w.2.1, .int w.2.2]
def pD (p : P2) : PyData := .tuple [.int p.1, .int p.2]
def wpD (x : W3 × P2) : PyData := .tuple [wD x.1, pD x.2]
structure Sx where
  node : Nat
  w : W3
  p : P2
deriving DecidableEq
def Sx.d (s : Sx) : PyData := .tuple [.int (s.node : Nat), .int s.w.1, .int s.w.2.1, .int s.w.2.2, .int s.p.1, .int s.p.2]
def lostP (p : P2) : P2 := (p.1, 0)
def copiedP (sn : Int) (p : P2) : P2 := (if sn = 2 then 0 else 1, p.2)
def receivedP (p : P2) : P2 := if p.2 = 1 then (1, 0) else p
def toldP (w : W3) : W3 × P2 := ((if 0 < w.1 then 2 else 0, w.2.1, w.2.2), (0, w.2.2))
def aloneP (z : Str) (lis : Int) (p : P2) : W3 × P2 :=
  if z = "begin" then ((1, 0, lis), p) else if z = "listen" then ((0, 0, 1), p) else if z = "unlisten" then ((0, 0, 0), lostP p) else if z = "receive" then ((0, 0, lis), receivedP p) else ((0, 0, lis), p)
def withinP (z : Str) (w : W3) (p : P2) : W3 × P2 :=
  if z = "rollback" then ((0, 0, w.2.2), p) else if z = "listen" then ((w.1, 1, w.2.2), p) else if z = "unlisten" then ((w.1, 2, w.2.2), p) else if z = "commit" then
    if w.2.1 = 2 then ((0, 0, 0), lostP p) else ((0, 0, if w.2.1 = 1 then 1 else w.2.2), p) else (w, p)
def behindP (z : Str) (w : W3) (p : P2) : W3 × P2 :=
  if z = "disconnect" then ((0, 0, 0), lostP p) else if z = "read" then (w, copiedP w.1 p) else if w.1 = 0 then aloneP z w.2.2 p else withinP z w p
/-- the object of the question -/
def StA (K : PySem.W.Frag) (H : Hp) (a : Addr) (ns : List (List (Str × Nat))) (fs : List Nat) : Prop := ∃ dx g, H a = some (.ins a_Stale dx [("graph", .ref g)]) ∧ GAt K H a_Mirror PyData.str g ns fs
theorem StA.mono {K : PySem.W.Frag} {H H' : Hp} {a : Addr} {ns : List (List (Str × Nat))} {fs : List Nat} (h : StA K H a ns fs) (e : Same H H') : StA K H' a ns fs := by
  obtain ⟨dx, g, h1, h2⟩ := h
  exact ⟨dx, g, e _ _ h1, h2.mono e⟩
def spSt (K : PySem.W.Frag) (R : List (List (Str × Nat)) → List Nat → List PyData → PyData → Prop) : SpN := fun vs H Q => ∃ a ns fs vs' ds r, vs = .ref a :: vs' ∧ StA K H a ns fs ∧ DTs K H vs' ds ∧ R ns fs ds r ∧ ∀ v H', Same H H' → DT K H' v r → Q v H'
theorem ev_st {K : PySem.W.Frag} {G : Gm} {ss : List SV} {ta : TE} {tA : TA} {a : Addr} {m : Str} {ns : List (List (Str × Nat))} {fs : List Nat} {R : List (List (Str × Nat)) → List Nat → List PyData → PyData → Prop} {ds : List PyData} {d : PyData}
    (h0 : EvV K G ta ss (.ref a)) (hi : ∀ H, G.p H → StA K H a ns fs) (h : EvA K G tA ss ds) (e : R ns fs ds d) (hm : ([("graph", V.non)] : List (Str × V)).lookup m = none := by rfl) : EvD K G (tMt a_Stale m (spSt K R) ta tA) ss d := fun σ H g s Q q =>
  h0 σ H g s _ fun H1 e1 => by
    have g1 := G.mono _ _ g e1
    obtain ⟨dx, gg, h1, h2⟩ := id (hi H1 g1)
    refine ⟨a, dx, _, rfl, h1, ?_, h σ H1 g1 (s.mono e1.tp) _ fun vs H2 e2 b => ⟨a, ns, fs, vs, ds, d, rfl, hi H2 (G.mono _ _ g1 e2), b, e, fun v H3 e3 t => q v H3 ((e1.trans e2).trans e3) t⟩⟩
    unfold List.lookup at hm ⊢
    split at hm
    · cases hm
    · simp_all
theorem DS.startM {K : PySem.W.Frag} {H : Hp} {N : List Str} {a : V} {vs : List V} {ds : List PyData} (h : DTs K H vs ds) : DS K H (L2.start N (a :: vs)) (.v a :: (ds.map SV.d ++ List.replicate (N.length - (ds.length + 1)) .no)) := by
  unfold L2.start
  rw [List.length_cons, h.len]
  exact .cons (s := .v a) rfl (DS.args _ h)
theorem ev_ite {K : PySem.W.Frag} {G : Gm} {ss : List SV} {t : TT} {ta tb : TE} {b : Bool} {x y : PyData} (h : EvT K G t ss b) (h1 : EvD K G ta ss x) (h2 : EvD K G tb ss y) : EvD K G (tIf t ta tb) ss (if b = true then x else y) := ev_if h (fun e => by rw [if_pos e]; exact h1) fun e => by rw [if_neg (by rw [e]; decide)]; exact h2
section
variable {P : Program} {w : World} {K : PySem.W.Frag} {mg : Str → Option Value} {base : Heap}
theorem sc_Watch_begun : FnScope ["self", "pair"] ["self", "pair"] (defScope s_Watch_begun) := ⟨rfl, rfl, rfl, by decide +kernel, rfl, by decide +kernel, by decide +kernel⟩
theorem ok_Watch_begun (T : Tx w K mg) : FnN P w K mg base 1 m_Watch_begun (spSt K fun ns fs ds r => ∃ (p : P2), ds = [pD p] ∧ r = .int 1) := by
  obtain ⟨fd, F⟩ := T.F_Watch_begun
  refine F.okN rfl sc_Watch_begun (fun _ _ _ _ _ _ us hl => match us, hl with | [_, _], _ => rfl) (fun vs H Q h => ?_) (fun A outer s H vs Q hr h => ⟨_, (pss_one (ps_ret pe_int)), ?_⟩)
  · obtain ⟨a, ns, fs, vs', ds, r, rfl, _, h1, ⟨_, rfl, _⟩, _⟩ := h
    exact congrArg Nat.succ h1.len
  obtain ⟨a, ns, fs, vs', ds, r, rfl, sa, hd, ⟨p, rfl, rfl⟩, q⟩ := h
  refine (?_ : StD K (gS H) _ _ _) _ H (Same.refl H) (DS.startM hd)
  have sm : ∀ H', (gS H).p H' → StA K H' a ns fs := fun H' e => sa.mono e
  exact st_ret ev_int (rt_of q rfl)
theorem sc_Stale_lost : FnScope ["self", "pair"] ["self", "pair"] (defScope s_Stale_lost) := ⟨rfl, rfl, rfl, by decide +kernel, rfl, by decide +kernel, by decide +kernel⟩
theorem ok_Stale_lost (T : Tx w K mg) : FnN P w K mg base 1 m_Stale_lost (spSt K fun ns fs ds r => ∃ (p : P2), ds = [pD p] ∧ r = pD (lostP p)) := by
  obtain ⟨fd, F⟩ := T.F_Stale_lost
  refine F.okN rfl sc_Stale_lost (fun _ _ _ _ _ _ us hl => match us, hl with | [_, _], _ => rfl) (fun vs H Q h => ?_) (fun A outer s H vs Q hr h => ⟨_, (pss_one (ps_ret (pe_tup (pa_cons (pe_ix ix_tup (pv 1) pe_int (fun _ _ => rfl)) (pa_cons pe_int pa_nil))))), ?_⟩)
  · obtain ⟨a, ns, fs, vs', ds, r, rfl, _, h1, ⟨_, rfl, _⟩, _⟩ := h
    exact congrArg Nat.succ h1.len
  obtain ⟨a, ns, fs, vs', ds, r, rfl, sa, hd, ⟨p, rfl, rfl⟩, q⟩ := h
  refine (?_ : StD K (gS H) _ _ _) _ H (Same.refl H) (DS.startM hd)
  have sm : ∀ H', (gS H).p H' → StA K H' a ns fs := fun H' e => sa.mono e
  exact st_ret (ev_tup (eva_cons (ev_ix (ds := [.int p.1, .int p.2]) (ev_var rfl) ev_int rfl) (eva_cons ev_int eva_nil))) (rt_of q rfl)
theorem sc_Stale_copied : FnScope ["self", "snapshot", "pair"] ["self", "snapshot", "pair"] (defScope s_Stale_copied) := ⟨rfl, rfl, rfl, by decide +kernel, rfl, by decide +kernel, by decide +kernel⟩
theorem ok_Stale_copied (T : Tx w K mg) : FnN P w K mg base 1 m_Stale_copied (spSt K fun ns fs ds r => ∃ (sn : Int) (p : P2), ds = [.int sn, pD p] ∧ r = pD (copiedP sn p)) := by
  obtain ⟨fd, F⟩ := T.F_Stale_copied
  refine F.okN rfl sc_Stale_copied (fun _ _ _ _ _ _ us hl => match us, hl with | [_, _, _], _ => rfl) (fun vs H Q h => ?_) (fun A outer s H vs Q hr h => ⟨_, (pss_one (ps_ret (pe_tup (pa_cons (pe_ifExp (pt_cmpR op_eq (pv 1) pe_int (nomark _)) pe_int pe_int) (pa_cons (pe_ix ix_tup (pv 2) pe_int (fun _ _ => rfl)) pa_nil))))), ?_⟩)
  · obtain ⟨a, ns, fs, vs', ds, r, rfl, _, h1, ⟨_, _, rfl, _⟩, _⟩ := h
    exact congrArg Nat.succ h1.len
  obtain ⟨a, ns, fs, vs', ds, r, rfl, sa, hd, ⟨sn, p, rfl, rfl⟩, q⟩ := h
  refine (?_ : StD K (gS H) _ _ _) _ H (Same.refl H) (DS.startM hd)
  have sm : ∀ H', (gS H).p H' → StA K H' a ns fs := fun H' e => sa.mono e
  refine st_ret (ev_tup (eva_cons (ev_ite (evt_test (ev_eqi (ev_var rfl) ev_int)) ev_int ev_int) (eva_cons (ev_ix (ds := [.int p.1, .int p.2]) (ev_var rfl) ev_int rfl) eva_nil))) (rt_of q ?_)
  by_cases h : sn = 2 <;> simp [copiedP, pD, h]
theorem sc_Stale_received : FnScope ["self", "pair"] ["self", "pair"] (defScope s_Stale_received) := ⟨rfl, rfl, rfl, by decide +kernel, rfl, by decide +kernel, by decide +kernel⟩
theorem ok_Stale_received (T : Tx w K mg) : FnN P w K mg base 1 m_Stale_received (spSt K fun ns fs ds r => ∃ (p : P2), ds = [pD p] ∧ r = pD (receivedP p)) := by
  obtain ⟨fd, F⟩ := T.F_Stale_received
  refine F.okN rfl sc_Stale_received (fun _ _ _ _ _ _ us hl => match us, hl with | [_, _], _ => rfl) (fun vs H Q h => ?_) (fun A outer s H vs Q hr h => ⟨_, (pss_one (ps_ret (pe_ifExp (pt_cmpR op_eq (pe_ix ix_tup (pv 1) pe_int (fun _ _ => rfl)) pe_int (nomark _)) (pe_tup (pa_cons pe_int (pa_cons pe_int pa_nil))) (pv 1)))), ?_⟩)
  · obtain ⟨a, ns, fs, vs', ds, r, rfl, _, h1, ⟨_, rfl, _⟩, _⟩ := h
    exact congrArg Nat.succ h1.len
  obtain ⟨a, ns, fs, vs', ds, r, rfl, sa, hd, ⟨p, rfl, rfl⟩, q⟩ := h
  refine (?_ : StD K (gS H) _ _ _) _ H (Same.refl H) (DS.startM hd)
  have sm : ∀ H', (gS H).p H' → StA K H' a ns fs := fun H' e => sa.mono e
  refine st_ret (ev_ite (evt_test (ev_eqi (ev_ix (ds := [.int p.1, .int p.2]) (ev_var rfl) ev_int rfl) ev_int)) (ev_tup (eva_cons ev_int (eva_cons ev_int eva_nil))) (ev_var rfl)) (rt_of q ?_)
  by_cases h : p.2 = 1 <;> simp [receivedP, pD, h]
theorem sc_Stale_told : FnScope ["self", "work", "pair", "snapshot", "pending", "listens"] ["self", "work", "pair"] (defScope s_Stale_told) := ⟨rfl, rfl, rfl, by decide +kernel, rfl, by decide +kernel, by decide +kernel⟩
theorem ok_Stale_told (T : Tx w K mg) : FnN P w K mg base 1 m_Stale_told (spSt K fun ns fs ds r => ∃ (u : W3) (p : P2), ds = [wD u, pD p] ∧ r = wpD (toldP u)) := by
  obtain ⟨fd, F⟩ := T.F_Stale_told
  refine F.okN rfl sc_Stale_told (fun _ _ _ _ _ _ us hl => match us, hl with | [_, _, _], _ => rfl) (fun vs H Q h => ?_) (fun A outer s H vs Q hr h => ⟨_, (pss_cons (ps_asg (pv 1) (pg_tup rfl (pgs_cons (pg_name (i := 3) sc_Stale_told.nd rfl (Or.inl rfl)) (pgs_cons (pg_name (i := 4) sc_Stale_told.nd rfl (Or.inl rfl)) (pgs_cons (pg_name (i := 5) sc_Stale_told.nd rfl (Or.inl rfl)) pgs_nil))))) (pss_one (ps_ret (pe_tup (pa_cons (pe_tup (pa_cons (pe_ifExp (pt_cmpR op_gt (pv 3) pe_int (nomark _)) pe_int pe_int) (pa_cons (pv 4) (pa_cons (pv 5) pa_nil)))) (pa_cons (pe_tup (pa_cons pe_int (pa_cons (pv 5) pa_nil))) pa_nil)))))), ?_⟩)
  · obtain ⟨a, ns, fs, vs', ds, r, rfl, _, h1, ⟨_, _, rfl, _⟩, _⟩ := h
    exact congrArg Nat.succ h1.len
  obtain ⟨a, ns, fs, vs', ds, r, rfl, sa, hd, ⟨u, p, rfl, rfl⟩, q⟩ := h
  refine (?_ : StD K (gS H) _ _ _) _ H (Same.refl H) (DS.startM hd)
  have sm : ∀ H', (gS H).p H' → StA K H' a ns fs := fun H' e => sa.mono e
  refine q_unpack (is := [3, 4, 5]) rfl rfl (ev_var rfl) rfl ?_
  refine st_ret (ev_tup (eva_cons (ev_tup (eva_cons (ev_ite (evt_test (ev_rB (ev_var rfl) ev_int)) ev_int ev_int) (eva_cons (ev_var rfl) (eva_cons (ev_var rfl) eva_nil)))) (eva_cons (ev_tup (eva_cons ev_int (eva_cons (ev_var rfl) eva_nil))) eva_nil))) (rt_of q ?_)
  by_cases h : 0 < u.1 <;> simp [toldP, wpD, wD, pD, h]
theorem sc_Watch_alone : FnScope ["self", "step", "listens", "pair"] ["self", "step", "listens", "pair"] (defScope s_Watch_alone) := ⟨rfl, rfl, rfl, by decide +kernel, rfl, by decide +kernel, by decide +kernel⟩
theorem ok_Watch_alone (T : Tx w K mg) : FnN P w K mg base 2 m_Watch_alone (spSt K fun ns fs ds r => ∃ (z : Str) (li : Int) (p : P2), ds = [.str z, .int li, pD p] ∧ r = wpD (aloneP z li p)) := by
  obtain ⟨fd, F⟩ := T.F_Watch_alone
  refine F.okN rfl sc_Watch_alone (fun _ _ _ _ _ _ us hl => match us, hl with | [_, _, _, _], _ => rfl) (fun vs H Q h => ?_) (fun A outer s H vs Q hr h => ⟨_, (pss_cons (ps_if (pt_cmpR op_eq (pv 1) pe_str (nomark _)) (pss_one (ps_ret (pe_tup (pa_cons (pe_tup (pa_cons (pe_mt (ok_Watch_begun T) (hr.mono (by decide)) T.c_Stale T.me_Stale_begun (pv 0) (pa_cons (pv 3) pa_nil)) (pa_cons pe_int (pa_cons (pv 2) pa_nil)))) (pa_cons (pv 3) pa_nil))))) pss_nil) (pss_cons (ps_if (pt_cmpR op_eq (pv 1) pe_str (nomark _)) (pss_one (ps_ret (pe_tup (pa_cons (pe_tup (pa_cons pe_int (pa_cons pe_int (pa_cons pe_int pa_nil)))) (pa_cons (pv 3) pa_nil))))) pss_nil) (pss_cons (ps_if (pt_cmpR op_eq (pv 1) pe_str (nomark _)) (pss_one (ps_ret (pe_tup (pa_cons (pe_tup (pa_cons pe_int (pa_cons pe_int (pa_cons pe_int pa_nil)))) (pa_cons (pe_mt (ok_Stale_lost T) (hr.mono (by decide)) T.c_Stale T.me_Stale_lost (pv 0) (pa_cons (pv 3) pa_nil)) pa_nil))))) pss_nil) (pss_cons (ps_if (pt_cmpR op_eq (pv 1) pe_str (nomark _)) (pss_one (ps_ret (pe_tup (pa_cons (pe_tup (pa_cons pe_int (pa_cons pe_int (pa_cons (pv 2) pa_nil)))) (pa_cons (pe_mt (ok_Stale_received T) (hr.mono (by decide)) T.c_Stale T.me_Stale_received (pv 0) (pa_cons (pv 3) pa_nil)) pa_nil))))) pss_nil) (pss_one (ps_ret (pe_tup (pa_cons (pe_tup (pa_cons pe_int (pa_cons pe_int (pa_cons (pv 2) pa_nil)))) (pa_cons (pv 3) pa_nil))))))))), ?_⟩)
  · obtain ⟨a, ns, fs, vs', ds, r, rfl, _, h1, ⟨_, _, _, rfl, _⟩, _⟩ := h
    exact congrArg Nat.succ h1.len
  obtain ⟨a, ns, fs, vs', ds, r, rfl, sa, hd, ⟨z, li, p, rfl, rfl⟩, q⟩ := h
  refine (?_ : StD K (gS H) _ _ _) _ H (Same.refl H) (DS.startM hd)
  have sm : ∀ H', (gS H).p H' → StA K H' a ns fs := fun H' e => sa.mono e
  refine q_when (evt_test (ev_eqs (ev_var rfl) ev_str)) (fun h1 => ?_) (fun h1 => ?_)
  · exact st_ret (ev_tup (eva_cons (ev_tup (eva_cons (ev_st (evv_var rfl) sm (eva_cons (ev_var rfl) eva_nil) ⟨p, rfl, rfl⟩) (eva_cons ev_int (eva_cons (ev_var rfl) eva_nil)))) (eva_cons (ev_var rfl) eva_nil))) (rt_of q (by simp only [decide_eq_true_eq, decide_eq_false_iff_not, Bool.not_eq_true', Bool.not_eq_false'] at h1; unfold aloneP; rw [if_pos h1] <;> rfl))
  refine q_when (evt_test (ev_eqs (ev_var rfl) ev_str)) (fun h2 => ?_) (fun h2 => ?_)
  · exact st_ret (ev_tup (eva_cons (ev_tup (eva_cons ev_int (eva_cons ev_int (eva_cons ev_int eva_nil)))) (eva_cons (ev_var rfl) eva_nil))) (rt_of q (by simp only [decide_eq_true_eq, decide_eq_false_iff_not, Bool.not_eq_true', Bool.not_eq_false'] at h1 h2; unfold aloneP; rw [if_neg h1, if_pos h2] <;> rfl))
  refine q_when (evt_test (ev_eqs (ev_var rfl) ev_str)) (fun h3 => ?_) (fun h3 => ?_)
  · exact st_ret (ev_tup (eva_cons (ev_tup (eva_cons ev_int (eva_cons ev_int (eva_cons ev_int eva_nil)))) (eva_cons (ev_st (evv_var rfl) sm (eva_cons (ev_var rfl) eva_nil) ⟨p, rfl, rfl⟩) eva_nil))) (rt_of q (by simp only [decide_eq_true_eq, decide_eq_false_iff_not, Bool.not_eq_true', Bool.not_eq_false'] at h1 h2 h3; unfold aloneP; rw [if_neg h1, if_neg h2, if_pos h3] <;> rfl))
  refine q_when (evt_test (ev_eqs (ev_var rfl) ev_str)) (fun h4 => ?_) (fun h4 => ?_)
  · exact st_ret (ev_tup (eva_cons (ev_tup (eva_cons ev_int (eva_cons ev_int (eva_cons (ev_var rfl) eva_nil)))) (eva_cons (ev_st (evv_var rfl) sm (eva_cons (ev_var rfl) eva_nil) ⟨p, rfl, rfl⟩) eva_nil))) (rt_of q (by simp only [decide_eq_true_eq, decide_eq_false_iff_not, Bool.not_eq_true', Bool.not_eq_false'] at h1 h2 h3 h4; unfold aloneP; rw [if_neg h1, if_neg h2, if_neg h3, if_pos h4] <;> rfl))
  exact st_ret (ev_tup (eva_cons (ev_tup (eva_cons ev_int (eva_cons ev_int (eva_cons (ev_var rfl) eva_nil)))) (eva_cons (ev_var rfl) eva_nil))) (rt_of q (by simp only [decide_eq_true_eq, decide_eq_false_iff_not, Bool.not_eq_true', Bool.not_eq_false'] at h1 h2 h3 h4; unfold aloneP; rw [if_neg h1, if_neg h2, if_neg h3, if_neg h4] <;> rfl))
theorem sc_Watch_within : FnScope ["self", "step", "work", "pair", "snapshot", "pending", "listens"] ["self", "step", "work", "pair"] (defScope s_Watch_within) := ⟨rfl, rfl, rfl, by decide +kernel, rfl, by decide +kernel, by decide +kernel⟩
theorem ok_Watch_within (T : Tx w K mg) : FnN P w K mg base 2 m_Watch_within (spSt K fun ns fs ds r => ∃ (z : Str) (u : W3) (p : P2), ds = [.str z, wD u, pD p] ∧ r = wpD (withinP z u p)) := by
  obtain ⟨fd, F⟩ := T.F_Watch_within
  refine F.okN rfl sc_Watch_within (fun _ _ _ _ _ _ us hl => match us, hl with | [_, _, _, _], _ => rfl) (fun vs H Q h => ?_) (fun A outer s H vs Q hr h => ⟨_, (pss_cons (ps_asg (pv 2) (pg_tup rfl (pgs_cons (pg_name (i := 4) sc_Watch_within.nd rfl (Or.inl rfl)) (pgs_cons (pg_name (i := 5) sc_Watch_within.nd rfl (Or.inl rfl)) (pgs_cons (pg_name (i := 6) sc_Watch_within.nd rfl (Or.inl rfl)) pgs_nil))))) (pss_cons (ps_if (pt_cmpR op_eq (pv 1) pe_str (nomark _)) (pss_one (ps_ret (pe_tup (pa_cons (pe_tup (pa_cons pe_int (pa_cons pe_int (pa_cons (pv 6) pa_nil)))) (pa_cons (pv 3) pa_nil))))) pss_nil) (pss_cons (ps_if (pt_cmpR op_eq (pv 1) pe_str (nomark _)) (pss_one (ps_ret (pe_tup (pa_cons (pe_tup (pa_cons (pv 4) (pa_cons pe_int (pa_cons (pv 6) pa_nil)))) (pa_cons (pv 3) pa_nil))))) pss_nil) (pss_cons (ps_if (pt_cmpR op_eq (pv 1) pe_str (nomark _)) (pss_one (ps_ret (pe_tup (pa_cons (pe_tup (pa_cons (pv 4) (pa_cons pe_int (pa_cons (pv 6) pa_nil)))) (pa_cons (pv 3) pa_nil))))) pss_nil) (pss_cons (ps_if (pt_cmpR op_ne (pv 1) pe_str (nomark _)) (pss_one (ps_ret (pe_tup (pa_cons (pv 2) (pa_cons (pv 3) pa_nil))))) pss_nil) (pss_cons (ps_if (pt_cmpR op_eq (pv 5) pe_int (nomark _)) (pss_one (ps_ret (pe_tup (pa_cons (pe_tup (pa_cons pe_int (pa_cons pe_int (pa_cons pe_int pa_nil)))) (pa_cons (pe_mt (ok_Stale_lost T) (hr.mono (by decide)) T.c_Stale T.me_Stale_lost (pv 0) (pa_cons (pv 3) pa_nil)) pa_nil))))) pss_nil) (pss_one (ps_ret (pe_tup (pa_cons (pe_tup (pa_cons pe_int (pa_cons pe_int (pa_cons (pe_ifExp (pt_cmpR op_eq (pv 5) pe_int (nomark _)) pe_int (pv 6)) pa_nil)))) (pa_cons (pv 3) pa_nil))))))))))), ?_⟩)
  · obtain ⟨a, ns, fs, vs', ds, r, rfl, _, h1, ⟨_, _, _, rfl, _⟩, _⟩ := h
    exact congrArg Nat.succ h1.len
  obtain ⟨a, ns, fs, vs', ds, r, rfl, sa, hd, ⟨z, u, p, rfl, rfl⟩, q⟩ := h
  refine (?_ : StD K (gS H) _ _ _) _ H (Same.refl H) (DS.startM hd)
  have sm : ∀ H', (gS H).p H' → StA K H' a ns fs := fun H' e => sa.mono e
  refine q_unpack (is := [4, 5, 6]) rfl rfl (ev_var rfl) rfl ?_
  refine q_when (evt_test (ev_eqs (ev_var rfl) ev_str)) (fun h1 => ?_) (fun h1 => ?_)
  · exact st_ret (ev_tup (eva_cons (ev_tup (eva_cons ev_int (eva_cons ev_int (eva_cons (ev_var rfl) eva_nil)))) (eva_cons (ev_var rfl) eva_nil))) (rt_of q (by simp only [decide_eq_true_eq, decide_eq_false_iff_not, Bool.not_eq_true', Bool.not_eq_false'] at h1; unfold withinP; rw [if_pos h1] <;> rfl))
  refine q_when (evt_test (ev_eqs (ev_var rfl) ev_str)) (fun h2 => ?_) (fun h2 => ?_)
  · exact st_ret (ev_tup (eva_cons (ev_tup (eva_cons (ev_var rfl) (eva_cons ev_int (eva_cons (ev_var rfl) eva_nil)))) (eva_cons (ev_var rfl) eva_nil))) (rt_of q (by simp only [decide_eq_true_eq, decide_eq_false_iff_not, Bool.not_eq_true', Bool.not_eq_false'] at h1 h2; unfold withinP; rw [if_neg h1, if_pos h2] <;> rfl))
  refine q_when (evt_test (ev_eqs (ev_var rfl) ev_str)) (fun h3 => ?_) (fun h3 => ?_)
  · exact st_ret (ev_tup (eva_cons (ev_tup (eva_cons (ev_var rfl) (eva_cons ev_int (eva_cons (ev_var rfl) eva_nil)))) (eva_cons (ev_var rfl) eva_nil))) (rt_of q (by simp only [decide_eq_true_eq, decide_eq_false_iff_not, Bool.not_eq_true', Bool.not_eq_false'] at h1 h2 h3; unfold withinP; rw [if_neg h1, if_neg h2, if_pos h3] <;> rfl))
  refine q_when (evt_test (ev_nes (ev_var rfl) ev_str)) (fun h4 => ?_) (fun h4 => ?_)
  · exact st_ret (ev_tup (eva_cons (ev_var rfl) (eva_cons (ev_var rfl) eva_nil))) (rt_of q (by simp only [decide_eq_true_eq, decide_eq_false_iff_not, Bool.not_eq_true', Bool.not_eq_false'] at h1 h2 h3 h4; unfold withinP; rw [if_neg h1, if_neg h2, if_neg h3, if_neg h4] <;> rfl))
  refine q_when (evt_test (ev_eqi (ev_var rfl) ev_int)) (fun h5 => ?_) (fun h5 => ?_)
  · exact st_ret (ev_tup (eva_cons (ev_tup (eva_cons ev_int (eva_cons ev_int (eva_cons ev_int eva_nil)))) (eva_cons (ev_st (evv_var rfl) sm (eva_cons (ev_var rfl) eva_nil) ⟨p, rfl, rfl⟩) eva_nil))) (rt_of q (by simp only [decide_eq_true_eq, decide_eq_false_iff_not, Bool.not_eq_true', Bool.not_eq_false'] at h1 h2 h3 h4 h5; unfold withinP; rw [if_neg h1, if_neg h2, if_neg h3, if_pos h4, if_pos h5] <;> rfl))
  refine st_ret (ev_tup (eva_cons (ev_tup (eva_cons ev_int (eva_cons ev_int (eva_cons (ev_ite (evt_test (ev_eqi (ev_var rfl) ev_int)) ev_int (ev_var rfl)) eva_nil)))) (eva_cons (ev_var rfl) eva_nil))) (rt_of q ?_)
  simp only [decide_eq_true_eq, decide_eq_false_iff_not, Bool.not_eq_true', Bool.not_eq_false'] at h1 h2 h3 h4 h5
  unfold withinP
  rw [if_neg h1, if_neg h2, if_neg h3, if_pos h4, if_neg h5]
  by_cases h6 : u.2.1 = 1 <;> simp [wpD, wD, h6]
theorem sc_Watch_behind : FnScope ["self", "step", "work", "pair"] ["self", "step", "work", "pair"] (defScope s_Watch_behind) := ⟨rfl, rfl, rfl, by decide +kernel, rfl, by decide +kernel, by decide +kernel⟩
theorem ok_Watch_behind (T : Tx w K mg) : FnN P w K mg base 3 m_Watch_behind (spSt K fun ns fs ds r => ∃ (z : Str) (u : W3) (p : P2), ds = [.str z, wD u, pD p] ∧ r = wpD (behindP z u p)) := by
  obtain ⟨fd, F⟩ := T.F_Watch_behind
  refine F.okN rfl sc_Watch_behind (fun _ _ _ _ _ _ us hl => match us, hl with | [_, _, _, _], _ => rfl) (fun vs H Q h => ?_) (fun A outer s H vs Q hr h => ⟨_, (pss_cons (ps_if (pt_cmpR op_eq (pv 1) pe_str (nomark _)) (pss_one (ps_ret (pe_tup (pa_cons (pe_tup (pa_cons pe_int (pa_cons pe_int (pa_cons pe_int pa_nil)))) (pa_cons (pe_mt (ok_Stale_lost T) (hr.mono (by decide)) T.c_Stale T.me_Stale_lost (pv 0) (pa_cons (pv 3) pa_nil)) pa_nil))))) pss_nil) (pss_cons (ps_if (pt_cmpR op_eq (pv 1) (pe_cs T.t_READ) (nomark _)) (pss_one (ps_ret (pe_tup (pa_cons (pv 2) (pa_cons (pe_mt (ok_Stale_copied T) (hr.mono (by decide)) T.c_Stale T.me_Stale_copied (pv 0) (pa_cons (pe_ix ix_tup (pv 2) pe_int (fun _ _ => rfl)) (pa_cons (pv 3) pa_nil))) pa_nil))))) pss_nil) (pss_cons (ps_if (pt_cmpR op_eq (pe_ix ix_tup (pv 2) pe_int (fun _ _ => rfl)) pe_int (nomark _)) (pss_one (ps_ret (pe_mt (ok_Watch_alone T) (hr.mono (by decide)) T.c_Stale T.me_Stale_alone (pv 0) (pa_cons (pv 1) (pa_cons (pe_ix ix_tup (pv 2) pe_int (fun _ _ => rfl)) (pa_cons (pv 3) pa_nil)))))) pss_nil) (pss_one (ps_ret (pe_mt (ok_Watch_within T) (hr.mono (by decide)) T.c_Stale T.me_Stale_within (pv 0) (pa_cons (pv 1) (pa_cons (pv 2) (pa_cons (pv 3) pa_nil))))))))), ?_⟩)
  · obtain ⟨a, ns, fs, vs', ds, r, rfl, _, h1, ⟨_, _, _, rfl, _⟩, _⟩ := h
    exact congrArg Nat.succ h1.len
  obtain ⟨a, ns, fs, vs', ds, r, rfl, sa, hd, ⟨z, u, p, rfl, rfl⟩, q⟩ := h
  refine (?_ : StD K (gS H) _ _ _) _ H (Same.refl H) (DS.startM hd)
  have sm : ∀ H', (gS H).p H' → StA K H' a ns fs := fun H' e => sa.mono e
  refine q_when (evt_test (ev_eqs (ev_var rfl) ev_str)) (fun h1 => ?_) (fun h1 => ?_)
  · exact st_ret (ev_tup (eva_cons (ev_tup (eva_cons ev_int (eva_cons ev_int (eva_cons ev_int eva_nil)))) (eva_cons (ev_st (evv_var rfl) sm (eva_cons (ev_var rfl) eva_nil) ⟨p, rfl, rfl⟩) eva_nil))) (rt_of q (by simp only [decide_eq_true_eq, decide_eq_false_iff_not, Bool.not_eq_true', Bool.not_eq_false'] at h1; unfold behindP; rw [if_pos h1] <;> rfl))
  refine q_when (evt_test (ev_eqs (ev_var rfl) (ev_cst fun _ => .str _))) (fun h2 => ?_) (fun h2 => ?_)
  · exact st_ret (ev_tup (eva_cons (ev_var rfl) (eva_cons (ev_st (evv_var rfl) sm (eva_cons (ev_ix (ds := [.int u.1, .int u.2.1, .int u.2.2]) (ev_var rfl) ev_int rfl) (eva_cons (ev_var rfl) eva_nil)) ⟨u.1, p, rfl, rfl⟩) eva_nil))) (rt_of q (by simp only [decide_eq_true_eq, decide_eq_false_iff_not, Bool.not_eq_true', Bool.not_eq_false'] at h1 h2; unfold behindP; rw [if_neg h1, if_pos h2] <;> rfl))
  refine q_when (evt_test (ev_eqi (ev_ix (ds := [.int u.1, .int u.2.1, .int u.2.2]) (ev_var rfl) ev_int rfl) ev_int)) (fun h3 => ?_) (fun h3 => ?_)
  · exact st_ret (ev_st (evv_var rfl) sm (eva_cons (ev_var rfl) (eva_cons (ev_ix (ds := [.int u.1, .int u.2.1, .int u.2.2]) (ev_var rfl) ev_int rfl) (eva_cons (ev_var rfl) eva_nil))) ⟨z, u.2.2, p, rfl, rfl⟩) (rt_of q (by simp only [decide_eq_true_eq, decide_eq_false_iff_not, Bool.not_eq_true', Bool.not_eq_false'] at h1 h2 h3; unfold behindP; rw [if_neg h1, if_neg h2, if_pos h3] <;> rfl))
  exact st_ret (ev_st (evv_var rfl) sm (eva_cons (ev_var rfl) (eva_cons (ev_var rfl) (eva_cons (ev_var rfl) eva_nil))) ⟨z, u, p, rfl, rfl⟩) (rt_of q (by simp only [decide_eq_true_eq, decide_eq_false_iff_not, Bool.not_eq_true', Bool.not_eq_false'] at h1 h2 h3; unfold behindP; rw [if_neg h1, if_neg h2, if_neg h3] <;> rfl))
end
end KX
set_option maxHeartbeats 4000000
namespace KX
open PySem PySem.Spec PyProof.Rows L2
theorem RunV.snoc {α : Type} [Inhabited α] {oth : Bool} {ns : List (List (α × Nat))} {run : List Int} {l : Int} (h : RunV oth ns run) (hl : okL oth ns (fol ns run).1 l) : RunV oth ns (run ++ [l]) := fun j hj => by
  rw [List.length_append, List.length_singleton] at hj
  by_cases e : j < run.length
  · rw [List.take_append_of_le_length (by omega), List.getD_eq_getElem?_getD, List.getElem?_append_left e]
    have q := h j e
    rw [List.getD_eq_getElem?_getD] at q
    exact q
  · have e2 : j = run.length := by omega
    subst e2
    rw [List.take_left, List.getD_eq_getElem?_getD, List.getElem?_append_right (Nat.le_refl _)]
    simpa using hl
theorem RunV.nil {α : Type} [Inhabited α] {oth : Bool} {ns : List (List (α × Nat))} : RunV oth ns [] := fun j hj => absurd hj (Nat.not_lt_zero j)
theorem RunV.take {α : Type} [Inhabited α] {oth : Bool} {ns : List (List (α × Nat))} {run : List Int} (n : Nat) (h : RunV oth ns run) : RunV oth ns (run.take n) := fun j hj => by
  rw [List.length_take] at hj
  rw [List.take_take, show min j n = j by omega, List.getD_eq_getElem?_getD, List.getElem?_take_of_lt (by omega), ← List.getD_eq_getElem?_getD]
  exact h j (by omega)
section
variable {P : Program} {w : World} {K : PySem.W.Frag} {mg : Str → Option Value} {base : Heap} {p : Addr}
theorem sc_L_mirror_drawn : FnScope ["_law_pen_here", "_law_nodes", "_law_most", "_law_turn", "_law_at", "_law_found", "_law_label"] ["_law_pen_here", "_law_nodes", "_law_most"] (defScope s_L_mirror_drawn) := ⟨rfl, rfl, rfl, by decide +kernel, rfl, by decide +kernel, by decide +kernel⟩
theorem ok__law_mirror_drawn (T : Tx w K mg) : FnN P w K mg base 3 a__law_mirror_drawn (spP K (fun ds => ∃ ns m, ∃ ok : Str → Prop, ds = [gD PyData.str ns, .int (m : Nat)] ∧ GOk ok ns ∧ m ≤ 900) fun ds d => ∃ ns m run, ds = [gD PyData.str ns, .int (m : Nat)] ∧ d = .tuple (run.map PyData.int) ∧ RunV true ns run ∧ run.length ≤ m) := by
  obtain ⟨fd, F⟩ := T.F_L_mirror_drawn
  refine F.okN rfl sc_L_mirror_drawn (fun _ _ _ _ _ _ us hl => match us, hl with | [_, _, _], _ => rfl) (fun vs H Q h => ?_) (fun A outer s H vs Q hr h => ⟨_, (pss_cons (ps_par (i := 4) (j := 5) rfl sc_L_mirror_drawn.nd rfl rfl (by decide) rfl rfl (pa_cons pe_int (pa_cons (pe_lst pa_nil) pa_nil)) (by rfl)) (pss_cons (ps_for PassesOwn.never rfl (pi_range1 (by rfl) T.z_range (pa_cons (pe_cl (ok__law_draw T) (hr.mono (by decide)) T.kp__law_draw T.g__law_draw (pa_cons (pv 0) (pa_cons (pe_op op_add (pv 2) pe_int) pa_nil))) pa_nil)) (pg_name (i := 3) sc_L_mirror_drawn.nd rfl (Or.inl rfl)) (pss_cons (ps_set (i := 6) sc_L_mirror_drawn.nd rfl (Or.inl rfl) (pe_op op_sub (pe_cl (ok__law_draw T) (hr.mono (by decide)) T.kp__law_draw T.g__law_draw (pa_cons (pv 0) (pa_cons (pe_op op_add (pe_callB call_len (by rfl) T.z_len PySem.boot_len (pa_cons (pe_ix ix_tup (pv 1) (pv 4) (fun _ _ => rfl)) pa_nil)) pe_int) pa_nil))) pe_int)) (pss_cons (ps_expr (pe_bm PySem.F.plainAttrs_list PySem.F.slot_list_append PySem.F.type_list_append mt_append (pv 5) (pa_cons (pv 6) pa_nil))) (pss_one (ps_set (i := 4) sc_L_mirror_drawn.nd rfl (Or.inl rfl) (pe_ifExp (pt_cmpR op_eq (pv 6) (pe_un un_neg pe_int) (nomark _)) (pv 4) (pe_ix ix_tup (pe_ix ix_tup (pe_ix ix_tup (pv 1) (pv 4) (fun _ _ => rfl)) (pv 6) (fun _ _ => rfl)) pe_int (fun _ _ => rfl)))))))) (pss_one (ps_ret (pe_callTy call_tuple_of (by rfl) T.z_tuple (by decide +kernel) (pa_cons (pv 5) pa_nil)))))), ?_⟩)
  · obtain ⟨p, vs', ds, rfl, _, h1, ⟨_, _, _, rfl, _⟩, _⟩ := h
    exact congrArg Nat.succ h1.len
  obtain ⟨p, vs', ds, rfl, hp, hd, ⟨ns, m, ok, rfl, g, hm⟩, q⟩ := h
  have s0 := DS.startM (N := ["_law_pen_here", "_law_nodes", "_law_most", "_law_turn", "_law_at", "_law_found", "_law_label"]) (a := .ref p) hd
  refine ⟨Nat.zero_le _, fun L hL => ⟨_, _, rfl, ?_⟩⟩
  have sL := Same.new (o := HO.lst []) hL
  have hne : L ≠ p := by
    obtain ⟨_, _, _, z⟩ := hp
    exact fun z2 => by rw [z2, z] at hL; cases hL
  refine StD.go (G := gN (nL K H p L [])) (ss := [.v (.ref p), .d (gD PyData.str ns), .d (.int (m : Nat)), .no, .d (.int 0), .v (.ref L), .no]) ?_ ⟨⟨sL.frP, ⟨[], upd_same, .nil⟩, hne⟩, hp.mono sL⟩ (((s0.mono sL.tp).set (i := 4) (s := .d (.int 0)) ⟨_, rfl, .int _⟩).set (i := 5) (s := .v (.ref L)) rfl)
  refine q_forRngN (m := (m : Int) + 1) (fun j σ' H' => ∃ run : List Int, run.length = j ∧ RunV true ns run ∧ (gN (nL K H p L (run.map PyData.int))).p H' ∧ DS K H' σ' [.v (.ref p), .d (gD PyData.str ns), .d (.int (m : Nat)), .no, .d (.int ((fol ns run).1 : Nat)), .v (.ref L), .no]) (evn_draw rfl (ev_rI (ev_var rfl) ev_int) ⟨by omega, by omega⟩) (by omega) (fun σ' H' g' s' => ⟨[], rfl, RunV.nil, g', s'⟩) (fun j σ' H' hj ⟨run, hl, rv, g', s'⟩ => ?_) (fun n σ' H' hn ⟨run, hl, rv, g', s'⟩ => ?_)
  · have hlt := fol_lt g rv run.length (Nat.le_refl _)
    rw [List.take_length] at hlt
    have hnd := atI_map (h := fun es : List (Str × Nat) => PyData.tuple (es.map fun e => .tuple [.str e.1, .int (e.2 : Nat)])) [] hlt
    have hw := g.three _ (getD_mem' (l := ns) (i := (fol ns run).1) [] hlt)
    refine StD.go ?_ g' (s'.set (i := 3) (s := .d (.int (j : Nat))) ⟨_, rfl, .int _⟩)
    refine q_setN (evn_rI (f := fun i j => i - j) (evn_draw rfl (ev_rI (ev_len rfl (ev_ix (ev_var rfl) (ev_var rfl) hnd)) ev_int) ⟨by rw [List.length_map]; omega, by rw [List.length_map]; omega⟩) (evn_int ev_int)) fun d ⟨l, ed, a, b, ⟨a0, a1⟩, eb, el⟩ => ?_
    subst ed
    rw [List.length_map] at a1
    have hok : okL true ns (fol ns run).1 l := by
      by_cases e : l = -1
      · exact .inl ⟨e, rfl⟩
      · exact .inr ⟨by omega, by omega⟩
    have hts := fol_snoc (ns := ns) (run := run) (l := l)
    refine q_appN (evn_of (ev_var rfl)) rfl hL (by rw [List.length_map]; omega) fun d ed => ?_
    subst ed
    intro σ2 H2 g2 s2
    refine (ev_if (x := .int ((fol ns (run ++ [l])).1 : Nat)) (evt_test (ev_eqi (ev_var rfl) (ev_neg ev_int))) (fun hb => ?_) (fun hb => ?_) : EvD K gT _ _ _) σ2 H2 trivial s2 _ fun v H3 e3 a3 => ⟨run ++ [l], by rw [List.length_append, hl] <;> rfl, rv.snoc hok, ?_, ?_⟩
    · have e : l = -1 := of_decide_eq_true hb
      rw [hts]
      unfold nxS
      rw [if_pos e]
      exact ev_var rfl
    · have e : ¬ l = -1 := of_decide_eq_false hb
      rw [hts]
      unfold nxS
      rw [if_neg e]
      exact ev_ix (ev_ix (ev_ix (ev_var rfl) (ev_var rfl) hnd) (ev_var rfl) (atI_mapI default (by omega) (by omega))) ev_int rfl
    · have g3 := (gN (nL K H p L (run.map PyData.int ++ [.int l]))).mono _ _ g2 e3
      rw [List.map_append]
      exact g3
    · exact ((s2.mono e3.tp).set (i := 4) (s := .d (.int ((fol ns (run ++ [l])).1 : Nat))) ⟨v, rfl, a3⟩).wk ⟨.inr rfl, .inr rfl, .inr rfl, .inl rfl, .inr rfl, .inr rfl, .inl rfl, trivial⟩
  · have hrt : RtD K (gN (nL K H p L (run.map PyData.int))) { nx := fun _ H' => Q .non H', rt := Q } (.tuple (run.map PyData.int)) := RtD.weak (G := gN (nS H p)) (fun H' g' => ⟨g'.1.1, g'.2⟩) (rt_N q ⟨ns, m, run, rfl, rfl, rv, by omega⟩)
    exact StD.go (G := gN (nL K H p L (run.map PyData.int))) (st_ret (ev_tupV rfl rfl fun H' g' => g'.1.2.1) hrt) g' s'
end
end KX
set_option maxHeartbeats 4000000
namespace KX
open PySem PySem.Spec PyProof.Rows L2
theorem words_ok : ∀ z ∈ wwords, PyData.strOk z = true := by decide +kernel
theorem set_ok : PyData.strOk ("set" : Str) = true := by decide +kernel
theorem say_ok : PyData.strOk ("say" : Str) = true := by decide +kernel
theorem encW_flat (a : WS) (h : WOk a) : PyData.canLay0 (encW a) = true ∧ PyData.depth (encW a) ≤ 2 := by
  cases a with
  | set z => exact ⟨by simp [encW, PyData.canLay0, PyData.canLayAll0, set_ok, words_ok z h], by simp [encW, PyData.depth, PyData.depthAll]⟩
  | say z => exact ⟨by simp [encW, PyData.canLay0, PyData.canLayAll0, say_ok, words_ok z h], by simp [encW, PyData.depth, PyData.depthAll]⟩
  | again => exact ⟨by simp [encW, PyData.canLay0, PyData.canLayAll0, say_ok], by simp [encW, PyData.depth, PyData.depthAll]⟩
theorem row_lay : ∀ es : List (WS × Nat), (∀ e ∈ es, WOk e.1) → PyData.canLayAll0 (es.map fun e => PyData.tuple [encW e.1, .int (e.2 : Nat)]) = true
  | [], _ => by simp [PyData.canLayAll0]
  | e :: es, h => by simp [PyData.canLayAll0, PyData.canLay0, (encW_flat e.1 (h e List.mem_cons_self)).1, row_lay es fun e he => h e (List.mem_cons_of_mem _ he)]
theorem row_depth : ∀ es : List (WS × Nat), (∀ e ∈ es, WOk e.1) → PyData.depthAll (es.map fun e => PyData.tuple [encW e.1, .int (e.2 : Nat)]) ≤ 10
  | [], _ => by simp [PyData.depthAll]
  | e :: es, h => by
    have h1 := row_depth es fun e he => h e (List.mem_cons_of_mem _ he)
    have h2 := (encW_flat e.1 (h e List.mem_cons_self)).2
    simp only [List.map_cons, PyData.depthAll, PyData.depth]
    omega
theorem shaped_row (es : List (WS × Nat)) (hw : ∀ e ∈ es, WOk e.1) : SeqAt.shaped (rowD encW es) = true := by
  show (PyData.canLay0 (rowD encW es) && decide (PyData.depth (rowD encW es) ≤ 64)) = true
  rw [Bool.and_eq_true]
  have h := row_depth es hw
  exact ⟨by simp only [rowD, PyData.canLay0]; exact row_lay es hw, decide_eq_true (by simp only [rowD, PyData.depth]; omega)⟩
theorem eqv_row_nil (es : List (WS × Nat)) : PyData.eqv (rowD encW es) (.tuple []) = es.isEmpty := by
  cases es <;> simp [rowD, PyData.eqv, PyData.eqvAll]
section
variable {P : Program} {w : World} {K : PySem.W.Frag} {mg : Str → Option Value} {base : Heap} {p : Addr}
theorem sc_L_final_run : FnScope ["_law_pen_here", "_law_nodes", "_law_finals", "_law_turn", "_law_at", "_law_run", "_law_best"] ["_law_pen_here", "_law_nodes", "_law_finals"] (defScope s_L_final_run) := ⟨rfl, rfl, rfl, by decide +kernel, rfl, by decide +kernel, by decide +kernel⟩
theorem ok__law_final_run (T : Tx w K mg) : FnN P w K mg base 3 a__law_final_run (spP K (fun ds => ∃ ns, ds = [gD encW ns, fD (List.range ns.length)] ∧ GOk WOk ns) fun ds d => ∃ ns run, ds = [gD encW ns, fD (List.range ns.length)] ∧ d = .tuple (run.map PyData.int) ∧ RunV false ns run ∧ run.length ≤ 9) := by
  obtain ⟨fd, F⟩ := T.F_L_final_run
  refine F.okN rfl sc_L_final_run (fun _ _ _ _ _ _ us hl => match us, hl with | [_, _, _], _ => rfl) (fun vs H Q h => ?_) (fun A outer s H vs Q hr h => ⟨_, (pss_cons (ps_par3 (i := 4) (j := 5) (l := 6) rfl sc_L_final_run.nd rfl rfl rfl (by decide) (by decide) (by decide) rfl rfl rfl (pa_cons pe_int (pa_cons (pe_lst pa_nil) (pa_cons pe_non pa_nil))) (by rfl)) (pss_cons (ps_if (pt_cmpR op_in_seq pe_int (pv 2) rfl) (pss_one (ps_set (i := 6) sc_L_final_run.nd rfl (Or.inl rfl) (pe_tup pa_nil))) pss_nil) (pss_cons (ps_for PassesOwn.never rfl (pi_range1 (by rfl) T.z_range (pa_cons (pe_cl (ok__law_draw T) (hr.mono (by decide)) T.kp__law_draw T.g__law_draw (pa_cons (pv 0) (pa_cons pe_int pa_nil))) pa_nil)) (pg_name (i := 3) sc_L_final_run.nd rfl (Or.inl rfl)) (pss_one (ps_if (pt_cmpR (op_neD hr.units) (pe_ix ix_tup (pv 1) (pv 4) (fun _ _ => rfl)) (pe_tup pa_nil) (nomark _)) (pss_cons (ps_expr (pe_bm PySem.F.plainAttrs_list PySem.F.slot_list_append PySem.F.type_list_append mt_append (pv 5) (pa_cons (pe_cl (ok__law_draw T) (hr.mono (by decide)) T.kp__law_draw T.g__law_draw (pa_cons (pv 0) (pa_cons (pe_callB call_len (by rfl) T.z_len PySem.boot_len (pa_cons (pe_ix ix_tup (pv 1) (pv 4) (fun _ _ => rfl)) pa_nil)) pa_nil))) pa_nil))) (pss_cons (ps_set (i := 4) sc_L_final_run.nd rfl (Or.inl rfl) (pe_ix ix_tup (pe_ix ix_tup (pe_ix ix_tup (pv 1) (pv 4) (fun _ _ => rfl)) (pe_ix ix_list (pv 5) (pe_un un_neg pe_int) (fun _ _ => rfl)) (fun _ _ => rfl)) pe_int (fun _ _ => rfl))) (pss_one (ps_if (pt_cmpR op_in_seq (pv 4) (pv 2) rfl) (pss_one (ps_set (i := 6) sc_L_final_run.nd rfl (Or.inl rfl) (pe_callTy call_tuple_of (by rfl) T.z_tuple (by decide +kernel) (pa_cons (pv 5) pa_nil)))) pss_nil)))) pss_nil))) (pss_one (ps_ret (pv 6)))))), ?_⟩)
  · obtain ⟨p, vs', ds, rfl, _, h1, ⟨_, rfl, _⟩, _⟩ := h
    exact congrArg Nat.succ h1.len
  obtain ⟨p, vs', ds, rfl, hp, hd, ⟨ns, rfl, g⟩, q⟩ := h
  have s0 := DS.startM (N := ["_law_pen_here", "_law_nodes", "_law_finals", "_law_turn", "_law_at", "_law_run", "_law_best"]) (a := .ref p) hd
  refine ⟨Nat.zero_le _, fun L hL => ⟨_, _, _, rfl, ?_⟩⟩
  have sL := Same.new (o := HO.lst []) hL
  have hne : L ≠ p := by
    obtain ⟨_, _, _, z⟩ := hp
    exact fun z2 => by rw [z2, z] at hL; cases hL
  have one := g.one
  have fin0 : ∀ a : Nat, a < ns.length → ((a : Nat) : Int) ∈ (List.range ns.length).map (fun n => ((n : Nat) : Int)) := fun a ha => List.mem_map_of_mem (List.mem_range.mpr ha)
  refine StD.go (G := gN (nL K H p L [])) (ss := [.v (.ref p), .d (gD encW ns), .d (fD (List.range ns.length)), .no, .d (.int 0), .v (.ref L), .d .none]) ?_ ⟨⟨sL.frP, ⟨[], upd_same, .nil⟩, hne⟩, hp.mono sL⟩ ((((s0.mono sL.tp).set (i := 4) (s := .d (.int 0)) ⟨_, rfl, .int _⟩).set (i := 5) (s := .v (.ref L)) rfl).set (i := 6) (s := .d .none) ⟨_, rfl, .non⟩)
  refine q_if (b := true) (evt_to (evt_test (ev_inI ((List.range ns.length).map fun n => ((n : Nat) : Int)) (ev_int (n := 0)) (ev_var rfl))) (decide_eq_true (fin0 0 one))) (fun _ σ H1 g1 s1 => ?_) (fun z => by cases z)
  refine (ev_tup (K := K) (G := gT) eva_nil) σ H1 trivial s1 _ fun vb H2 e2 db => ?_
  refine StD.go (G := gN (nL K H p L [])) (ss := [.v (.ref p), .d (gD encW ns), .d (fD (List.range ns.length)), .no, .d (.int 0), .v (.ref L), .d (.tuple [])]) ?_ ((gN (nL K H p L [])).mono _ _ g1 e2) ((s1.mono e2.tp).set (i := 6) (s := .d (.tuple [])) ⟨_, rfl, db⟩)
  refine q_forRngN (m := 10) (fun j σ' H' => ∃ run best : List Int, run.length ≤ j ∧ best.length ≤ j ∧ RunV false ns run ∧ RunV false ns best ∧ (gN (nL K H p L (run.map PyData.int))).p H' ∧ DS K H' σ' [.v (.ref p), .d (gD encW ns), .d (fD (List.range ns.length)), .no, .d (.int ((fol ns run).1 : Nat)), .v (.ref L), .d (.tuple (best.map PyData.int))]) (evn_draw rfl ev_int ⟨by decide, by decide⟩) (by decide) (fun σ' H' g' s' => ⟨[], [], Nat.le_refl _, Nat.le_refl _, RunV.nil, RunV.nil, g', s'⟩) (fun j σ' H' hj ⟨run, best, hl, hbl, rv, rb, g', s'⟩ => ?_) (fun n σ' H' hn ⟨run, best, hl, hbl, rv, rb, g', s'⟩ => ?_)
  · have hlt := fol_lt g rv run.length (Nat.le_refl _)
    rw [List.take_length] at hlt
    have hnd := atI_map (h := fun es : List (WS × Nat) => PyData.tuple (es.map fun e => .tuple [encW e.1, .int (e.2 : Nat)])) [] hlt
    have hmem := getD_mem' (l := ns) (i := (fol ns run).1) [] hlt
    have hw := g.three _ hmem
    have hwk := g.step _ hmem
    refine StD.go ?_ g' (s'.set (i := 3) (s := .d (.int (j : Nat))) ⟨_, rfl, .int _⟩)
    refine s_if (evt_test (ev_neD (ev_ix (ev_var rfl) (ev_var rfl) hnd) (ev_tup eva_nil) (shaped_row _ hwk) (by decide +kernel))) (fun hb => ?_) (fun hb σ2 H2 g2 s2 => ⟨run, best, by omega, by omega, rv, rb, g2, s2.wk ⟨.inr rfl, .inr rfl, .inr rfl, .inl rfl, .inr rfl, .inr rfl, .inr rfl, trivial⟩⟩)
    have hpos : 0 < (ns.getD (fol ns run).1 []).length := by
      have h1 := eqv_row_nil (ns.getD (fol ns run).1 [])
      have h2 : (!PyData.eqv (rowD encW (ns.getD (fol ns run).1 [])) (.tuple [])) = true := hb
      rw [h1] at h2
      cases hE : ns.getD (fol ns run).1 [] with
      | nil => rw [hE] at h2; cases h2
      | cons a l => exact Nat.succ_pos _
    refine q_appN (evn_draw rfl (ev_len rfl (ev_ix (ev_var rfl) (ev_var rfl) hnd)) ⟨by rw [List.length_map]; omega, by rw [List.length_map]; omega⟩) rfl hL (by rw [List.length_map]; omega) fun d ⟨l, ed, l0, l1⟩ => ?_
    subst ed
    rw [List.length_map] at l1
    have hok : okL false ns (fol ns run).1 l := .inr ⟨l0, l1⟩
    have rv2 := rv.snoc hok
    have hts := fol_snoc (ns := ns) (run := run) (l := l)
    have hat : (fol ns (run ++ [l])).1 = ((ns.getD (fol ns run).1 []).getD l.toNat default).2 := by
      rw [hts]
      unfold nxS
      rw [if_neg (by omega)]
    have hlt2 := fol_lt g rv2 (run ++ [l]).length (Nat.le_refl _)
    rw [List.take_length] at hlt2
    refine q_set (d := .int ((fol ns (run ++ [l])).1 : Nat)) ?_ ?_
    · rw [hat]
      exact ev_ix (ev_ix (ev_ix (ev_var rfl) (ev_var rfl) hnd) (ev_ixL (L := L) (d := .int l) rfl (fun H' g' => g'.1.2.1) (ev_neg ev_int) (atI_last _ _)) (atI_mapI default l0 l1)) ev_int rfl
    refine s_if (b := true) (evt_to (evt_test (ev_inI ((List.range ns.length).map fun n => ((n : Nat) : Int)) (ev_var rfl) (ev_var rfl))) (decide_eq_true (fin0 _ hlt2))) (fun _ σ2 H2 g2 s2 => ?_) (fun z => by cases z)
    refine (ev_tupV (K := K) (G := gN (nL K H p L (run.map PyData.int ++ [.int l]))) (L := L) (i := 5) rfl rfl fun H' g' => g'.1.2.1) σ2 H2 g2 s2 _ fun v3 H3 e3 d3 => ?_
    refine ⟨run ++ [l], run ++ [l], by rw [List.length_append, List.length_singleton]; omega, by rw [List.length_append, List.length_singleton]; omega, rv2, rv2, ?_, ?_⟩
    · rw [List.map_append]
      exact (gN (nL K H p L (run.map PyData.int ++ [.int l]))).mono _ _ g2 e3
    · rw [List.map_append]
      exact ((s2.mono e3.tp).set (i := 6) (s := .d (.tuple (run.map PyData.int ++ [.int l]))) ⟨_, rfl, d3⟩).wk ⟨.inr rfl, .inr rfl, .inr rfl, .inl rfl, .inr rfl, .inr rfl, .inr rfl, trivial⟩
  · have hrt : RtD K (gN (nL K H p L (run.map PyData.int))) { nx := fun _ H' => Q .non H', rt := Q } (.tuple (best.map PyData.int)) := RtD.weak (G := gN (nS H p)) (fun H' g' => ⟨g'.1.1, g'.2⟩) (rt_N q ⟨ns, best, rfl, rfl, rb, by omega⟩)
    exact StD.go (G := gN (nL K H p L (run.map PyData.int))) (st_ret (ev_var rfl) hrt) g' s'
end
end KX
set_option maxHeartbeats 4000000
namespace KX
open PySem PySem.Spec PyProof.Rows L2
/-! ### what a writer says -/
def oD : Option Str → PyData
  | none => .none
  | some z => .str z
def sD (l : List Str) : PyData := .tuple (l.map PyData.str)
def sayW (rule : Str) (said : List Str) (z : Str) : List Str := if rule = "first" ∧ z ∈ said then said else said.filter (fun y => !decide (y = z)) ++ [z]
def written (rule : Str) (t : Option Str × List Str) (s : WS) : Option Str × List Str := match s with
  | .set z => (some z, t.2)
  | .say z => (t.1, sayW rule t.2 z)
  | .again => match t.1 with
    | none => t
    | some z => (t.1, sayW rule t.2 z)
def lies (kind : Str) (w : Option Str) (said : List Str) : Bool := if kind = "reread" then w.isSome && said.isEmpty else match w with
  | none => !said.isEmpty
  | some z => !decide (said.getLast? = some z)
theorem compD_filter {α : Type} {l : List α} {d : α} {q : α → Bool} {h : α → PyData} : compD l.length (fun i => q (l.getD i d)) (fun i => h (l.getD i d)) = (l.filter q).map h := by
  have key : ∀ (m : Nat), m ≤ l.length → compD m (fun i => q (l.getD i d)) (fun i => h (l.getD i d)) = ((l.take m).filter q).map h := fun m => by
    induction m with
    | zero =>
      intro _
      rw [List.take_zero] <;> rfl
    | succ m ih =>
      intro hm
      have e : l.take (m + 1) = l.take m ++ [l.getD m d] := by
        rw [List.take_succ, List.getD_eq_getElem?_getD, List.getElem?_eq_getElem (by omega)] <;> rfl
      rw [e, List.filter_append, List.map_append]
      cases hq : q (l.getD m d) with
      | true =>
        rw [compD_yes hq, ih (by omega), List.filter_cons, if_pos hq] <;> rfl
      | false =>
        rw [compD_no hq, ih (by omega), List.filter_cons, if_neg (by rw [hq]; decide)]
        simp
  rw [key l.length (Nat.le_refl _), List.take_length]
section
variable {P : Program} {w : World} {K : PySem.W.Frag} {mg : Str → Option Value} {base : Heap} {p : Addr}
theorem sc_L_written : FnScope ["_law_rule_here", "_law_word", "_law_said", "_law_step", "_law_new", "_law_one"] ["_law_rule_here", "_law_word", "_law_said", "_law_step"] (defScope s_L_written) := ⟨rfl, rfl, rfl, by decide +kernel, rfl, by decide +kernel, by decide +kernel⟩
theorem ok__law_written (T : Tx w K mg) : FnN P w K mg base 1 a__law_written (spD K fun ds r => ∃ (rule : Str) (t : Option Str × List Str) (s : WS), ds = [.str rule, oD t.1, sD t.2, encW s] ∧ t.2.length ≤ 900 ∧ r = .tuple [oD (written rule t s).1, sD (written rule t s).2]) := by
  obtain ⟨fd, F⟩ := T.F_L_written
  refine F.okN rfl sc_L_written (fun _ _ _ _ _ _ us hl => match us, hl with | [_, _, _, _], _ => rfl) (fun vs H Q h => ?_) (fun A outer s H vs Q hr h => ⟨_, (pss_cons (ps_if (pt_cmpR op_eq (pe_ix ix_tup (pv 3) pe_int (fun _ _ => rfl)) pe_str (nomark _)) (pss_one (ps_ret (pe_tup (pa_cons (pe_ix ix_tup (pv 3) pe_int (fun _ _ => rfl)) (pa_cons (pv 2) pa_nil))))) pss_nil) (pss_cons (ps_set (i := 4) sc_L_written.nd rfl (Or.inr rfl) (pe_ifExp (pt_cmpR op_eq (pe_callB call_len (by rfl) T.z_len PySem.boot_len (pa_cons (pv 3) pa_nil)) pe_int (nomark _)) (pv 1) (pe_ix ix_tup (pv 3) pe_int (fun _ _ => rfl)))) (pss_cons (ps_if (PW.pt (pw_or (pt_cmpR op_isN (pv 4) pe_non (nomark _)) (pw_or1 (PW.pt (pw_and (pt_cmpR op_eq (pv 0) pe_str (nomark _)) (pw_and1 (pt_cmpR op_in_seq (pv 4) (pv 2) rfl))))))) (pss_one (ps_ret (pe_tup (pa_cons (pv 1) (pa_cons (pv 2) pa_nil))))) pss_nil) (pss_one (ps_ret (pe_tup (pa_cons (pv 1) (pa_cons (pe_op op_catA (pe_callTy call_tuple_of (by rfl) T.z_tuple (by decide +kernel) (pa_cons (pe_lc (own := [("_law_one", 5)]) (by rfl) sc_L_written.nd (pi_tup (pv 2)) (blkOk_by (N := ["_law_rule_here", "_law_word", "_law_said", "_law_step", "_law_new", "_law_one"]) (sc := defScope s_L_written) (by decide +kernel)) (fun _ _ _ _ _ => by exact (pg_name (i := 5) sc_L_written.nd rfl (Or.inl rfl))) (fun _ _ _ _ _ => pts_one (pt_cmpR op_ne (pv 5) (pv 4) (nomark _))) (fun _ _ _ _ _ => (pv 5))) pa_nil)) (pe_tup (pa_cons (pv 4) pa_nil))) pa_nil)))))))), ?_⟩)
  · obtain ⟨ds, r, h1, ⟨_, _, _, rfl, _⟩, _⟩ := h
    exact h1.len
  obtain ⟨ds, r, hd, ⟨rule, ⟨wd, said⟩, s, rfl, hl, rfl⟩, q⟩ := h
  have hl : said.length ≤ 900 := hl
  refine StD.go (G := gS H) ?_ (Same.refl H) (DS.start hd)
  have say : ∀ (z : Str) (ss : List SV), ss[0]? = some (.d (.str rule)) → ss[1]? = some (.d (oD wd)) → ss[2]? = some (.d (sD said)) → ss[4]? = some (.d (.str z)) → ss.length = 6 → (∀ v H', Same H H' → DT K H' v (.tuple [oD wd, sD (sayW rule said z)]) → Q v H') → StD K (gS H) (tSeq (tIfS (tOr (tTest (tOp (fun x y H Q => y = .non ∧ Q (.bl (decide (x = .non))) H) (tVar 4) (tC .non))) (tAnd (tTest (tOp rEq (tVar 0) (tC (.str "first")))) (tTest (tOp (rIn K false) (tVar 4) (tVar 2))))) (tRet (tTup (tCons (tVar 1) (tCons (tVar 2) tNil)))) tNext) (tRet (tTup (tCons (tVar 1) (tCons (tOp (rCatA K) (tCB (fun xs H Q => ∃ p ys, xs = [.ref p] ∧ ((SqL K H p ys ∧ ∀ l, H l = none → Q (.ref l) (upd H l (.tup ys))) ∨ (SqT K H p ys ∧ Q (.ref p) H))) (tCons (tLc (iTup K (tVar 2)) (gName 5) (tTest (tOp rNe (tVar 5) (tVar 4))) (tVar 5) [5]) tNil)) (tTup (tCons (tVar 4) tNil))) tNil))))) { nx := fun _ H' => Q .non H', rt := Q } ss := fun z ss h0 h1 h2 h4 h6 q => by
    refine q_when (evt_or (evt_test (ev_isN (ev_var h4))) fun _ => evt_and (evt_test (ev_eqs (ev_var h0) ev_str)) fun _ => evt_test (ev_inS said (ev_var h4) (ev_var h2))) (fun hb => ?_) (fun hb => ?_)
    · have e : rule = "first" ∧ z ∈ said := by simpa [isNoneD] using hb
      exact st_ret (ev_tup (eva_cons (ev_var h1) (eva_cons (ev_var h2) eva_nil))) (rt_of q (by rw [sayW, if_pos e]))
    · have e : ¬ (rule = "first" ∧ z ∈ said) := by simpa [isNoneD] using hb
      have h5 : ∀ d, (ss.set 5 (.d d))[5]? = some (.d d) := fun d => List.getElem?_set_self (by rw [h6]; decide)
      have h54 : ∀ d, (ss.set 5 (.d d))[4]? = some (.d (.str z)) := fun d => (List.getElem?_set_ne (by decide)).trans h4
      have lc := evl_lc (K := K) (G := gS H) (ss := ss) (j := 5) (b := fun i => !decide (said.getD i "" = z)) (e := fun i => PyData.str (said.getD i "")) (evw_tupM (h := PyData.str) ("" : Str) (ev_var h2)) (fun i _ => evt_test (ev_nes (ev_var (h5 _)) (ev_var (h54 _)))) (fun i _ _ => ev_var (h5 _)) (by omega)
      rw [compD_filter (q := fun y => !decide (y = z)) (h := PyData.str)] at lc
      refine st_ret (ev_tup (eva_cons (ev_var h1) (eva_cons (ev_cat (ev_tupL rfl lc) (ev_tup (eva_cons (ev_var h4) eva_nil)) ?_) eva_nil))) (rt_of q ?_)
      · have h7 := List.length_filter_le (fun y => !decide (y = z)) said
        rw [List.length_map, List.length_singleton]
        omega
      · rw [sayW, if_neg e]
        unfold sD
        rw [List.map_append] <;> rfl
  cases s with
  | set z => exact q_when (b := true) (evt_to (evt_test (ev_eqs (ev_ix (ds := [.str "set", .str z]) (ev_var rfl) ev_int rfl) ev_str)) (by decide +kernel)) (fun _ => st_ret (ev_tup (eva_cons (ev_ix (ds := [.str "set", .str z]) (ev_var rfl) ev_int rfl) (eva_cons (ev_var rfl) eva_nil))) (rt_of q rfl)) (fun h => by cases h)
  | say z =>
    refine q_when (b := false) (evt_to (evt_test (ev_eqs (ev_ix (ds := [.str "say", .str z]) (ev_var rfl) ev_int rfl) ev_str)) (by decide +kernel)) (fun h => by cases h) (fun _ => ?_)
    refine q_set (d := .str z) (ev_if (b := false) (evt_to (evt_test (ev_eqi (ev_len (ds := [.str "say", .str z]) rfl (ev_var rfl)) ev_int)) (decide_eq_false (show ¬ ((2 : Nat) : Int) = 1 by decide))) (fun h => by cases h) fun _ => ev_ix (ds := [.str "say", .str z]) (ev_var rfl) ev_int rfl) ?_
    exact say z _ rfl rfl rfl rfl rfl fun v H' e t => q v H' e t
  | again =>
    refine q_when (b := false) (evt_to (evt_test (ev_eqs (ev_ix (ds := [.str "say"]) (ev_var rfl) ev_int rfl) ev_str)) (by decide +kernel)) (fun h => by cases h) (fun _ => ?_)
    refine q_set (d := oD wd) (ev_if (b := true) (evt_to (evt_test (ev_eqi (ev_len (ds := [.str "say"]) rfl (ev_var rfl)) ev_int)) (by decide)) (fun _ => ev_var rfl) fun h => by cases h) ?_
    cases wd with
    | none => exact q_when (b := true) (evt_or (b := true) (c := false) (evt_test (ev_to (ev_isN (x := .none) (ev_var rfl)) rfl)) (fun h => by cases h)) (fun _ => st_ret (ev_tup (eva_cons (ev_var rfl) (eva_cons (ev_var rfl) eva_nil))) (rt_of q rfl)) (fun h => by cases h)
    | some z => exact say z _ rfl rfl rfl rfl rfl fun v H' e t => q v H' e t
theorem str_lay : ∀ l : List Str, (∀ z ∈ l, PyData.strOk z = true) → PyData.canLayAll0 (l.map .str) = true
  | [], _ => by simp [PyData.canLayAll0]
  | z :: l, h => by simp [PyData.canLayAll0, PyData.canLay0, h z List.mem_cons_self, str_lay l fun y hy => h y (List.mem_cons_of_mem _ hy)]
theorem str_depth : ∀ l : List Str, PyData.depthAll (l.map .str) ≤ 1
  | [] => by simp [PyData.depthAll]
  | z :: l => by
    have h := str_depth l
    simp only [List.map_cons, PyData.depthAll, PyData.depth]
    omega
theorem shaped_strs (l : List Str) (h : ∀ z ∈ l, PyData.strOk z = true) : SeqAt.shaped (sD l) = true := by
  show (PyData.canLay0 (sD l) && decide (PyData.depth (sD l) ≤ 64)) = true
  rw [Bool.and_eq_true]
  have h2 := str_depth l
  exact ⟨by simp only [sD, PyData.canLay0]; exact str_lay l h, decide_eq_true (by simp only [sD, PyData.depth]; omega)⟩
theorem eqv_strs_nil (l : List Str) : PyData.eqv (sD l) (.tuple []) = l.isEmpty := by
  cases l <;> simp [sD, PyData.eqv, PyData.eqvAll]
theorem eqv_one (l : List Str) (z : Str) : PyData.eqv (sD (l.drop (l.length - 1))) (sD [z]) = decide (l.getLast? = some z) := by
  cases h : l.getLast? with
  | none =>
    have e : l = [] := List.getLast?_eq_none_iff.mp h
    subst e
    simp [sD, PyData.eqv, PyData.eqvAll]
  | some y =>
    obtain ⟨m, e⟩ := List.getLast?_eq_some_iff.mp h
    subst e
    rw [List.length_append, List.length_singleton, Nat.add_sub_cancel, List.drop_left]
    simp only [sD, List.map_cons, List.map_nil, PyData.eqv, PyData.eqvAll, Bool.and_true, Option.some.injEq]
    by_cases e : y = z
    · subst e
      simp
    · simp [e]
theorem cutD_last {xs : List PyData} : cutD xs (some (-1)) none = xs.drop (xs.length - 1) := by
  unfold cutD
  have e1 : HT.sIx xs.length 0 (some (-1)) = xs.length - 1 := by
    show (if (-1 : Int) < 0 then ((-1 : Int) + (xs.length : Int)).toNat else min (-1 : Int).toNat xs.length) = xs.length - 1
    rw [if_pos (show (-1 : Int) < 0 by decide)]
    omega
  have e2 : HT.sIx xs.length xs.length none = xs.length := rfl
  rw [e1, e2]
  rw [List.take_of_length_le]
  rw [List.length_drop]
  omega
theorem sc_L_lies : FnScope ["_law_way", "_law_word", "_law_said"] ["_law_way", "_law_word", "_law_said"] (defScope s_L_lies) := ⟨rfl, rfl, rfl, by decide +kernel, rfl, by decide +kernel, by decide +kernel⟩
theorem ok__law_lies (T : Tx w K mg) : FnN P w K mg base 1 a__law_lies (spD K fun ds r => ∃ (kind : Str) (wd : Option Str) (said : List Str), ds = [.str kind, oD wd, sD said] ∧ (∀ z ∈ said, z ∈ wwords) ∧ (∀ z, wd = some z → z ∈ wwords) ∧ r = .bool (lies kind wd said)) := by
  obtain ⟨fd, F⟩ := T.F_L_lies
  refine F.okN rfl sc_L_lies (fun _ _ _ _ _ _ us hl => match us, hl with | [_, _, _], _ => rfl) (fun vs H Q h => ?_) (fun A outer s H vs Q hr h => ⟨_, (pss_cons (ps_if (pt_cmpR op_eq (pv 0) pe_str (nomark _)) (pss_one (ps_ret (pe_and (pe_cmpR op_notN (pv 1) pe_non (nomark _)) (pe_one (pe_cmpR (op_eqD hr.units) (pv 2) (pe_tup pa_nil) (nomark _)))))) pss_nil) (pss_one (ps_ret (pe_ifExp (pt_cmpR op_isN (pv 1) pe_non (nomark _)) (pe_cmpR (op_neD hr.units) (pv 2) (pe_tup pa_nil) (nomark _)) (pe_cmpR (op_neD hr.units) (pe_slice sl_tupA (pv 2) (po_some (pe_un un_neg pe_int)) po_none) (pe_tup (pa_cons (pv 1) pa_nil)) (nomark _)))))), ?_⟩)
  · obtain ⟨ds, r, h1, ⟨_, _, _, rfl, _⟩, _⟩ := h
    exact h1.len
  obtain ⟨ds, r, hd, ⟨kind, wd, said, rfl, hw, hw2, rfl⟩, q⟩ := h
  have hsh := shaped_strs said fun z hz => words_ok z (hw z hz)
  refine StD.go (G := gS H) ?_ (Same.refl H) (DS.start hd)
  refine q_when (evt_test (ev_eqs (ev_var rfl) ev_str)) (fun h => ?_) (fun h => ?_)
  · have h := of_decide_eq_true h
    refine st_ret (ev_and (ev_notN (ev_var rfl)) fun _ => ev_eqD (ev_var rfl) (ev_tup eva_nil) hsh (by decide +kernel)) (rt_of q ?_)
    have e1 : (!isNoneD (oD wd)) = wd.isSome := by cases wd <;> rfl
    unfold lies
    rw [if_pos h, ← eqv_strs_nil, ← e1] <;> rfl
  · have h := of_decide_eq_false h
    cases wd with
    | none =>
      refine st_ret (ev_if (b := true) (x := .bool (!PyData.eqv (sD said) (.tuple []))) (evt_test (ev_to (ev_isN (x := .none) (ev_var rfl)) rfl)) (fun _ => ev_neD (ev_var rfl) (ev_tup eva_nil) hsh (by decide +kernel)) fun h => by cases h) (rt_of q ?_)
      unfold lies
      rw [if_neg h, eqv_strs_nil]
    | some z =>
      have hz := words_ok z (hw2 z rfl)
      refine st_ret (ev_if (b := false) (x := .bool (!PyData.eqv (sD (said.drop (said.length - 1))) (sD [z]))) (evt_test (ev_to (ev_isN (x := .str z) (ev_var rfl)) rfl)) (fun h => by cases h) fun _ => ev_neD (ev_to' (ev_slice (lo := some (-1)) (hi := none) (ev_var rfl) (evo_some (ev_neg ev_int)) evo_none) ?_) (ev_tup (eva_cons (ev_var rfl) eva_nil)) (shaped_strs _ fun y hy => words_ok y (hw y (List.mem_of_mem_drop hy))) (shaped_strs [z] fun y hy => (by simpa using hy : y = z) ▸ hz)) (rt_of q ?_)
      · rw [cutD_last, List.length_map, List.map_drop]
      · unfold lies
        rw [if_neg h, eqv_one]
end
end KX
set_option maxHeartbeats 4000000
namespace KX
open PySem PySem.Spec PyProof.Rows L2 RZ
section
variable {K : PySem.W.Frag} {G : Gm} {ss : List SV} {ta te : TE} {tA : TA} {ts us : TS} {D : Ends} {d d1 d2 : PyData} {i j : Nat}
theorem q_par (h : EvA K G tA ss [d1, d2]) (k : StD K G us D ((ss.set i (.d d1)).set j (.d d2))) : StD K G (tSeq (tPar i j tA) us) D ss := fun σ H g s =>
  h σ H g s _ fun vs H1 e1 a => by
    cases a with
    | cons a b =>
      cases b with
      | cons b c =>
        cases c
        exact ⟨_, _, rfl, k _ H1 (G.mono _ _ g e1) (((s.mono e1.tp).set (i := i) (s := .d d1) ⟨_, rfl, a⟩).set (i := j) (s := .d d2) ⟨_, rfl, b⟩)⟩
theorem s_par (h : EvA K G tA ss [d1, d2]) (k : StD K G tNext D ((ss.set i (.d d1)).set j (.d d2))) : StD K G (tPar i j tA) D ss := q_par (us := tNext) h k
/-- range(n, -1, -1) -/
theorem evw_down {n : Nat} (h : EvA K G tA ss [.int (n : Nat), .int (-1), .int (-1)]) (hn : n ≤ 1000) : EvW K G (iRng3 tA) ss (n + 1) (fun i => .int ((n : Int) - (i : Nat))) := fun σ H g s R r =>
  h σ H g s _ fun vs H1 e1 a => by
    cases a with
    | cons a b =>
    cases b with
    | cons b c =>
    cases c with
    | cons c nl =>
    cases nl
    cases a
    cases b
    cases c
    have hc := RgC.neg (i := (n : Int)) (j := -1) (by omega) (by omega) (by omega) (by omega)
    have e : ((n : Int) - -1).toNat = n + 1 := by omega
    rw [e] at hc
    refine ⟨(n : Nat), -1, -1, n + 1, rfl, hc, r _ H1 (fun _ => True) e1 trivial ⟨fun _ _ _ _ => trivial, ?_⟩⟩
    refine walk_rangeC.mono (fun _ _ => trivial) fun i H x H' hi _ y => ?_
    obtain ⟨e, hx⟩ := y
    subst e hx
    have e2 : (n : Int) + (i : Nat) * (-1) = (n : Int) - (i : Nat) := by omega
    show Same H' H' ∧ DT K H' (V.int ((n : Int) + (i : Nat) * (-1))) (PyData.int ((n : Int) - (i : Nat)))
    rw [e2]
    exact ⟨Same.refl _, .int _⟩
end
/-- a promise of data with an open answer -/
def spO (K : PySem.W.Frag) (Pre : List PyData → Prop) (R : List PyData → PyData → Prop) : SpN := fun vs H Q => ∃ ds, DTs K H vs ds ∧ Pre ds ∧ ∀ v r H', Same H H' → R ds r → DT K H' v r → Q v H'
def lsAt (l : List (Option Str)) : LS := l.foldl (fun s o => s.after (o.getD "other")) LS.start
theorem lsAt_snoc {l : List (Option Str)} {o : Option Str} : lsAt (l ++ [o]) = (lsAt l).after (o.getD "other") := by
  unfold lsAt
  rw [List.foldl_append] <;> rfl
theorem after_wait (s : LS) (z : Str) : (s.after z).waiting.length ≤ s.waiting.length + 1 := by
  unfold LS.after LS.alone LS.within
  repeat' split
  all_goals simp_all
theorem lsAt_wait (l : List (Option Str)) : (lsAt l).waiting.length ≤ l.length := by
  have key : ∀ (l : List (Option Str)) (s : LS), (l.foldl (fun s o => s.after (o.getD "other")) s).waiting.length ≤ s.waiting.length + l.length := fun l => by
    induction l with
    | nil => intro s; exact Nat.le_refl _
    | cons o l ih =>
      intro s
      rw [List.foldl_cons, List.length_cons]
      have h1 := ih (s.after (o.getD "other"))
      have h2 := after_wait s (o.getD "other")
      omega
  have q := key l LS.start
  unfold lsAt
  simpa [LS.start] using q
def isOpen (o : Bool) (z : Str) : Bool := if o then !(decide (z = "commit") || decide (z = "rollback") || decide (z = "disconnect")) else decide (z = "begin")
section
variable {P : Program} {w : World} {K : PySem.W.Frag} {mg : Str → Option Value} {base : Heap} {p : Addr}
theorem sc_L_replayed : FnScope ["_law_nodes", "_law_run", "_law_label", "_law_node", "_law_state", "_law_step", "_law_there"] ["_law_nodes", "_law_run"] (defScope s_L_replayed) := ⟨rfl, rfl, rfl, by decide +kernel, rfl, by decide +kernel, by decide +kernel⟩
theorem ok__law_replayed (T : Tx w K mg) : FnN P w K mg base 3 a__law_replayed (spD K fun ds r => ∃ (ns : List (List (Str × Nat))) (run : List Int), ∃ ok : Str → Prop, ds = [gD PyData.str ns, .tuple (run.map .int)] ∧ GOk ok ns ∧ RunV true ns run ∧ run.length ≤ 900 ∧ r = .tuple [.int ((fol ns run).1 : Nat), (lsAt (fol ns run).2).e]) := by
  obtain ⟨fd, F⟩ := T.F_L_replayed
  refine F.okN rfl sc_L_replayed (fun _ _ _ _ _ _ us hl => match us, hl with | [_, _], _ => rfl) (fun vs H Q h => ?_) (fun A outer s H vs Q hr h => ⟨_, (pss_cons (ps_par (i := 3) (j := 4) rfl sc_L_replayed.nd rfl rfl (by decide) rfl rfl (pa_cons pe_int (pa_cons (pe_cl0 (ok__law_start T) (hr.mono (by decide)) T.kp__law_start T.g__law_start) pa_nil)) (by rfl)) (pss_cons (ps_for PassesOwn.never rfl (pi_tup (pv 1)) (pg_name (i := 2) sc_L_replayed.nd rfl (Or.inl rfl)) (pss_cons (ps_asg (pe_ifExp (pt_cmpR op_eq (pv 2) (pe_un un_neg pe_int) (nomark _)) (pe_tup (pa_cons pe_str (pa_cons (pv 3) pa_nil))) (pe_ix ix_tup (pe_ix ix_tup (pv 0) (pv 3) (fun _ _ => rfl)) (pv 2) (fun _ _ => rfl))) (pg_tup rfl (pgs_cons (pg_name (i := 5) sc_L_replayed.nd rfl (Or.inl rfl)) (pgs_cons (pg_name (i := 6) sc_L_replayed.nd rfl (Or.inl rfl)) pgs_nil)))) (pss_one (ps_par (i := 3) (j := 4) rfl sc_L_replayed.nd rfl rfl (by decide) rfl rfl (pa_cons (pv 6) (pa_cons (pe_cl (ok__law_after T) (hr.mono (by decide)) T.kp__law_after T.g__law_after (pa_cons (pv 4) (pa_cons (pv 5) pa_nil))) pa_nil)) (by rfl))))) (pss_one (ps_ret (pe_tup (pa_cons (pv 3) (pa_cons (pv 4) pa_nil))))))), ?_⟩)
  · obtain ⟨ds, r, h1, ⟨_, _, _, rfl, _⟩, _⟩ := h
    exact h1.len
  obtain ⟨ds, r, hd, ⟨ns, run, ok, rfl, g, rv, hn, rfl⟩, q⟩ := h
  refine StD.go (G := gS H) ?_ (Same.refl H) (DS.start hd)
  refine q_par (d1 := .int ((fol ns ([] : List Int)).1 : Nat)) (d2 := (lsAt (fol ns ([] : List Int)).2).e) (eva_cons ev_int (eva_cons (ev_cl eva_nil ⟨rfl, rfl⟩) eva_nil)) ?_
  refine q_forW (fun j => [.d (gD PyData.str ns), .d (.tuple (run.map .int)), .no, .d (.int ((fol ns (run.take j)).1 : Nat)), .d (lsAt (fol ns (run.take j)).2).e, .no, .no]) (evw_tupM (0 : Int) (ev_var rfl)) ⟨.inr rfl, .inr rfl, .inr rfl, .inr rfl, .inr rfl, .inr rfl, .inr rfl, trivial⟩ (fun G' hG j hj => ?_) ?_
  · have hlt := fol_lt g rv j (by omega)
    have hts := fol_snoc (ns := ns) (run := run.take j) (l := run.getD j 0)
    rw [← take_succ' hj] at hts
    have hok := rv j hj
    have hwt := lsAt_wait (fol ns (run.take j)).2
    rw [fol_len, List.length_take] at hwt
    generalize run.getD j 0 = l at hts hok
    have hnd := atI_map (h := fun es : List (Str × Nat) => PyData.tuple (es.map fun e => .tuple [.str e.1, .int (e.2 : Nat)])) [] hlt
    have fin : ∀ z : Str, (nxS ns (fol ns (run.take j)).1 l).2.getD "other" = z → StD K G' (tPar 3 4 (tCons (tVar 6) (tCons (tCl (spD K rAfter) (tCons (tVar 4) (tCons (tVar 5) tNil))) tNil))) { nx := Tn K G' [.d (gD PyData.str ns), .d (.tuple (run.map .int)), .no, .d (.int ((fol ns (run.take (j + 1))).1 : Nat)), .d (lsAt (fol ns (run.take (j + 1))).2).e, .no, .no], rt := Q, bk := tRet (tTup (tCons (tVar 3) (tCons (tVar 4) tNil))) { nx := fun _ H' => Q .non H', rt := Q }, ct := Tn K G' [.d (gD PyData.str ns), .d (.tuple (run.map .int)), .no, .d (.int ((fol ns (run.take (j + 1))).1 : Nat)), .d (lsAt (fol ns (run.take (j + 1))).2).e, .no, .no] } [.d (gD PyData.str ns), .d (.tuple (run.map .int)), .d (.int l), .d (.int ((fol ns (run.take j)).1 : Nat)), .d (lsAt (fol ns (run.take j)).2).e, .d (.str z), .d (.int ((nxS ns (fol ns (run.take j)).1 l).1 : Nat))] := fun z hz => by
      refine s_par (d1 := .int ((fol ns (run.take (j + 1))).1 : Nat)) (d2 := (lsAt (fol ns (run.take (j + 1))).2).e) (eva_cons (ev_var (by rw [hts] <;> rfl)) (eva_cons (ev_cl (eva_cons (ev_var rfl) (eva_cons (ev_var rfl) eva_nil)) ⟨_, z, by omega, rfl, by rw [hts, lsAt_snoc, hz]⟩) eva_nil)) (st_nxV rfl ⟨.inr rfl, .inr rfl, .inl rfl, .inr rfl, .inr rfl, .inl rfl, .inl rfl, trivial⟩)
    rcases hok with ⟨h1, h2⟩ | ⟨h1, h2⟩
    · subst h1
      exact q_unpack (is := [5, 6]) (ds := [.str "other", .int ((fol ns (run.take j)).1 : Nat)]) rfl rfl (ev_if (b := true) (evt_to (evt_test (ev_eqi (ev_var rfl) (ev_neg ev_int))) (by decide)) (fun _ => ev_tup (eva_cons ev_str (eva_cons (ev_var rfl) eva_nil))) fun h => by cases h) rfl (fin "other" rfl)
    · have hne : ¬ l = -1 := by omega
      have e0 : nxS ns (fol ns (run.take j)).1 l = (((ns.getD (fol ns (run.take j)).1 []).getD l.toNat default).2, some ((ns.getD (fol ns (run.take j)).1 []).getD l.toNat default).1) := by
        unfold nxS
        rw [if_neg hne]
      have f2 := fin ((ns.getD (fol ns (run.take j)).1 []).getD l.toNat default).1 (by rw [e0] <;> rfl)
      rw [e0] at f2
      exact q_unpack (is := [5, 6]) (ds := [.str ((ns.getD (fol ns (run.take j)).1 []).getD l.toNat default).1, .int (((ns.getD (fol ns (run.take j)).1 []).getD l.toNat default).2 : Nat)]) rfl rfl (ev_if (b := false) (evt_to (evt_test (ev_eqi (ev_var rfl) (ev_neg ev_int))) (decide_eq_false (by omega))) (fun h => by cases h) fun _ => ev_ix (ev_ix (ev_var rfl) (ev_var rfl) hnd) (ev_var rfl) (atI_mapI default h1 h2)) rfl f2
  · refine st_ret (ev_tup (eva_cons (ev_var rfl) (eva_cons (ev_var rfl) eva_nil))) (rt_of q ?_)
    rw [List.take_length]
end
end KX
set_option maxHeartbeats 4000000
namespace KX
open PySem PySem.Spec PyProof.Rows L2 RZ
theorem ev_toD {K : PySem.W.Frag} {G : Gm} {ss : List SV} {ta : TE} {a b : PyData} (h : EvD K G ta ss a) (e : a = b) : EvD K G ta ss b := e ▸ h
theorem cutD_to {α : Type} {f : α → PyData} {xs : List α} {n : Nat} (h : n ≤ xs.length) : cutD (xs.map f) none (some (n : Int)) = (xs.take n).map f := by
  unfold cutD
  have e1 : HT.sIx (xs.map f).length (xs.map f).length (some (n : Int)) = n := by rw [HT.sIx_nat, List.length_map]; omega
  have e2 : HT.sIx (xs.map f).length 0 none = 0 := rfl
  rw [e1, e2, List.drop_zero, Nat.sub_zero, List.map_take]
theorem rt_O {K : PySem.W.Frag} {H : Hp} {Q : VK} {D : Ends} {R : PyData → Prop} {r : PyData} (hD : D.rt = Q) (q : ∀ v r H', Same H H' → R r → DT K H' v r → Q v H') (e : R r) : RtD K (gS H) D r := fun v H' g a => by
  rw [hD]
  exact q v r H' g e a
section
variable {P : Program} {w : World} {K : PySem.W.Frag} {mg : Str → Option Value} {base : Heap} {p : Addr}
theorem sc_L_cut_at_rest : FnScope ["_law_nodes", "_law_finals", "_law_run", "_law_many", "_law_node", "_law_state"] ["_law_nodes", "_law_finals", "_law_run"] (defScope s_L_cut_at_rest) := ⟨rfl, rfl, rfl, by decide +kernel, rfl, by decide +kernel, by decide +kernel⟩
theorem ok__law_cut_at_rest (T : Tx w K mg) : FnN P w K mg base 4 a__law_cut_at_rest (spO K (fun ds => ∃ (ns : List (List (Str × Nat))) (fs : List Nat) (run : List Int), ∃ ok : Str → Prop, ds = [gD PyData.str ns, fD fs, .tuple (run.map .int)] ∧ GOk ok ns ∧ RunV true ns run ∧ run.length ≤ 900)
    fun ds r => ∃ (ns : List (List (Str × Nat))) (fs : List Nat) (run : List Int), ds = [gD PyData.str ns, fD fs, .tuple (run.map .int)] ∧ (r = .none ∨ ∃ j, j ≤ run.length ∧ r = .tuple ((run.take j).map .int) ∧ (fol ns (run.take j)).1 ∈ fs ∧ (lsAt (fol ns (run.take j)).2).work = none)) := by
  obtain ⟨fd, F⟩ := T.F_L_cut_at_rest
  refine F.okN rfl sc_L_cut_at_rest (fun _ _ _ _ _ _ us hl => match us, hl with | [_, _, _], _ => rfl) (fun vs H Q h => ?_) (fun A outer s H vs Q hr h => ⟨_, (pss_cons (ps_for PassesOwn.never rfl (pi_range3 (by rfl) T.z_range (pa_cons (pe_callB call_len (by rfl) T.z_len PySem.boot_len (pa_cons (pv 2) pa_nil)) (pa_cons (pe_un un_neg pe_int) (pa_cons (pe_un un_neg pe_int) pa_nil)))) (pg_name (i := 3) sc_L_cut_at_rest.nd rfl (Or.inl rfl)) (pss_cons (ps_asg (pe_cl (ok__law_replayed T) (hr.mono (by decide)) T.kp__law_replayed T.g__law_replayed (pa_cons (pv 0) (pa_cons (pe_slice sl_tupA (pv 2) po_none (po_some (pv 3))) pa_nil))) (pg_tup rfl (pgs_cons (pg_name (i := 4) sc_L_cut_at_rest.nd rfl (Or.inl rfl)) (pgs_cons (pg_name (i := 5) sc_L_cut_at_rest.nd rfl (Or.inl rfl)) pgs_nil)))) (pss_one (ps_if (PW.pt (pw_and (pt_cmpR op_in_seq (pv 4) (pv 1) rfl) (pw_and1 (pt_cmpR op_isN (pe_ix ix_tup (pv 5) pe_int (fun _ _ => rfl)) pe_non (nomark _))))) (pss_one (ps_ret (pe_slice sl_tupA (pv 2) po_none (po_some (pv 3))))) pss_nil)))) (pss_one (ps_ret pe_non))), ?_⟩)
  · obtain ⟨ds, h1, ⟨_, _, _, _, rfl, _⟩, _⟩ := h
    exact h1.len
  obtain ⟨ds, hd, ⟨ns, fs, run, ok, rfl, g, rv, hn⟩, q⟩ := h
  refine StD.go (G := gS H) ?_ (Same.refl H) (DS.start hd)
  refine q_forW (n := run.length + 1) (f := fun i => .int ((run.length : Int) - (i : Nat))) (fun j => [.d (gD PyData.str ns), .d (fD fs), .d (.tuple (run.map .int)), .no, .no, .no]) (evw_down (eva_cons (ev_toD (ev_len rfl (ev_var rfl)) (by rw [List.length_map])) (eva_cons (ev_neg ev_int) (eva_cons (ev_neg ev_int) eva_nil))) (by omega)) ⟨.inr rfl, .inr rfl, .inr rfl, .inr rfl, .inr rfl, .inr rfl, trivial⟩ (fun G' hG i hi => ?_) (st_ret (d := .none) (ev_cst fun _ => .non) (rt_O rfl q ⟨ns, fs, run, rfl, .inl rfl⟩))
  obtain ⟨m, hm⟩ : ∃ m : Nat, (run.length : Int) - (i : Nat) = m := ⟨run.length - i, by omega⟩
  rw [hm]
  have hml : m ≤ run.length := by omega
  have hsl := cutD_to (f := PyData.int) hml
  refine q_unpack (is := [4, 5]) (ds := [.int ((fol ns (run.take m)).1 : Nat), (lsAt (fol ns (run.take m)).2).e]) rfl rfl (ev_cl (eva_cons (ev_var rfl) (eva_cons (ev_to' (ev_slice (lo := none) (hi := some (m : Int)) (ev_var rfl) evo_none (evo_some (ev_var rfl))) hsl) eva_nil)) ⟨ns, run.take m, ok, rfl, g, rv.take m, by rw [List.length_take]; omega, rfl⟩) rfl ?_
  refine s_if (evt_and (evt_test (ev_inI (fs.map fun n => ((n : Nat) : Int)) (ev_var rfl) (ev_var rfl))) fun _ => evt_test (ev_isN (ev_ix (ds := [.int (lsAt (fol ns (run.take m)).2).present, .int (lsAt (fol ns (run.take m)).2).copy, .bool (lsAt (fol ns (run.take m)).2).listens, .tuple ((lsAt (fol ns (run.take m)).2).waiting.map .int), wkD (lsAt (fol ns (run.take m)).2).work]) (ev_var rfl) ev_int rfl))) (fun hb => ?_) (fun _ => st_nxV rfl ⟨.inr rfl, .inr rfl, .inr rfl, .inl rfl, .inl rfl, .inl rfl, trivial⟩)
  obtain ⟨h1, h2⟩ := Bool.and_eq_true_iff.mp hb
  have h1 := of_decide_eq_true h1
  refine st_ret (ev_to' (ev_slice (lo := none) (hi := some (m : Int)) (ev_var rfl) evo_none (evo_some (ev_var rfl))) hsl) (RtD.weak hG (rt_O rfl q ⟨ns, fs, run, rfl, .inr ⟨m, hml, rfl, ?_, ?_⟩⟩))
  · obtain ⟨a, ha, e⟩ := List.mem_map.mp h1
    have e2 : a = (fol ns (run.take m)).1 := by omega
    exact e2 ▸ ha
  · cases hw : (lsAt (fol ns (run.take m)).2).work with
    | none => rfl
    | some x =>
      rw [hw] at h2
      cases h2
end
end KX
set_option maxHeartbeats 4000000
namespace KX
open PySem PySem.Spec PyProof.Rows L2
theorem wwords_ok : ∀ z ∈ wwords, wordB z := by
  intro z hz
  have h2 : ∀ z ∈ wwords, decide (1 ≤ z.length) && decide (z.length ≤ 6) && (List.range z.cps.size).all (fun i => decide (z.cps.getD i 0 ∈ ("abcdefghijklmnopqrstuvwxyz0123456789" : Str).cps.toList)) = true := by decide +kernel
  have h := h2 z hz
  simp only [Bool.and_eq_true, decide_eq_true_eq, List.all_eq_true, List.mem_range] at h
  exact ⟨h.1.1, h.1.2, h.2⟩
section
variable {P : Program} {w : World} {K : PySem.W.Frag} {mg : Str → Option Value} {base : Heap} {p : Addr}
theorem sc_is_writer_step : FnScope ["thing"] ["thing"] (defScope s_is_writer_step) := ⟨rfl, rfl, rfl, by decide +kernel, rfl, by decide +kernel, by decide +kernel⟩
theorem ok_is_writer_step (T : Tx w K mg) : FnN P w K mg base 3 a_is_writer_step (spD K fun ds r => ∃ a : WS, ds = [encW a] ∧ WOk a ∧ r = .bool true) := by
  obtain ⟨fd, F⟩ := T.F_is_writer_step
  refine F.okN rfl sc_is_writer_step (fun _ _ _ _ _ _ us hl => match us, hl with | [_], _ => rfl) (fun vs H Q h => ?_) (fun A outer s H vs Q hr h => ⟨_, (pss_cons (ps_if (PW.pt (pw_or (pt_not (pt_val (pe_callB call_isi (by rfl) T.z_isinstance (by decide +kernel) (pa_cons (pv 0) (pa_cons (pe_ty (n := "tuple") T.z_tuple (by decide +kernel)) pa_nil))))) (pw_or (pt_cmpR op_notIn_seq (pe_callB call_len (by rfl) T.z_len PySem.boot_len (pa_cons (pv 0) pa_nil)) (pe_tup (pa_cons pe_int (pa_cons pe_int pa_nil))) rfl) (pw_or1 (pt_not (pt_val (pe_callB call_isi (by rfl) T.z_isinstance (by decide +kernel) (pa_cons (pe_ix ix_tup (pv 0) pe_int (fun _ _ => rfl)) (pa_cons (pe_ty (n := "str") T.z_str (by decide +kernel)) pa_nil))))))))) (pss_one (ps_ret pe_bl)) pss_nil) (pss_cons (ps_if (pt_cmpR op_eq (pe_callB call_len (by rfl) T.z_len PySem.boot_len (pa_cons (pv 0) pa_nil)) pe_int (nomark _)) (pss_one (ps_ret (pe_cmpR op_eq (pe_ix ix_tup (pv 0) pe_int (fun _ _ => rfl)) pe_str (nomark _)))) pss_nil) (pss_one (ps_ret (pe_and (pe_cmpR op_in_seq (pe_ix ix_tup (pv 0) pe_int (fun _ _ => rfl)) (pe_tup (pa_cons pe_str (pa_cons pe_str pa_nil))) rfl) (pe_one (pe_cl (ok_is_word T) (hr.mono (by decide)) T.kp_is_word T.g_is_word (pa_cons (pe_ix ix_tup (pv 0) pe_int (fun _ _ => rfl)) pa_nil)))))))), ?_⟩)
  · obtain ⟨ds, r, h1, ⟨_, rfl, _⟩, _⟩ := h
    exact h1.len
  obtain ⟨ds, r, hd, ⟨a, rfl, ha, rfl⟩, q⟩ := h
  refine StD.go (G := gS H) ?_ (Same.refl H) (DS.start hd)
  have two : ∀ (c z : Str), c ∈ (["set", "say"] : List Str) → z ∈ wwords → StD K (gS H) (tRet (tAndV (tOp (rIn K false) (tOp (rIxT K) (tVar 0) (tC (.int 0))) (tTup (tCons (tC (.str "set")) (tCons (tC (.str "say")) tNil)))) (tCl (spD K fun ds r => ∃ z : Str, ds = [.str z] ∧ wordB z ∧ r = .bool true) (tCons (tOp (rIxT K) (tVar 0) (tC (.int 1))) tNil)))) { nx := fun _ H' => Q .non H', rt := Q } [.d (.tuple [.str c, .str z])] := fun c z hc hz =>
    st_ret (ev_and (b := true) (c := true) (ev_to (ev_inS ["set", "say"] (ev_ix (ds := [.str c, .str z]) (ev_var rfl) ev_int rfl) (ev_tup (eva_cons ev_str (eva_cons ev_str eva_nil)))) (decide_eq_true hc)) fun _ => ev_cl (eva_cons (ev_ix (ds := [.str c, .str z]) (ev_var rfl) ev_int rfl) eva_nil) ⟨z, rfl, wwords_ok z hz, rfl⟩) (rt_of q rfl)
  have hd2 : ∀ (c z : Str) (us : TS), StD K (gS H) us { nx := fun _ H' => Q .non H', rt := Q } [.d (.tuple [.str c, .str z])] → StD K (gS H) (tSeq (tIfS (tOr (tNot (tTest (tCB (rIsi K) (tCons (tVar 0) (tCons (tC (.ty "tuple")) tNil))))) (tOr (tTest (tOp (rIn K true) (tCB (fun xs H Q => ∃ x n, xs = [x] ∧ LenV K x H n ∧ Q (.int n) H) (tCons (tVar 0) tNil)) (tTup (tCons (tC (.int 1)) (tCons (tC (.int 2)) tNil))))) (tNot (tTest (tCB (rIsi K) (tCons (tOp (rIxT K) (tVar 0) (tC (.int 0))) (tCons (tC (.ty "str")) tNil))))))) (tRet (tC (.bl false))) tNext) us) { nx := fun _ H' => Q .non H', rt := Q } [.d (.tuple [.str c, .str z])] := fun c z us h =>
    q_not (evt_oF (evt_nF (evt_test (ev_isi (ev_var rfl) kb_tup_tup))) (evt_oF (evt_to (evt_test (ev_ninI [1, 2] (ev_len (ds := [.str c, .str z]) rfl (ev_var rfl)) (ev_tup (eva_cons ev_int (eva_cons ev_int eva_nil))))) (by show (!decide (((2 : Nat) : Int) ∈ ([1, 2] : List Int))) = false; decide)) (evt_nF (evt_test (ev_isi (ev_ix (ds := [.str c, .str z]) (ev_var rfl) ev_int rfl) kb_str_str))))) h
  cases a with
  | set z => exact hd2 "set" z _ (q_not (evt_to (evt_test (ev_eqi (ev_len (ds := [.str "set", .str z]) rfl (ev_var rfl)) ev_int)) (by show decide (((2 : Nat) : Int) = 1) = false; decide)) (two "set" z (by decide +kernel) ha))
  | say z => exact hd2 "say" z _ (q_not (evt_to (evt_test (ev_eqi (ev_len (ds := [.str "say", .str z]) rfl (ev_var rfl)) ev_int)) (by show decide (((2 : Nat) : Int) = 1) = false; decide)) (two "say" z (by decide +kernel) ha))
  | again =>
    refine q_not (evt_oF (evt_nF (evt_test (ev_isi (ev_var rfl) kb_tup_tup))) (evt_oF (evt_to (evt_test (ev_ninI [1, 2] (ev_len (ds := [.str "say"]) rfl (ev_var rfl)) (ev_tup (eva_cons ev_int (eva_cons ev_int eva_nil))))) (by show (!decide (((1 : Nat) : Int) ∈ ([1, 2] : List Int))) = false; decide)) (evt_nF (evt_test (ev_isi (ev_ix (ds := [.str "say"]) (ev_var rfl) ev_int rfl) kb_str_str))))) ?_
    exact q_when (b := true) (evt_to (evt_test (ev_eqi (ev_len (ds := [.str "say"]) rfl (ev_var rfl)) ev_int)) (by decide)) (fun _ => st_ret (ev_to (ev_eqs (ev_ix (ds := [.str "say"]) (ev_var rfl) ev_int rfl) ev_str) (by decide +kernel)) (rt_of q rfl)) (fun h => by cases h)
end
end KX
set_option maxHeartbeats 4000000
namespace KX
open PySem PySem.Spec PyProof.Rows L2
/-- a notice about the cell a -/
def NotAt (H : Hp) (x : Addr) (c z : Str) : Prop := ∃ dx, H x = some (.ins a_Notice dx [("channel", .str c), ("word", .str z)])
theorem NotAt.mono {H H' : Hp} {x : Addr} {c z : Str} (h : NotAt H x c z) (e : Same H H') : NotAt H' x c z := by
  obtain ⟨dx, h⟩ := h
  exact ⟨dx, e _ _ h⟩
section
variable {P : Program} {w : World} {K : PySem.W.Frag} {mg : Str → Option Value} {base : Heap} {p : Addr}
theorem sc_Notice_D_init_D : FnScope ["self", "channel", "word"] ["self", "channel", "word"] (defScope s_Notice_D_init_D) := ⟨rfl, rfl, rfl, by decide +kernel, rfl, by decide +kernel, by decide +kernel⟩
theorem ok_Notice_D_init_D (T : Tx w K mg) : FnN P w K mg base 4 m_Notice___init__ (fun vs H Q => ∃ x dx c z, vs = [.ref x, .str c, .str z] ∧ H x = some (.ins a_Notice dx []) ∧ nameB c ∧ wordB z ∧ ∀ H', Fr (· = x) H H' → NotAt H' x c z → Q .non H') := by
  obtain ⟨fd, F⟩ := T.F_Notice_D_init_D
  refine F.okN rfl sc_Notice_D_init_D (fun _ _ _ _ _ _ us hl => match us, hl with | [_, _, _], _ => rfl) (fun vs H Q h => ?_) (fun A outer s H vs Q hr h => ⟨_, (pss_cons (ps_expr (pe_cl (ok_need_name T) (hr.mono (by decide)) T.kp_need_name T.g_need_name (pa_cons (pv 1) pa_nil))) (pss_cons (ps_expr (pe_cl (ok_need_word T) (hr.mono (by decide)) T.kp_need_word T.g_need_word (pa_cons (pv 2) pa_nil))) (pss_cons (ps_fld (pv 0) (pv 1) rfl) (pss_one (ps_fld (pv 0) (pv 2) rfl))))), ?_⟩)
  · obtain ⟨x, dx, c, z, rfl, _⟩ := h
    rfl
  obtain ⟨x, dx, c, z, rfl, hx, hc, hz, q⟩ := h
  have s0 : DS K H (start ["self", "channel", "word"] [.ref x, .str c, .str z]) [.v (.ref x), .d (.str c), .d (.str z)] := .cons (s := .v _) rfl (.cons (s := .d _) ⟨_, rfl, .str c⟩ (.cons (s := .d _) ⟨_, rfl, .str z⟩ .nil))
  refine StD.go (G := gS H) ?_ (Same.refl H) s0
  refine q_chk (eva_cons (ev_var rfl) eva_nil) ⟨c, rfl, hc⟩ (q_chk (eva_cons (ev_var rfl) eva_nil) ⟨z, rfl, hz⟩ fun σ H1 e1 s1 => ?_)
  have e1 : Same H H1 := e1
  refine ⟨.str c, s1.d1 (i := 1) rfl, .ref x, s1.v (i := 0) rfl, x, _, dx, [], rfl, e1 _ _ hx, T.c_Notice, T.n_Notice_channel, by decide, .str z, s1.d1 (i := 2) rfl, .ref x, s1.v (i := 0) rfl, x, _, dx, _, rfl, upd_same, T.c_Notice, T.n_Notice_word, Nat.le_of_ble_eq_true rfl, ?_⟩
  show Q .non _
  rw [upd_upd]
  exact q _ (fun b o hb hn => (upd_ne hn).trans (e1 _ _ hb)) ⟨dx, upd_same⟩
end
end KX
set_option maxHeartbeats 4000000
namespace KX
open PySem PySem.Spec PyProof.Rows L2 RZ HT
/-! ### t[::-1], t a tuple -/
theorem rev_places (n : Nat) : Builtin.Slice.slicePlaces ((n : Int) - 1) (-1) (-1) = n := by
  unfold Builtin.Slice.slicePlaces
  have h1 : ¬ ((-1 : Int) > 0) := by decide
  simp only [h1, if_false]
  have e : ((n : Int) - 1 - -1 - 1) / (- -1) = (n : Int) - 1 := by
    rw [show (- -1 : Int) = 1 by decide, Int.ediv_one]
    omega
  rw [e]
  split <;> omega
theorem fm_congr {α β : Type} {f g : α → Option β} : ∀ {l : List α}, (∀ x ∈ l, f x = g x) → l.filterMap f = l.filterMap g
  | [], _ => rfl
  | a :: l, h => by
    rw [List.filterMap_cons, List.filterMap_cons, h a List.mem_cons_self, fm_congr fun x hx => h x (List.mem_cons_of_mem _ hx)]
theorem rev_pick (xs : Array Value) : ((List.range xs.size).filterMap fun (k : Nat) => xs[(((xs.size : Int) - 1) + (k : Int) * (-1)).toNat]?).toArray = xs.toList.reverse.toArray := by
  have e : (List.range xs.size).filterMap (fun (k : Nat) => xs[(((xs.size : Int) - 1) + (k : Int) * (-1)).toNat]?) = ((List.range xs.size).map fun k => xs.size - 1 - k).filterMap (xs[·]?) := by
    rw [List.filterMap_map]
    refine fm_congr fun k hk => ?_
    have := List.mem_range.mp hk
    have e2 : (((xs.size : Int) - 1) + (k : Int) * (-1)).toNat = xs.size - 1 - k := by omega
    show _ = xs[xs.size - 1 - k]?
    rw [e2]
  rw [e, PySem.W.krv_range, List.filterMap_reverse, PySem.W.krv_all]
section
variable {prog : Program} {w : World} {A : Around} {E : Value → Shared → Prop} {s : Shared}
theorem getItem_tuple_rev {t sl : Addr} {items : Array Value} {vl vu vs : Value} {Q : Value → Shared → Prop} (ht : IsTup s.heap t items) (hs : s.heap.IsSliceOf sl vl vu vs) (pl : IsPart vl none) (pu : IsPart vu none) (ps : IsPart vs (some (-1)))
    (h : Q (.ref s.heap.objs.size) { s with heap := s.heap.push { cls := .type "tuple", data := .seq items.toList.reverse.toArray } })
    (hsz : items.size ≤ sizeLine) : wpAny (model prog w) A (getItem (.ref t) (.ref sl)) Q E s := by
  have htake : sizeOk (.seq items.toList.reverse.toArray) := by
    show items.toList.reverse.toArray.size ≤ sizeLine
    rw [List.size_toArray, List.length_reverse, Array.length_toList]
    exact hsz
  obtain ⟨os, hos, hcs, hds⟩ := id hs
  have hTs : s.TypeIs (.ref sl) "slice" := ⟨os, hos, hcs⟩
  unfold getItem
  try with_reducible refine wpAny_holding ?_
  first | refine wpAny_bind (wpAny_pure ?_) | skip
  refine wpAny_bind (wpAny_sequenceKey ht.typeIs (by decide) ?_)
  refine wpAny_bind (wpAny_callSpecial?_slot (name := Str.ofString "__getitem__") ht.typeIs PyProof.Rows.slot_tuple_getitem
    (wpAny_call_entry PyProof.Rows.slot_tuple_getitem ht.typeIs entry_tuple_getitem ?_ (args_tuple_getitem _ _)))
  show wpAny _ _ (Builtin.Tuple.tupleItemsOf (.ref t) >>= _) _ _ s
  refine wpAny_bind (tupleItemsOf_ ht ?_)
  refine wpAny_bind (wpAny_typeOf hTs ?_)
  rw [if_pos (by decide)]
  refine wpAny_bind (m := Builtin.Slice.sliceApplied (.ref sl) (pure (items.size : Int))) ?_
  unfold Builtin.Slice.sliceApplied Builtin.Slice.sliceFields
  refine wpAny_bind (wpAny_bind (wpAny_field hos hds (x := vl) rfl (wpAny_bind (wpAny_field hos hds (x := vu) rfl (wpAny_bind (wpAny_field hos hds (x := vs) rfl (wpAny_pure ?_)))))))
  refine wpAny_bind (slicePart_ ps ?_)
  show wpAny _ _ (if ((-1 : Int) == 0) = true then _ else _) _ _ s
  rw [if_neg (by decide)]
  refine wpAny_bind (slicePart_ pl (wpAny_bind (slicePart_ pu (wpAny_bind (wpAny_pure ?_)))))
  show wpAny _ _ (pure ((items.size : Int) - 1, (-1 : Int), Builtin.Slice.slicePlaces ((items.size : Int) - 1) (-1) (-1))) _ _ s
  rw [rev_places]
  refine wpAny_pure ?_
  have hno : ¬ ((((items.size : Int) - 1) == 0 && (-1 : Int) == 1 && items.size == items.size) = true) := by
    rw [show ((-1 : Int) == 1) = false by decide, Bool.and_false]
    exact Bool.false_ne_true
  show wpAny _ _ (if (((items.size : Int) - 1) == 0 && (-1 : Int) == 1 && items.size == items.size) = true then _ else _) _ _ s
  rw [if_neg hno, rev_pick]
  first
    | exact wpAny_bind (m := Builtin.Tuple.tupleExact _) (wpAny_newObj_type (wpAny_pure ⟨_, rfl, wpAny_pure h⟩) htake)
    | exact wpAny_bind (m := Builtin.Tuple.tupleExact _) (wpAny_newObj_type (wpAny_bind (wpAny_pure (wpAny_pure ⟨_, rfl, wpAny_pure h⟩))) htake)
    | exact wpAny_bind (wpAny_bind (m := Builtin.Tuple.tupleExact _) (wpAny_newObj_type (wpAny_pure (wpAny_pure ⟨_, rfl, wpAny_pure h⟩)) htake))
    | exact wpAny_bind (wpAny_bind (m := Builtin.Tuple.tupleExact _) (wpAny_newObj_type (wpAny_pure ⟨_, rfl, wpAny_pure h⟩) htake))
end
section
variable {X : Cx}
def tRevT (K : PySem.W.Frag) (te : TE) : TE := fun σ H Q => te σ H fun x H1 => ∃ a xs, x = .ref a ∧ SqT K H1 a xs ∧ ∀ p, H1 p = none → Q (.ref p) (upd H1 p (.tup xs.reverse))
theorem pe_revT {e : Expr} {te : TE} {k : Nat} {p1 p2 p3 pos : Pos} (he : PE X e te) : PE X (.Subscript e (.Slice none none (some (.UnaryOp .USub (.Constant (.int 1) k p1) p2)) p3) pos) (tRevT X.K te) := by
  refine ⟨fun pins s σ H Q I h => ?_⟩
  refine Subscript_ (thn (he.run pins s σ H _ I h) fun v s1 ⟨x, H1, I1, r1, q1⟩ => ?_)
  obtain ⟨a, xs, ex, hx, q⟩ := q1
  subst ex
  cases r1
  have hst : PO X (some (.UnaryOp .USub (.Constant (.int 1) k p1) p2)) (tPart (tUn (rU fun i => .int (-i)) (tC (.int 1)))) := po_some (pe_un un_neg pe_int)
  refine wpAny_Slice (thn (po_none.run pins s1 σ H1 (fun o H2 => o = none ∧ H2 = H1) I1 ⟨rfl, rfl⟩) fun vl s2 ⟨l, H2, I2, pl, el, e2⟩ => ?_)
  subst el e2
  refine thn (po_none.run pins s2 σ H2 (fun o H3 => o = none ∧ H3 = H2) I2 ⟨rfl, rfl⟩) fun vu s3 ⟨u, H3, I3, pu, eu, e3⟩ => ?_
  subst eu e3
  refine thn (hst.run pins s3 σ H3 (fun o H4 => o = some (-1) ∧ H4 = H3) I3 ⟨1, rfl, -1, rfl, rfl, rfl⟩) fun vs s4 ⟨o, H4, I4, ps, eo, e4⟩ => ?_
  subst eo e4
  have I5 : Inv X pins σ H4 { s4 with heap := s4.heap.push { cls := .type "slice", data := .fields #[vl, vu, vs] } } := I4.kept (t' := s4.toks) fun b ob q => Heap.get?_push_of_some _ q
  obtain ⟨its, r, ht, hz⟩ := I5.tuple hx
  have hlen := r.length
  show wpAny (model X.prog X.w) X.A (subscriptTail e (.Slice none none (some (.UnaryOp .USub (.Constant (.int 1) k p1) p2)) p3) (.ref a) (.ref s4.heap.objs.size)) (EP X pins σ Q) X.xe { s4 with heap := s4.heap.push { cls := .type "slice", data := .fields #[vl, vu, vs] } }
  refine tail_any (ops := [.ref a, .ref s4.heap.objs.size]) ht.typeIs (PyProof.Rows.slot_tuple_getitem.lookup) ?_ (by with_unfolding_all rfl)
  refine getItem_tuple_rev ht (Heap.IsSliceOf.new _ vl vu vs) pl pu ps ?_ (by rw [List.size_toArray]; omega)
  refine ⟨.ref _, _, I5.laid (t' := s4.toks) (o := .tup xs.reverse) (fun b ob q => Heap.get?_push_of_some _ q) (Nat.le_refl _) ?_, rfl, q _ (I5.hok.fresh (Nat.le_refl _))⟩
  exact ⟨by rw [List.length_reverse]; exact hz, _, r.reverse, IsTup.new _ _⟩
end
end KX
set_option maxHeartbeats 4000000
namespace KX
open PySem PySem.Spec PyProof.Rows L2
abbrev NoL (H : Hp) (vs : List V) (ws : List Str) : Prop := Paired (fun v z => ∃ x, v = .ref x ∧ NotAt H x "a" z) vs ws
theorem NoL.mono {H H' : Hp} {vs : List V} {ws : List Str} (h : NoL H vs ws) (e : Same H H') : NoL H' vs ws := Paired.mapP h fun _ _ ⟨x, e1, n⟩ => ⟨x, e1, n.mono e⟩
theorem pairedR {α β : Type} {G : α → β → Prop} {l : List α} {m : List β} (h : Paired G l m) {i : Nat} {a : α} (e : l[i]? = some a) : ∃ b, m[i]? = some b ∧ G a b := paired_get h e
theorem hu65 {k : Nat} {A : Around} (hr : Room k A) : A.units + 65 < cLine := by
  have := hr.un
  omega
def chD (z : Str) : PyData := .tuple [.str "a", .str z]
def onceW (ws : List Str) : List Str := ws.foldl (fun acc z => if z ∈ acc then acc else acc ++ [z]) []
theorem onceW_snoc {ws : List Str} {z : Str} : onceW (ws ++ [z]) = if z ∈ onceW ws then onceW ws else onceW ws ++ [z] := by
  unfold onceW
  rw [List.foldl_append] <;> rfl
theorem onceW_sub : ∀ {ws : List Str} {y : Str}, y ∈ onceW ws → y ∈ ws := by
  intro ws y
  have key : ∀ (l acc : List Str), y ∈ l.foldl (fun acc z => if z ∈ acc then acc else acc ++ [z]) acc → y ∈ acc ∨ y ∈ l := fun l => by
    induction l with
    | nil => intro acc h; exact .inl h
    | cons z l ih =>
      intro acc h
      rw [List.foldl_cons] at h
      rcases ih _ h with h | h
      · split at h
        · exact .inl h
        · rcases List.mem_append.mp h with h | h
          · exact .inl h
          · exact .inr (by rw [(by simpa using h : y = z)]; exact List.mem_cons_self)
      · exact .inr (List.mem_cons_of_mem _ h)
  intro h
  rcases key ws [] h with h | h
  · cases h
  · exact h
theorem onceW_len (ws : List Str) : (onceW ws).length ≤ ws.length := by
  have key : ∀ (l acc : List Str), (l.foldl (fun acc z => if z ∈ acc then acc else acc ++ [z]) acc).length ≤ acc.length + l.length := fun l => by
    induction l with
    | nil => intro acc; exact Nat.le_refl _
    | cons z l ih =>
      intro acc
      rw [List.foldl_cons, List.length_cons]
      refine Nat.le_trans (ih _) ?_
      split
      · omega
      · rw [List.length_append, List.length_singleton]
        omega
  have q := key ws []
  unfold onceW
  simpa using q
theorem a_ok : PyData.strOk ("a" : Str) = true := by decide +kernel
theorem ch_lay : ∀ l : List Str, (∀ z ∈ l, z ∈ wwords) → PyData.canLayAll0 (l.map chD) = true
  | [], _ => by simp [PyData.canLayAll0]
  | z :: l, h => by simp [chD, PyData.canLayAll0, PyData.canLay0, a_ok, words_ok z (h z List.mem_cons_self)]; exact ch_lay l fun y hy => h y (List.mem_cons_of_mem _ hy)
theorem ch_depth : ∀ l : List Str, PyData.depthAll (l.map chD) ≤ 5
  | [] => by simp [PyData.depthAll]
  | z :: l => by
    have h := ch_depth l
    simp only [List.map_cons, chD, PyData.depthAll, PyData.depth] at h ⊢
    omega
theorem shaped_chs (l : List Str) (h : ∀ z ∈ l, z ∈ wwords) : SeqAt.shaped (.list (l.map chD)) = true := by
  show (PyData.canLay0 (.list (l.map chD)) && decide (PyData.depth (.list (l.map chD)) ≤ 64)) = true
  rw [Bool.and_eq_true]
  have h2 := ch_depth l
  exact ⟨by simp only [PyData.canLay0]; exact ch_lay l h, decide_eq_true (by simp only [PyData.depth]; omega)⟩
theorem shaped_ch (z : Str) (h : z ∈ wwords) : SeqAt.shaped (chD z) = true := by
  show (PyData.canLay0 (chD z) && decide (PyData.depth (chD z) ≤ 64)) = true
  rw [Bool.and_eq_true]
  exact ⟨by simp [chD, PyData.canLay0, PyData.canLayAll0, a_ok, words_ok z h], decide_eq_true (by simp [chD, PyData.depth, PyData.depthAll])⟩
theorem any_ch (l : List Str) (z : Str) : ((l.map chD).any fun d => PyData.eqv d (chD z)) = decide (z ∈ l) := by
  induction l with
  | nil => rfl
  | cons y l ih =>
    rw [List.map_cons, List.any_cons, ih]
    by_cases e : y = z
    · subst e
      simp [chD, PyData.eqv, PyData.eqvAll]
    · have e2 : ¬ z = y := fun q => e q.symm
      simp [chD, PyData.eqv, PyData.eqvAll, e, e2]
section
variable {P : Program} {w : World} {K : PySem.W.Frag} {mg : Str → Option Value} {base : Heap} {p : Addr}
theorem sc_need_notice : FnScope ["thing"] ["thing"] (defScope s_need_notice) := ⟨rfl, rfl, rfl, by decide +kernel, rfl, by decide +kernel, by decide +kernel⟩
theorem ok_need_notice (T : Tx w K mg) : FnN P w K mg base 1 a_need_notice (fun vs H Q => ∃ x c z, vs = [.ref x] ∧ NotAt H x c z ∧ Q .non H) := by
  obtain ⟨fd, F⟩ := T.F_need_notice
  refine F.okN rfl sc_need_notice (fun _ _ _ _ _ _ us hl => match us, hl with | [_], _ => rfl) (fun vs H Q h => ?_) (fun A outer s H vs Q hr h => ⟨_, (pss_one (ps_if (pt_not (pt_val (pe_callB call_isi (by rfl) T.z_isinstance (by decide +kernel) (pa_cons (pv 0) (pa_cons (pe_gr T.g_Notice) pa_nil))))) (pss_one ps_never) pss_nil)), ?_⟩)
  · obtain ⟨x, c, z, rfl, _⟩ := h
    rfl
  obtain ⟨x, c, z, rfl, ⟨dx, hx⟩, q⟩ := h
  obtain ⟨c1, c2, c3, c4, c5⟩ := T.cc_Notice
  exact ⟨.ref x, rfl, .ref x, .ref a_Notice, .ref a_Notice, .ref a_Notice, true, rfl, .own _, .base (.ins hx T.c_Notice c1 c2 c3 c4), c5, true, rfl, iteF q⟩
theorem sc_once : FnScope ["notices", "known", "kept", "notice"] ["notices"] (defScope s_once) := ⟨rfl, rfl, rfl, by decide +kernel, rfl, by decide +kernel, by decide +kernel⟩
theorem ok_once (T : Tx w K mg) : FnN P w K mg base 1 a_once (fun vs H Q => ∃ t xs ws, vs = [.ref t] ∧ SqT K H t xs ∧ NoL H xs ws ∧ (∀ z ∈ ws, z ∈ wwords) ∧ ws.length ≤ 900 ∧ ∀ L ys H', Same H H' → H L = none → H' L = some (.lst ys) → NoL H' ys (onceW ws) → Q (.ref L) H') := by
  obtain ⟨fd, F⟩ := T.F_once
  refine F.okN rfl sc_once (fun _ _ _ _ _ _ us hl => match us, hl with | [_], _ => rfl) (fun vs H Q h => ?_) (fun A outer s H vs Q hr h => ⟨_, (pss_cons (ps_set (i := 1) sc_once.nd rfl (Or.inl rfl) (pe_lst pa_nil)) (pss_cons (ps_set (i := 2) sc_once.nd rfl (Or.inl rfl) (pe_lst pa_nil)) (pss_cons (ps_for PassesOwn.never rfl (pi_tup (pv 0)) (pg_name (i := 3) sc_once.nd rfl (Or.inl rfl)) (pss_one (ps_if (pt_cmpR (op_notInD (hu65 hr)) (pe_tup (pa_cons (pe_fld (pv 3) rfl) (pa_cons (pe_fld (pv 3) rfl) pa_nil))) (pv 1) rfl) (pss_cons (ps_expr (pe_bm PySem.F.plainAttrs_list PySem.F.slot_list_append PySem.F.type_list_append mt_append (pv 1) (pa_cons (pe_tup (pa_cons (pe_fld (pv 3) rfl) (pa_cons (pe_fld (pv 3) rfl) pa_nil))) pa_nil))) (pss_one (ps_expr (pe_bm PySem.F.plainAttrs_list PySem.F.slot_list_append PySem.F.type_list_append mt_append (pv 2) (pa_cons (pv 3) pa_nil))))) pss_nil))) (pss_one (ps_ret (pv 2)))))), ?_⟩)
  · obtain ⟨t, xs, ws, rfl, _⟩ := h
    rfl
  obtain ⟨t, xs, ws, rfl, sq, no, hw, hl, q⟩ := h
  refine ⟨Nat.zero_le _, fun M hM => ⟨Nat.zero_le _, fun L hL => ?_⟩⟩
  have e0 := (Same.new (o := HO.lst []) hM).trans (Same.new (o := HO.lst []) hL)
  have L0 : H L = none := (Same.new (o := HO.lst []) hM).free hL
  have hML : M ≠ L := fun z => by
    rw [← z, upd_same] at hL
    cases hL
  have s0 : DS K H (start ["notices", "known", "kept", "notice"] [.ref t]) [.v (.ref t), .no, .no, .no] := .cons (s := .v _) rfl (DS.nos 3)
  have hlen := Paired.length no
  refine ⟨.ref t, rfl, t, rfl, ⟨xs, Same.tup e0 sq⟩, for_it (walk_tup (K := K) (a := t) (xs := xs)) (fun j σ' H' => Same H H' ∧ DS K H' σ' [.v (.ref t), .v (.ref M), .v (.ref L), .no] ∧ LsAt K M ((onceW (ws.take j)).map chD) H' ∧ ∃ ys, H' L = some (.lst ys) ∧ NoL H' ys (onceW (ws.take j)))
    ⟨e0, ((s0.mono e0.tp).set (i := 1) (s := .v (.ref M)) rfl).set (i := 2) (s := .v (.ref L)) rfl, ⟨[], (upd_ne hML).trans upd_same, .nil⟩, [], upd_same, .nil⟩ (fun j σ' H' _ p => Same.tup p.1 sq) (fun j xv σ' H' H'' hj ⟨e, s', lm, ys, hy, ny⟩ y => ?_) fun σ' H' ⟨e, s', lm, ys, hy, ny⟩ => ?_⟩
  · obtain ⟨rfl, hxv⟩ := y
    obtain ⟨z, hz, x, rfl, hx⟩ := pairedR no hxv
    obtain ⟨dx, hx⟩ := hx.mono e
    have hzw : z ∈ wwords := hw z (List.mem_of_getElem? hz)
    have htk : ws.take (j + 1) = ws.take j ++ [z] := by rw [List.take_succ, hz] <;> rfl
    have s2 := s'.set (i := 3) (s := .v (.ref x)) (v := .ref x) rfl
    have sub : ∀ y ∈ onceW (ws.take j), y ∈ wwords := fun y hy => hw y (List.mem_of_mem_take (onceW_sub hy))
    have ol := onceW_len (ws.take j)
    rw [List.length_take] at ol
    obtain ⟨vm, hvm, tm⟩ := lm
    refine ⟨.ref x, s2.v (i := 3) rfl, x, _, dx, _, .str "a", rfl, hx, T.c_Notice, T.n_Notice_channel, rfl, .ref x, s2.v (i := 3) rfl, x, _, dx, _, .str z, rfl, hx, T.c_Notice, T.n_Notice_word, rfl, by show 2 ≤ sizeLine; decide, fun a1 ha1 => ?_⟩
    have sn := Same.new (o := HO.tup [.str "a", .str z]) ha1
    have hvm1 := sn _ _ hvm
    refine ⟨.ref M, s2.v (i := 1) rfl, chD z, _, .tup (SqT.of upd_same) (.cons (.str _) (.cons (.str _) .nil)), .lst (SqL.of hvm1) (DTs.dp _ _ (tm.mono sn.tp)), shaped_ch z hzw, shaped_chs _ sub, _, rfl, ?_⟩
    rw [any_ch]
    have ety := ny.length
    by_cases hin : z ∈ onceW (ws.take j)
    · rw [decide_eq_true hin]
      have eo : onceW (ws.take (j + 1)) = onceW (ws.take j) := by rw [htk, onceW_snoc, if_pos hin]
      refine iteF ⟨e.trans sn, (s2.mono sn.tp).wk ⟨.inr rfl, .inr rfl, .inr rfl, .inl rfl, trivial⟩, ?_, ys, sn _ _ hy, ?_⟩
      · rw [eo]
        exact ⟨vm, hvm1, tm.mono sn.tp⟩
      · rw [eo]
        exact ny.mono sn
    · rw [decide_eq_false hin]
      have eo : onceW (ws.take (j + 1)) = onceW (ws.take j) ++ [z] := by rw [htk, onceW_snoc, if_neg hin]
      have hx1 := sn _ _ hx
      refine iteT ⟨.ref M, s2.v (i := 1) rfl, .inl ⟨rfl, _, SqL.of hvm1⟩, .ref x, s2.v (i := 3) rfl, x, _, dx, _, .str "a", rfl, hx1, T.c_Notice, T.n_Notice_channel, rfl, .ref x, s2.v (i := 3) rfl, x, _, dx, _, .str z, rfl, hx1, T.c_Notice, T.n_Notice_word, rfl, by show 2 ≤ sizeLine; decide, fun a2 ha2 => ?_⟩
      have sn2 := sn.trans (Same.new (o := HO.tup [.str "a", .str z]) ha2)
      have hvm2 := sn2 _ _ hvm
      have hy2 := sn2 _ _ hy
      have t1 : Tp K (upd (upd H'' a1 (.tup [.str "a", .str z])) a2 (.tup [.str "a", .str z])) _ := Tp.upd (o' := .lst (vm ++ [.ref a2])) hvm2 rfl
      have hy3 : upd (upd (upd H'' a1 (.tup [.str "a", .str z])) a2 (.tup [.str "a", .str z])) M (.lst (vm ++ [.ref a2])) L = some (.lst ys) := (upd_ne hML.symm).trans hy2
      refine ⟨M, vm, .ref a2, rfl, rfl, hvm2, small1000 (by rw [tm.len, List.length_map]; omega), .ref L, s2.v (i := 2) rfl, .inl ⟨rfl, _, SqL.of hy3⟩, .ref x, s2.v (i := 3) rfl, L, ys, .ref x, rfl, rfl, hy3, small1000 (by omega), ?_⟩
      have t2 : Tp K _ (upd (upd (upd (upd H'' a1 (.tup [.str "a", .str z])) a2 (.tup [.str "a", .str z])) M (.lst (vm ++ [.ref a2]))) L (.lst (ys ++ [.ref x]))) := Tp.upd hy3 rfl
      have nk : ∀ {y : Addr} {c w : Str}, NotAt H'' y c w → NotAt (upd (upd (upd (upd H'' a1 (.tup [.str "a", .str z])) a2 (.tup [.str "a", .str z])) M (.lst (vm ++ [.ref a2]))) L (.lst (ys ++ [.ref x]))) y c w := fun ⟨d, h⟩ => by
        have h2 := sn2 _ _ h
        exact ⟨d, (upd_ne (ne_of h2 hy2 (fun z => nomatch z))).trans ((upd_ne (ne_of h2 hvm2 (fun z => nomatch z))).trans h2)⟩
      refine ⟨Same.upd (Same.upd (e.trans sn2) hM) L0, (s2.mono (sn2.tp.trans (t1.trans t2))).wk ⟨.inr rfl, .inr rfl, .inr rfl, .inl rfl, trivial⟩, ?_, ys ++ [.ref x], upd_same, ?_⟩
      · refine ⟨vm ++ [.ref a2], (upd_ne hML).trans upd_same, ?_⟩
        rw [eo, List.map_append]
        have ta : DT K (upd (upd H'' a1 (.tup [.str "a", .str z])) a2 (.tup [.str "a", .str z])) (.ref a2) (chD z) := .tup upd_same (.cons (.str _) (.cons (.str _) .nil))
        exact (((tm.mono sn2.tp).append (DTs.one ta)).mono (t1.trans t2))
      · rw [eo]
        exact Paired.snoc (Paired.mapP ny fun _ _ ⟨y, e1, n⟩ => ⟨y, e1, nk n⟩) ⟨x, rfl, nk ⟨dx, hx⟩⟩
  · exact ⟨.ref L, s'.v (i := 2) rfl, q L ys H' e L0 hy (by
      rw [List.take_of_length_le (by omega)] at ny
      exact ny)⟩
end
end KX
set_option maxHeartbeats 4000000
namespace KX
open PySem PySem.Spec PyProof.Rows L2 RZ
/-- THE RULE: a def with *rest -/
theorem FunC.okStar {P : Program} {w : World} {K : PySem.W.Frag} {mg : Str → Option Value} {base : Heap} {k : Nat} {sp : SpN} {d : FD} {fd : FuncData} {N ps : List Str} {pv : Str} (F : FunC K d fd) (hc : d.clo = []) (S : FnScope N (ps ++ [pv]) (defScope d.st))
    (hb : ∀ (kV doc pm : Value) (an : Option Addr) (cdv ct : Value) (us rest : List Value), us.length = ps.length → bindArgs (PySem.W.fnOf d.name d.qual (defArgs d.st) (defBody d.st) (defScope d.st) .none kV doc pm an cdv ct) ⟨us ++ rest, []⟩ = (newTuple rest >>= fun t => pure (ps.zip us ++ [(pv, t)])))
    (hbody : ∀ (A : Around) (outer : List Env) (s : Shared) (H : Hp) (vs : List V) (Q : VK), Room k (A.deeper (envOfC d.qual (defScope d.st) s.heap.objs.size d.at_ (.ref d.code))) → sp vs H Q →
      ∃ t, PSs (bcx P w K mg base N d A outer s H) (defBody d.st) t ∧ t { nx := fun _ H' => Q .non H', rt := Q } (start N vs) H) :
    FnN P w K mg base (k + 1) d.at_ (fun vs H Q => ∃ ws rest, vs = ws ++ rest ∧ ws.length = ps.length ∧ rest.length ≤ sizeLine ∧ ∀ p, H p = none → sp (ws ++ [V.ref p]) (upd H p (.tup rest)) Q) := by
  obtain ⟨od, kV, doc, pm, an, ct, osl, rfl, lk, hcd⟩ := F.ex
  rw [hc] at lk
  exact StX.fn_star (sp := fun vs H Q _ => sp vs H Q) (ps := ps) (pv := pv) (N := N) lk hcd S (fun _ _ _ _ _ _ _ _ _ _ _ z => z) (fun us rest h => hb kV doc pm an _ ct us rest h) fun A outer s H vs Q E hr hsp => by
    obtain ⟨t, h, q⟩ := hbody A outer s H vs Q hr hsp
    exact ⟨t, PSs.nox ⟨h.run⟩, q⟩
end KX
set_option maxHeartbeats 4000000
namespace KX
open PySem PySem.Spec PyProof.Rows L2
def foldW (rule : Str) (ws : List Str) : List Str := if rule = "first" then onceW ws else if rule = "last" then (onceW ws.reverse).reverse else ws
theorem Paired.rev {α β : Type} {G : α → β → Prop} {l : List α} {m : List β} (h : Paired G l m) : Paired G l.reverse m.reverse := by
  induction h with
  | nil => exact .nil
  | cons h t ih =>
    rw [List.reverse_cons, List.reverse_cons]
    exact Paired.snoc ih h
section
variable {P : Program} {w : World} {K : PySem.W.Frag} {mg : Str → Option Value} {base : Heap} {p : Addr}
theorem sc_folded : FnScope ["rule", "notices"] ["rule", "notices"] (defScope s_folded) := ⟨rfl, rfl, rfl, by decide +kernel, rfl, by decide +kernel, by decide +kernel⟩
theorem ok_folded (T : Tx w K mg) : FnN P w K mg base 2 a_folded (fun vs H Q => ∃ rule t xs ws, vs = [.str rule, .ref t] ∧ SqT K H t xs ∧ NoL H xs ws ∧ (∀ z ∈ ws, z ∈ wwords) ∧ ws.length ≤ 900 ∧ ∀ t' ys H', Same H H' → SqT K H' t' ys → NoL H' ys (foldW rule ws) → Q (.ref t') H') := by
  obtain ⟨fd, F⟩ := T.F_folded
  refine F.okN rfl sc_folded (fun _ _ _ _ _ _ us hl => match us, hl with | [_, _], _ => rfl) (fun vs H Q h => ?_) (fun A outer s H vs Q hr h => ⟨_, (pss_cons (ps_if (pt_cmpR op_eq (pv 0) pe_str (nomark _)) (pss_one (ps_ret (pe_callTy call_tuple_of (by rfl) T.z_tuple (by decide +kernel) (pa_cons (pe_cl (ok_once T) (hr.mono (by decide)) T.kp_once T.g_once (pa_cons (pv 1) pa_nil)) pa_nil)))) pss_nil) (pss_cons (ps_if (pt_cmpR op_eq (pv 0) pe_str (nomark _)) (pss_one (ps_ret (pe_callTy call_tuple_of (by rfl) T.z_tuple (by decide +kernel) (pa_cons (pe_revL (pe_cl (ok_once T) (hr.mono (by decide)) T.kp_once T.g_once (pa_cons (pe_revT (pv 1)) pa_nil))) pa_nil)))) pss_nil) (pss_one (ps_ret (pe_callTy call_tuple_of (by rfl) T.z_tuple (by decide +kernel) (pa_cons (pv 1) pa_nil)))))), ?_⟩)
  · obtain ⟨rule, t, xs, ws, rfl, _⟩ := h
    rfl
  obtain ⟨rule, t, xs, ws, rfl, sq, no, hw, hl, q⟩ := h
  have s0 : DS K H (start ["rule", "notices"] [.str rule, .ref t]) [.d (.str rule), .v (.ref t)] := .cons (s := .d _) ⟨_, rfl, .str _⟩ (.cons (s := .v _) rfl .nil)
  refine StD.go (G := gS H) ?_ (Same.refl H) s0
  refine q_when (evt_test (ev_eqs (ev_var rfl) ev_str)) (fun h σ H1 e1 s1 => ?_) (fun h => ?_)
  · have e1 : Same H H1 := e1
    refine ⟨.ref t, s1.v (i := 1) rfl, t, xs, ws, rfl, Same.tup e1 sq, no.mono e1, hw, hl, fun L ys H2 e2 _ hL ny => ⟨L, ys, rfl, .inl ⟨SqL.of hL, fun l hl => ?_⟩⟩⟩
    have e3 := Same.new (o := HO.tup ys) hl
    refine q l ys _ ((e1.trans e2).trans e3) (SqT.of upd_same) ?_
    rw [foldW, if_pos (of_decide_eq_true h)]
    exact ny.mono e3
  refine q_when (evt_test (ev_eqs (ev_var rfl) ev_str)) (fun h2 σ H1 e1 s1 => ?_) (fun h2 σ H1 e1 s1 => ?_)
  · have e1 : Same H H1 := e1
    refine ⟨.ref t, s1.v (i := 1) rfl, t, xs, rfl, Same.tup e1 sq, fun r hr1 => ?_⟩
    have er := Same.new (o := HO.tup xs.reverse) hr1
    refine ⟨r, xs.reverse, ws.reverse, rfl, SqT.of upd_same, Paired.rev (no.mono (e1.trans er)), fun z hz => hw z (List.mem_reverse.mp hz), by rw [List.length_reverse]; exact hl, fun L ys H2 e2 _ hL ny => ⟨L, ys, rfl, SqL.of hL, fun l2 hl2 => ⟨l2, ys.reverse, rfl, .inl ⟨SqL.of upd_same, fun l3 hl3 => ?_⟩⟩⟩⟩
    have e3 := (Same.new (o := HO.lst ys.reverse) hl2).trans (Same.new (o := HO.tup ys.reverse) hl3)
    refine q l3 ys.reverse _ (((e1.trans er).trans e2).trans e3) (SqT.of upd_same) ?_
    rw [foldW, if_neg (of_decide_eq_false h), if_pos (of_decide_eq_true h2)]
    exact Paired.rev (ny.mono e3)
  · have e1 : Same H H1 := e1
    refine ⟨.ref t, s1.v (i := 1) rfl, t, xs, rfl, .inr ⟨Same.tup e1 sq, q t xs H1 e1 (Same.tup e1 sq) ?_⟩⟩
    rw [foldW, if_neg (of_decide_eq_false h), if_neg (of_decide_eq_false h2)]
    exact no.mono e1
/-- a batch -/
def BatAt (K : PySem.W.Frag) (H : Hp) (b : Addr) (rule : Str) (zs : List Str) : Prop := ∃ dx t ys, H b = some (.ins a_Batch dx [("rule", .str rule), ("notices", .ref t)]) ∧ SqT K H t ys ∧ NoL H ys zs
theorem BatAt.mono {K : PySem.W.Frag} {H H' : Hp} {b : Addr} {rule : Str} {zs : List Str} (h : BatAt K H b rule zs) (e : Same H H') : BatAt K H' b rule zs := by
  obtain ⟨dx, t, ys, h1, h2, h3⟩ := h
  exact ⟨dx, t, ys, e _ _ h1, Same.tup e h2, h3.mono e⟩
theorem sc_Batch_D_init_D : FnScope ["self", "rule", "notices", "notice"] ["self", "rule", "notices"] (defScope s_Batch_D_init_D) := ⟨rfl, rfl, rfl, by decide +kernel, rfl, by decide +kernel, by decide +kernel⟩
theorem ok_Batch_D_init_D (T : Tx w K mg) : FnN P w K mg base 3 m_Batch___init__ (fun vs H Q => ∃ ws rest, vs = ws ++ rest ∧ ws.length = 2 ∧ rest.length ≤ sizeLine ∧ ∀ p, H p = none → (∃ x dx rule t xs zs, ws ++ [V.ref p] = [.ref x, .str rule, .ref t] ∧ upd H p (.tup rest) x = some (.ins a_Batch dx []) ∧ SqT K (upd H p (.tup rest)) t xs ∧ NoL (upd H p (.tup rest)) xs zs ∧ rule ∈ rules ∧ (∀ z ∈ zs, z ∈ wwords) ∧ zs.length ≤ 900 ∧ ∀ H', Fr (· = x) (upd H p (.tup rest)) H' → BatAt K H' x rule (foldW rule zs) → Q .non H')) := by
  obtain ⟨fd, F⟩ := T.F_Batch_D_init_D
  refine F.okStar (sp := fun vs H Q => ∃ x dx rule t xs zs, vs = [.ref x, .str rule, .ref t] ∧ H x = some (.ins a_Batch dx []) ∧ SqT K H t xs ∧ NoL H xs zs ∧ rule ∈ rules ∧ (∀ z ∈ zs, z ∈ wwords) ∧ zs.length ≤ 900 ∧ ∀ H', Fr (· = x) H H' → BatAt K H' x rule (foldW rule zs) → Q .non H') (ps := ["self", "rule"]) (pv := "notices") rfl sc_Batch_D_init_D (fun kV doc pm an cdv ct => StX.bind_star2 (B := fun l => bindArgs (PySem.W.fnOf d_Batch_D_init_D.name d_Batch_D_init_D.qual (defArgs d_Batch_D_init_D.st) (defBody d_Batch_D_init_D.st) (defScope d_Batch_D_init_D.st) .none kV doc pm an cdv ct) ⟨l, []⟩) (fun _ _ => rfl) (fun _ _ _ _ => rfl)) (fun A outer s H vs Q hr h => ⟨_, (pss_cons (ps_expr (pe_cl (ok_need_rule T) (hr.mono (by decide)) T.kp_need_rule T.g_need_rule (pa_cons (pv 1) pa_nil))) (pss_cons (ps_for PassesOwn.never rfl (pi_tup (pv 2)) (pg_name (i := 3) sc_Batch_D_init_D.nd rfl (Or.inl rfl)) (pss_one (ps_expr (pe_cl (ok_need_notice T) (hr.mono (by decide)) T.kp_need_notice T.g_need_notice (pa_cons (pv 3) pa_nil))))) (pss_cons (ps_fld (pv 0) (pv 1) rfl) (pss_one (ps_fld (pv 0) (pe_cl (ok_folded T) (hr.mono (by decide)) T.kp_folded T.g_folded (pa_cons (pv 1) (pa_cons (pv 2) pa_nil))) rfl))))), ?_⟩)
  obtain ⟨x, dx, rule, t, xs, zs, rfl, hx, sq, no, hru, hw, hl, q⟩ := h
  have s0 : DS K H (start ["self", "rule", "notices", "notice"] [.ref x, .str rule, .ref t]) [.v (.ref x), .d (.str rule), .v (.ref t), .no] := .cons (s := .v _) rfl (.cons (s := .d _) ⟨_, rfl, .str _⟩ (.cons (s := .v _) rfl (DS.nos 1)))
  refine StD.go (G := gS H) ?_ (Same.refl H) s0
  refine q_chk (eva_cons (ev_var rfl) eva_nil) ⟨rule, rfl, hru⟩ fun σ H1 e1 s1 => ?_
  have e1 : Same H H1 := e1
  refine ⟨.ref t, s1.v (i := 2) rfl, t, rfl, ⟨xs, Same.tup e1 sq⟩, for_it (walk_tup (K := K) (a := t) (xs := xs)) (fun j σ' H' => Same H H' ∧ DS K H' σ' [.v (.ref x), .d (.str rule), .v (.ref t), .no]) ⟨e1, s1⟩ (fun j σ' H' _ p => Same.tup p.1 sq) (fun j xv σ' H' H'' hj ⟨e, s'⟩ y => ?_) fun σ' H' ⟨e, s'⟩ => ?_⟩
  · obtain ⟨rfl, hxv⟩ := y
    obtain ⟨z, hz, n, rfl, hn⟩ := pairedR no hxv
    have s2 := s'.set (i := 3) (s := .v (.ref n)) (v := .ref n) rfl
    exact ⟨.ref n, s2.v (i := 3) rfl, n, "a", z, rfl, hn.mono e, e, s2.wk ⟨.inr rfl, .inr rfl, .inr rfl, .inl rfl, trivial⟩⟩
  · refine ⟨.str rule, s'.d1 (i := 1) rfl, .ref x, s'.v (i := 0) rfl, x, _, dx, [], rfl, e _ _ hx, T.c_Batch, T.n_Batch_rule, by decide, ?_⟩
    have hx1 := e _ _ hx
    have tpx : Tp K H' (upd H' x (.ins a_Batch dx [("rule", .str rule)])) := Tp.upd hx1 rfl
    have mvN : ∀ {H2 : Hp} {o : HO} {vs : List V} {ws : List Str}, (∀ c z, ¬ NotAt H2 x c z) → NoL H2 vs ws → NoL (upd H2 x o) vs ws := fun hnx h => Paired.mapP h fun _ _ ⟨y, e1, ⟨d, hd⟩⟩ => ⟨y, e1, d, (upd_ne (fun z => hnx _ _ ⟨d, by rw [← z]; exact hd⟩)).trans hd⟩
    have nb : ∀ {H2 : Hp} {fs : List (Str × V)}, H2 x = some (.ins a_Batch dx fs) → ∀ c z, ¬ NotAt H2 x c z := fun h c z ⟨d, hd⟩ => by
      rw [h] at hd
      cases hd
    have mvS : ∀ {H2 : Hp} {fs : List (Str × V)} {o : HO} {vs : List V}, H2 x = some (.ins a_Batch dx fs) → SqT K H2 t vs → SqT K (upd H2 x o) t vs := fun h s => by
      rcases s with (s | ⟨ob, s⟩) | s
      · exact .inl (.inl ((upd_ne (fun z => by rw [z, h] at s; cases s)).trans s))
      · exact .inl (.inr ⟨ob, (upd_ne (fun z => by rw [z, h] at s; cases s)).trans s⟩)
      · exact .inr s
    have sx := s'.mono tpx
    refine ⟨.str rule, sx.d1 (i := 1) rfl, .ref t, sx.v (i := 2) rfl, rule, t, xs, zs, rfl, mvS hx1 (Same.tup e sq), mvN (nb hx1) (no.mono e), hw, hl, fun t2 ys H2 e2 sq2 ny => ?_⟩
    have hx2 := e2 _ _ upd_same
    refine ⟨.ref x, (sx.mono e2.tp).v (i := 0) rfl, x, _, dx, _, rfl, hx2, T.c_Batch, T.n_Batch_notices, Nat.le_of_ble_eq_true rfl, ?_⟩
    refine q _ (fun b o hb hn => (upd_ne hn).trans (e2 _ _ ((upd_ne hn).trans (e _ _ hb)))) ⟨dx, t2, ys, upd_same, ?_, mvN (nb hx2) ny⟩
    rcases sq2 with (s | ⟨ob, s⟩) | s
    · exact .inl (.inl ((upd_ne (fun z => by rw [z, hx2] at s; cases s)).trans s))
    · exact .inl (.inr ⟨ob, (upd_ne (fun z => by rw [z, hx2] at s; cases s)).trans s⟩)
    · exact .inr s
end
end KX
set_option maxHeartbeats 4000000
namespace KX
open PySem PySem.Spec PyProof.Rows L2
/-- a client's fields -/
def cliF (S : Addr) (nm : Str) (work : V) (D : Addr) (pos : V) : List (Str × V) := [("store", .ref S), ("name", .str nm), ("work", work), ("starts", .ref D), ("position", pos)]
section
variable {P : Program} {w : World} {K : PySem.W.Frag} {mg : Str → Option Value} {base : Heap} {p : Addr}
theorem sc_Member_D_init_D : FnScope ["self", "store", "name"] ["self", "store", "name"] (defScope s_Member_D_init_D) := ⟨rfl, rfl, rfl, by decide +kernel, rfl, by decide +kernel, by decide +kernel⟩
theorem ok_Member_D_init_D (T : Tx w K mg) : FnN P w K mg base 1 m_Member___init__ (fun vs H Q => ∃ x dx S nm, vs = [.ref x, .ref S, .str nm] ∧ H x = some (.ins a_Client dx []) ∧ Q .non (upd H x (.ins a_Client dx [("store", .ref S), ("name", .str nm), ("work", .non)]))) := by
  obtain ⟨fd, F⟩ := T.F_Member_D_init_D
  refine F.okN rfl sc_Member_D_init_D (fun _ _ _ _ _ _ us hl => match us, hl with | [_, _, _], _ => rfl) (fun vs H Q h => ?_) (fun A outer s H vs Q hr h => ⟨_, (pss_cons (ps_fld (pv 0) (pv 1) rfl) (pss_cons (ps_fld (pv 0) (pv 2) rfl) (pss_one (ps_fld (pv 0) pe_non rfl)))), ?_⟩)
  · obtain ⟨x, dx, S, nm, rfl, _⟩ := h
    rfl
  obtain ⟨x, dx, S, nm, rfl, hx, q⟩ := h
  refine ⟨.ref S, rfl, .ref x, rfl, x, _, dx, [], rfl, hx, T.c_Client, T.n_Client_store, by decide, .str nm, rfl, .ref x, rfl, x, _, dx, _, rfl, upd_same, T.c_Client, T.n_Client_name, Nat.le_of_ble_eq_true rfl, .ref x, rfl, x, _, dx, _, rfl, upd_same, T.c_Client, T.n_Client_work, Nat.le_of_ble_eq_true rfl, ?_⟩
  show Q .non _
  rw [upd_upd, upd_upd]
  exact q
theorem sc_Listener_D_init_D : NdefX.NScope ["self", "store", "name", "__class__"] ["self", "store", "name"] ["__class__"] (defScope s_Listener_D_init_D) := NdefX.nscope_by (by decide +kernel)
theorem ok_Listener_D_init_D (T : Tx w K mg) (Pf : PF P) : FnN P w K mg base 2 m_Listener___init__ (fun vs H Q => ∃ x dx S nm, vs = [.ref x, .ref S, .str nm] ∧ H x = some (.ins a_Client dx []) ∧ ∀ D H', Fr (· = x) H H' → H' x = some (.ins a_Client dx (cliF S nm .non D .non)) → H' D = some (.dK []) → H D = none → Q .non H') := by
  obtain ⟨fd, F⟩ := T.F_Listener_D_init_D
  refine F.okS rfl (T.sup_Client.cell) sc_Listener_D_init_D (fun _ _ _ _ _ _ us hl => match us, hl with | [_, _, _], _ => rfl) (fun vs H Q h => ?_) (fun A outer s H vs Q hr h => ⟨_, (pat_super T.sup_Client Pf F (ok_Member_D_init_D T) (hr.mono (by decide)) (pa_cons (pv 1) (pa_cons (pv 2) pa_nil)) (pss_cons (ps_fld (pv 0) pe_dnewK rfl) (pss_one (ps_fld (pv 0) pe_non rfl))) (by obtain ⟨_, F2⟩ := T.F_Member_D_init_D; exact F2.fi) T.z_super T.stat rfl rfl rfl), ?_⟩)
  · obtain ⟨x, dx, S, nm, rfl, _⟩ := h
    rfl
  obtain ⟨x, dx, S, nm, rfl, hx, q⟩ := h
  refine ⟨x, dx, [], rfl, hx, .ref S, rfl, .str nm, rfl, x, dx, S, nm, rfl, hx, fun D hD => ?_⟩
  have hDx : D ≠ x := fun z => by
    rw [z, upd_same] at hD
    cases hD
  have hx2 : upd (upd H x (.ins a_Client dx [("store", .ref S), ("name", .str nm), ("work", .non)])) D (.dK []) x = some (.ins a_Client dx [("store", .ref S), ("name", .str nm), ("work", .non)]) := (upd_ne hDx.symm).trans upd_same
  refine ⟨.ref x, rfl, x, _, dx, _, rfl, hx2, T.c_Client, T.n_Client_starts, Nat.le_of_ble_eq_true rfl, .ref x, rfl, x, _, dx, _, rfl, upd_same, T.c_Client, T.n_Client_position, Nat.le_of_ble_eq_true rfl, ?_⟩
  have hD0 : H D = none := (upd_ne hDx).symm.trans hD
  refine q D _ (fun b o hb hn => ?_) upd_same ((upd_ne hDx).trans ((upd_ne hDx).trans upd_same)) hD0
  have hbD : b ≠ D := fun z => by rw [z, hD0] at hb; cases hb
  exact (upd_ne hn).trans ((upd_ne hn).trans ((upd_ne hbD).trans ((upd_ne hn).trans hb)))
theorem sc_Member_need_no_work : FnScope ["self"] ["self"] (defScope s_Member_need_no_work) := ⟨rfl, rfl, rfl, by decide +kernel, rfl, by decide +kernel, by decide +kernel⟩
theorem ok_Member_need_no_work (T : Tx w K mg) : FnN P w K mg base 1 m_Member_need_no_work (fun vs H Q => ∃ x dx S nm D pos, vs = [.ref x] ∧ H x = some (.ins a_Client dx (cliF S nm .non D pos)) ∧ Q .non H) := by
  obtain ⟨fd, F⟩ := T.F_Member_need_no_work
  refine F.okN rfl sc_Member_need_no_work (fun _ _ _ _ _ _ us hl => match us, hl with | [_], _ => rfl) (fun vs H Q h => ?_) (fun A outer s H vs Q hr h => ⟨_, (pss_one (ps_if (pt_cmpR op_notN (pe_fld (pv 0) rfl) pe_non (nomark _)) (pss_one ps_never) pss_nil)), ?_⟩)
  · obtain ⟨x, dx, S, nm, D, pos, rfl, _⟩ := h
    rfl
  obtain ⟨x, dx, S, nm, D, pos, rfl, hx, q⟩ := h
  exact ⟨.ref x, rfl, x, _, dx, _, .non, rfl, hx, T.c_Client, T.n_Client_work, rfl, rfl, false, rfl, iteF q⟩
theorem sc_Batch_D_len_D : FnScope ["self"] ["self"] (defScope s_Batch_D_len_D) := ⟨rfl, rfl, rfl, by decide +kernel, rfl, by decide +kernel, by decide +kernel⟩
theorem ok_Batch_D_len_D (T : Tx w K mg) : FnN P w K mg base 1 m_Batch___len__ (fun vs H Q => ∃ b rule zs, vs = [.ref b] ∧ BatAt K H b rule zs ∧ Q (.int zs.length) H) := by
  obtain ⟨fd, F⟩ := T.F_Batch_D_len_D
  refine F.okN rfl sc_Batch_D_len_D (fun _ _ _ _ _ _ us hl => match us, hl with | [_], _ => rfl) (fun vs H Q h => ?_) (fun A outer s H vs Q hr h => ⟨_, (pss_one (ps_ret (pe_callB call_len (by rfl) T.z_len PySem.boot_len (pa_cons (pe_fld (pv 0) rfl) pa_nil)))), ?_⟩)
  · obtain ⟨b, rule, zs, rfl, _⟩ := h
    rfl
  obtain ⟨b, rule, zs, rfl, ⟨dx, t, ys, hb, sq, no⟩, q⟩ := h
  refine ⟨.ref b, rfl, b, _, dx, _, .ref t, rfl, hb, T.c_Batch, T.n_Batch_notices, rfl, .ref t, ys.length, rfl, .inr ⟨ys, sq, rfl⟩, ?_⟩
  rw [Paired.length no]
  exact q
end
end KX
set_option maxHeartbeats 4000000
namespace KX
open PySem PySem.Spec PyProof.Rows L2
def stF (rule : Str) (C M PL QL : Addr) : List (Str × V) := [("rule", .str rule), ("most", .int 200), ("cells", .ref C), ("members", .ref M), ("past", .ref PL), ("queue", .ref QL)]
def trF (S A SD : Addr) (bg : Int) (RL ML : Addr) (st : Bool) : List (Str × V) := [("store", .ref S), ("owner", .ref A), ("snapshot", .ref SD), ("began", .int bg), ("rows", .ref RL), ("marks", .ref ML), ("standing", .bl st)]
section
variable {P : Program} {w : World} {K : PySem.W.Frag} {mg : Str → Option Value} {base : Heap} {p : Addr}
theorem sc_Transaction_need_open : FnScope ["self"] ["self"] (defScope s_Transaction_need_open) := ⟨rfl, rfl, rfl, by decide +kernel, rfl, by decide +kernel, by decide +kernel⟩
theorem ok_Transaction_need_open (T : Tx w K mg) : FnN P w K mg base 1 m_Transaction_need_open (fun vs H Q => ∃ x dx S A SD bg RL ML, vs = [.ref x] ∧ H x = some (.ins a_Transaction dx (trF S A SD bg RL ML true)) ∧ Q .non H) := by
  obtain ⟨fd, F⟩ := T.F_Transaction_need_open
  refine F.okN rfl sc_Transaction_need_open (fun _ _ _ _ _ _ us hl => match us, hl with | [_], _ => rfl) (fun vs H Q h => ?_) (fun A outer s H vs Q hr h => ⟨_, (pss_one (ps_if (pt_not (pt_val (pe_fld (pv 0) rfl))) (pss_one ps_never) pss_nil)), ?_⟩)
  · obtain ⟨x, dx, S, A, SD, bg, RL, ML, rfl, _⟩ := h
    rfl
  obtain ⟨x, dx, S, A, SD, bg, RL, ML, rfl, hx, q⟩ := h
  exact ⟨.ref x, rfl, x, _, dx, _, .bl true, rfl, hx, T.c_Transaction, T.n_Transaction_standing, rfl, true, rfl, iteF q⟩
theorem sc_Transaction_need_cell : FnScope ["self", "cell"] ["self", "cell"] (defScope s_Transaction_need_cell) := ⟨rfl, rfl, rfl, by decide +kernel, rfl, by decide +kernel, by decide +kernel⟩
theorem ok_Transaction_need_cell (T : Tx w K mg) : FnN P w K mg base 1 m_Transaction_need_cell (fun vs H Q => ∃ x dx S A SD bg RL ML v, vs = [.ref x, .str "a"] ∧ H x = some (.ins a_Transaction dx (trF S A SD bg RL ML true)) ∧ H SD = some (.dK [(.inr "a", v)]) ∧ Q .non H) := by
  obtain ⟨fd, F⟩ := T.F_Transaction_need_cell
  refine F.okN rfl sc_Transaction_need_cell (fun _ _ _ _ _ _ us hl => match us, hl with | [_, _], _ => rfl) (fun vs H Q h => ?_) (fun A outer s H vs Q hr h => ⟨_, (pss_one (ps_if (PW.pt (pw_or (pt_not (pt_val (pe_callB call_isi (by rfl) T.z_isinstance (by decide +kernel) (pa_cons (pv 1) (pa_cons (pe_ty (n := "str") T.z_str (by decide +kernel)) pa_nil))))) (pw_or1 (pt_cmp (pc_dnotin (hu_of hr) (pv 1) (pe_fld (pv 0) rfl)))))) (pss_one ps_never) pss_nil)), ?_⟩)
  · obtain ⟨x, dx, S, A, SD, bg, RL, ML, v, rfl, _⟩ := h
    rfl
  obtain ⟨x, dx, S, A, SD, bg, RL, ML, v, rfl, hx, hSD, q⟩ := h
  refine ⟨.str "a", rfl, .str "a", .ty "str", .type "str", .type "str", true, rfl, .ty _, .base (.str _), kit_ty kb_str_str, true, rfl, iteF ⟨.str "a", rfl, .ref x, rfl, x, _, dx, _, .ref SD, rfl, hx, T.c_Transaction, T.n_Transaction_snapshot, rfl, SD, _, rfl, DGet.k (k := .inr "a") hSD, _, rfl, ?_⟩⟩
  rw [valV_pos rfl]
  exact iteF q
theorem sc_Transaction_end : FnScope ["self"] ["self"] (defScope s_Transaction_end) := ⟨rfl, rfl, rfl, by decide +kernel, rfl, by decide +kernel, by decide +kernel⟩
theorem ok_Transaction_end (T : Tx w K mg) : FnN P w K mg base 1 m_Transaction_end (fun vs H Q => ∃ x dx S A SD bg RL ML dA S2 nm wk D pos, vs = [.ref x] ∧ H x = some (.ins a_Transaction dx (trF S A SD bg RL ML true)) ∧ H A = some (.ins a_Client dA (cliF S2 nm wk D pos)) ∧ Q .non (upd (upd H x (.ins a_Transaction dx (trF S A SD bg RL ML false))) A (.ins a_Client dA (cliF S2 nm .non D pos)))) := by
  obtain ⟨fd, F⟩ := T.F_Transaction_end
  refine F.okN rfl sc_Transaction_end (fun _ _ _ _ _ _ us hl => match us, hl with | [_], _ => rfl) (fun vs H Q h => ?_) (fun A outer s H vs Q hr h => ⟨_, (pss_cons (ps_fld (pv 0) pe_bl rfl) (pss_one (ps_fld (pe_fld (pv 0) rfl) pe_non rfl))), ?_⟩)
  · obtain ⟨x, dx, S, A, SD, bg, RL, ML, dA, S2, nm, wk, D, pos, rfl, _⟩ := h
    rfl
  obtain ⟨x, dx, S, A, SD, bg, RL, ML, dA, S2, nm, wk, D, pos, rfl, hx, hA, q⟩ := h
  have ne : A ≠ x := fun z => by
    rw [z, hx] at hA
    cases hA
  exact ⟨.ref x, rfl, x, _, dx, _, rfl, hx, T.c_Transaction, T.n_Transaction_standing, Nat.le_of_ble_eq_true rfl, .ref x, rfl, x, _, dx, _, .ref A, rfl, upd_same, T.c_Transaction, T.n_Transaction_owner, rfl, A, _, dA, _, rfl, (upd_ne ne).trans hA, T.c_Client, T.n_Client_work, Nat.le_of_ble_eq_true rfl, q⟩
theorem sc_Transaction_D_init_D : FnScope ["self", "store", "owner"] ["self", "store", "owner"] (defScope s_Transaction_D_init_D) := ⟨rfl, rfl, rfl, by decide +kernel, rfl, by decide +kernel, by decide +kernel⟩
theorem ok_Transaction_D_init_D (T : Tx w K mg) : FnN P w K mg base 1 m_Transaction___init__ (fun vs H Q => ∃ x dx S A dS rule C M PL QL kvs ps, vs = [.ref x, .ref S, .ref A] ∧ H x = some (.ins a_Transaction dx []) ∧ H S = some (.ins a_Store dS (stF rule C M PL QL)) ∧ H C = some (.dK kvs) ∧ H PL = some (.lst ps) ∧
    ∀ SD RL ML H', Fr (· = x) H H' → H' x = some (.ins a_Transaction dx (trF S A SD (ps.length : Nat) RL ML true)) → H' SD = some (.dK kvs) → H' RL = some (.lst []) → H' ML = some (.lst []) → H SD = none → H RL = none → H ML = none → RL ≠ ML → Q .non H') := by
  obtain ⟨fd, F⟩ := T.F_Transaction_D_init_D
  refine F.okN rfl sc_Transaction_D_init_D (fun _ _ _ _ _ _ us hl => match us, hl with | [_, _, _], _ => rfl) (fun vs H Q h => ?_) (fun A outer s H vs Q hr h => ⟨_, (pss_cons (ps_fld (pv 0) (pv 1) rfl) (pss_cons (ps_fld (pv 0) (pv 2) rfl) (pss_cons (ps_fld (pv 0) (pe_callTy call_dictD (by rfl) T.z_dict (by decide +kernel) (pa_cons (pe_fld (pv 1) rfl) pa_nil)) rfl) (pss_cons (ps_fld (pv 0) (pe_callB call_len_seq (by rfl) T.z_len PySem.boot_len (pa_cons (pe_fld (pv 1) rfl) pa_nil)) rfl) (pss_cons (ps_fld (pv 0) (pe_lst pa_nil) rfl) (pss_cons (ps_fld (pv 0) (pe_lst pa_nil) rfl) (pss_one (ps_fld (pv 0) pe_bl rfl)))))))), ?_⟩)
  · obtain ⟨x, dx, S, A, dS, rule, C, M, PL, QL, kvs, ps, rfl, _⟩ := h
    rfl
  obtain ⟨x, dx, S, A, dS, rule, C, M, PL, QL, kvs, ps, rfl, hx, hS, hC, hPL, q⟩ := h
  have nSx : S ≠ x := fun z => by
    rw [z, hx] at hS
    cases hS
  have nCx : C ≠ x := fun z => by
    rw [z, hx] at hC
    cases hC
  have nPx : PL ≠ x := fun z => by
    rw [z, hx] at hPL
    cases hPL
  refine ⟨.ref S, rfl, .ref x, rfl, x, _, dx, [], rfl, hx, T.c_Transaction, T.n_Transaction_store, by decide, .ref A, rfl, .ref x, rfl, x, _, dx, _, rfl, upd_same, T.c_Transaction, T.n_Transaction_owner, Nat.le_of_ble_eq_true rfl, ?_⟩
  show tSeq _ _ _ _ _
  rw [upd_upd]
  generalize hH1 : upd H x (.ins a_Transaction dx (putF "owner" (.ref A) (putF "store" (.ref S) []))) = H1
  have f1 : Fr (· = x) H H1 := fun b o hb hn => by rw [← hH1]; exact (upd_ne hn).trans hb
  have x1 : H1 x = some (.ins a_Transaction dx [("store", .ref S), ("owner", .ref A)]) := by rw [← hH1]; exact upd_same
  have none1 : ∀ b, H1 b = none → H b = none := fun b hb => by
    rw [← hH1] at hb
    by_cases e : b = x
    · rw [e, upd_same] at hb
      cases hb
    · exact (upd_ne e).symm.trans hb
  refine ⟨.ref S, rfl, S, _, dS, _, .ref C, rfl, f1 _ _ hS nSx, T.c_Store, T.n_Store_cells, rfl, C, kvs, rfl, .inl (f1 _ _ hC nCx), fun SD hSD => ?_⟩
  have s2 := Same.new (o := HO.dK kvs) hSD
  have nDx : x ≠ SD := fun z => by rw [← z, x1] at hSD; cases hSD
  refine ⟨.ref x, rfl, x, _, dx, _, rfl, s2 _ _ x1, T.c_Transaction, T.n_Transaction_snapshot, Nat.le_of_ble_eq_true rfl, ?_⟩
  show tSeq _ _ _ _ _
  generalize hH2 : upd (upd H1 SD (.dK kvs)) x (.ins a_Transaction dx (putF "snapshot" (.ref SD) [("store", .ref S), ("owner", .ref A)])) = H2
  have f2 : Fr (· = x) H H2 := fun b o hb hn => by rw [← hH2]; exact (upd_ne hn).trans (s2 _ _ (f1 _ _ hb hn))
  have x2 : H2 x = some (.ins a_Transaction dx [("store", .ref S), ("owner", .ref A), ("snapshot", .ref SD)]) := by rw [← hH2]; exact upd_same
  have d2 : H2 SD = some (.dK kvs) := by rw [← hH2]; exact (upd_ne nDx.symm).trans upd_same
  have none2 : ∀ b, H2 b = none → H b = none := fun b hb => by
    rw [← hH2] at hb
    by_cases e : b = x
    · rw [e, upd_same] at hb
      cases hb
    · have h3 := (upd_ne e).symm.trans hb
      exact none1 b (s2.free h3)
  refine ⟨.ref S, rfl, S, _, dS, _, .ref PL, rfl, f2 _ _ hS nSx, T.c_Store, T.n_Store_past, rfl, PL, ps, rfl, .inl (SqL.of (f2 _ _ hPL nPx)), .ref x, rfl, x, _, dx, _, rfl, x2, T.c_Transaction, T.n_Transaction_began, Nat.le_of_ble_eq_true rfl, Nat.zero_le _, fun RL hRL => ?_⟩
  have nRx : x ≠ RL := fun z => by rw [← z, upd_same] at hRL; cases hRL
  have hRL2 : H2 RL = none := (upd_ne nRx.symm).symm.trans hRL
  refine ⟨.ref x, rfl, x, _, dx, _, rfl, (upd_ne nRx).trans upd_same, T.c_Transaction, T.n_Transaction_rows, Nat.le_of_ble_eq_true rfl, Nat.zero_le _, fun ML hML => ?_⟩
  have nMx : x ≠ ML := fun z => by rw [← z, upd_same] at hML; cases hML
  have hML1 := (upd_ne nMx.symm).symm.trans hML
  have nRM : RL ≠ ML := fun z => by rw [← z, upd_same] at hML1; cases hML1
  have hML2 : H2 ML = none := (upd_ne nMx.symm).symm.trans ((upd_ne nRM.symm).symm.trans hML1)
  have nRD : SD ≠ RL := fun z => by rw [← z, d2] at hRL2; cases hRL2
  have nMD : SD ≠ ML := fun z => by rw [← z, d2] at hML2; cases hML2
  refine ⟨.ref x, rfl, x, _, dx, _, rfl, (upd_ne nMx).trans upd_same, T.c_Transaction, T.n_Transaction_marks, Nat.le_of_ble_eq_true rfl, .ref x, rfl, x, _, dx, _, rfl, upd_same, T.c_Transaction, T.n_Transaction_standing, Nat.le_of_ble_eq_true rfl, ?_⟩
  refine q SD RL ML _ (fun b o hb hn => ?_) upd_same ?_ ?_ ?_ (none1 _ hSD) (none2 _ hRL2) (none2 _ hML2) nRM
  · have bM : b ≠ ML := fun z => by rw [z, none2 _ hML2] at hb; cases hb
    have bR : b ≠ RL := fun z => by rw [z, none2 _ hRL2] at hb; cases hb
    exact (upd_ne hn).trans ((upd_ne hn).trans ((upd_ne bM).trans ((upd_ne hn).trans ((upd_ne bR).trans ((upd_ne hn).trans (f2 _ _ hb hn))))))
  · exact (upd_ne nDx.symm).trans ((upd_ne nDx.symm).trans ((upd_ne nMD).trans ((upd_ne nDx.symm).trans ((upd_ne nRD).trans ((upd_ne nDx.symm).trans d2)))))
  · exact (upd_ne nRx.symm).trans ((upd_ne nRx.symm).trans ((upd_ne nRM).trans ((upd_ne nRx.symm).trans upd_same)))
  · exact (upd_ne nMx.symm).trans ((upd_ne nMx.symm).trans upd_same)
end
end KX
set_option maxHeartbeats 4000000
namespace KX
open PySem PySem.Spec PyProof.Rows L2
section
variable {P : Program} {w : World} {K : PySem.W.Frag} {mg : Str → Option Value} {base : Heap} {p : Addr}
theorem sc_Transaction_rollback : FnScope ["self"] ["self"] (defScope s_Transaction_rollback) := ⟨rfl, rfl, rfl, by decide +kernel, rfl, by decide +kernel, by decide +kernel⟩
theorem ok_Transaction_rollback (T : Tx w K mg) : FnN P w K mg base 2 m_Transaction_rollback (fun vs H Q => ∃ x dx S A SD bg RL ML dA S2 nm wk D pos, vs = [.ref x] ∧ H x = some (.ins a_Transaction dx (trF S A SD bg RL ML true)) ∧ H A = some (.ins a_Client dA (cliF S2 nm wk D pos)) ∧ Q .non (upd (upd H x (.ins a_Transaction dx (trF S A SD bg RL ML false))) A (.ins a_Client dA (cliF S2 nm .non D pos)))) := by
  obtain ⟨fd, F⟩ := T.F_Transaction_rollback
  refine F.okN rfl sc_Transaction_rollback (fun _ _ _ _ _ _ us hl => match us, hl with | [_], _ => rfl) (fun vs H Q h => ?_) (fun A outer s H vs Q hr h => ⟨_, (pss_cons (ps_expr (pe_mt0 (ok_Transaction_need_open T) (hr.mono (by decide)) T.c_Transaction T.me_Transaction_need_open (pv 0))) (pss_one (ps_expr (pe_mt0 (ok_Transaction_end T) (hr.mono (by decide)) T.c_Transaction T.me_Transaction_end (pv 0))))), ?_⟩)
  · obtain ⟨x, dx, S, A, SD, bg, RL, ML, dA, S2, nm, wk, D, pos, rfl, _⟩ := h
    rfl
  obtain ⟨x, dx, S, A, SD, bg, RL, ML, dA, S2, nm, wk, D, pos, rfl, hx, hA, q⟩ := h
  exact ⟨.ref x, rfl, x, dx, _, rfl, hx, rfl, x, dx, S, A, SD, bg, RL, ML, rfl, hx, .ref x, rfl, x, dx, _, rfl, hx, rfl, x, dx, S, A, SD, bg, RL, ML, dA, S2, nm, wk, D, pos, rfl, hx, hA, q⟩
theorem sc_Sender_begin : FnScope ["self"] ["self"] (defScope s_Sender_begin) := ⟨rfl, rfl, rfl, by decide +kernel, rfl, by decide +kernel, by decide +kernel⟩
theorem ok_Sender_begin (T : Tx w K mg) : FnN P w K mg base 3 m_Sender_begin (fun vs H Q => ∃ A dA S nm D pos dS rule C M PL QL kvs ps, vs = [.ref A] ∧ H A = some (.ins a_Client dA (cliF S nm .non D pos)) ∧ H S = some (.ins a_Store dS (stF rule C M PL QL)) ∧ H C = some (.dK kvs) ∧ H PL = some (.lst ps) ∧
    ∀ x dx SD RL ML H', Fr (· = A) H H' → H' A = some (.ins a_Client dA (cliF S nm (.ref x) D pos)) → H' x = some (.ins a_Transaction dx (trF S A SD (ps.length : Nat) RL ML true)) → H' SD = some (.dK kvs) → H' RL = some (.lst []) → H' ML = some (.lst []) → H x = none → H SD = none → H RL = none → H ML = none → RL ≠ ML → Q (.ref x) H') := by
  obtain ⟨fd, F⟩ := T.F_Sender_begin
  refine F.okN rfl sc_Sender_begin (fun _ _ _ _ _ _ us hl => match us, hl with | [_], _ => rfl) (fun vs H Q h => ?_) (fun A outer s H vs Q hr h => ⟨_, (pss_cons (ps_expr (pe_mt0 (ok_Member_need_no_work T) (hr.mono (by decide)) T.c_Client T.me_Client_need_no_work (pv 0))) (pss_cons (ps_fld (pv 0) (pe_mk (ok_Transaction_D_init_D T) (hr.mono (by decide)) T.mk_Transaction T.g_Transaction (pa_cons (pe_fld (pv 0) rfl) (pa_cons (pv 0) pa_nil))) rfl) (pss_one (ps_ret (pe_fld (pv 0) rfl))))), ?_⟩)
  · obtain ⟨A, dA, S, nm, D, pos, dS, rule, C, M, PL, QL, kvs, ps, rfl, _⟩ := h
    rfl
  obtain ⟨A, dA, S, nm, D, pos, dS, rule, C, M, PL, QL, kvs, ps, rfl, hA, hS, hC, hPL, q⟩ := h
  refine ⟨.ref A, rfl, A, dA, _, rfl, hA, rfl, A, dA, S, nm, D, pos, rfl, hA, .ref A, rfl, A, _, dA, _, .ref S, rfl, hA, T.c_Client, T.n_Client_store, rfl, .ref A, rfl, fun x dx hx hdx ne => ?_⟩
  have e2 := Same.new (o := HO.own x) hdx
  have hx2 : upd H dx (.own x) x = none := (upd_ne ne.symm).trans hx
  have e3 := e2.trans (Same.new (o := HO.ins a_Transaction dx []) hx2)
  refine ⟨x, dx, S, A, dS, rule, C, M, PL, QL, kvs, ps, rfl, upd_same, e3 _ _ hS, e3 _ _ hC, e3 _ _ hPL, fun SD RL ML H' fr hx' hSD hRL hML nSD nRL nML nRM => ⟨rfl, ?_⟩⟩
  have nAx : A ≠ x := fun z => by rw [z, hx] at hA; cases hA
  have hA' := fr _ _ (e3 _ _ hA) nAx
  refine ⟨.ref A, rfl, A, _, dA, _, rfl, hA', T.c_Client, T.n_Client_work, Nat.le_of_ble_eq_true rfl, .ref A, rfl, A, _, dA, _, .ref x, rfl, upd_same, T.c_Client, T.n_Client_work, rfl, ?_⟩
  have mv : ∀ {b o}, H' b = some o → (∀ C2 d2 f2, o ≠ .ins C2 d2 f2 ∨ C2 ≠ a_Client) → upd H' A (.ins a_Client dA (cliF S nm (.ref x) D pos)) b = some o := fun {b o} h hn => (upd_ne fun z => by
    rw [z, hA'] at h
    rcases hn a_Client dA (cliF S nm .non D pos) with h2 | h2
    · exact h2 (Option.some.inj h).symm
    · exact h2 rfl).trans h
  refine q x dx SD RL ML _ (fun b o hb hn => ?_) upd_same ((upd_ne nAx.symm).trans hx') ?_ ?_ ?_ hx (e3.free nSD) (e3.free nRL) (e3.free nML) nRM
  · have nbx : b ≠ x := fun z => by rw [z, hx] at hb; cases hb
    exact (upd_ne hn).trans (fr _ _ (e3 _ _ hb) nbx)
  · exact (upd_ne (ne_of hSD hA' (fun z => nomatch z))).trans hSD
  · exact (upd_ne (ne_of hRL hA' (fun z => nomatch z))).trans hRL
  · exact (upd_ne (ne_of hML hA' (fun z => nomatch z))).trans hML
end
end KX
set_option maxHeartbeats 4000000
namespace KX
open PySem PySem.Spec PyProof.Rows L2
section
variable {P : Program} {w : World} {K : PySem.W.Frag} {mg : Str → Option Value} {base : Heap} {p : Addr}
theorem sc_Transaction_D_setitem_D : FnScope ["self", "cell", "word"] ["self", "cell", "word"] (defScope s_Transaction_D_setitem_D) := ⟨rfl, rfl, rfl, by decide +kernel, rfl, by decide +kernel, by decide +kernel⟩
theorem ok_Transaction_D_setitem_D (T : Tx w K mg) : FnN P w K mg base 4 m_Transaction___setitem__ (fun vs H Q => ∃ x dx S A SD bg RL ML v rs z, vs = [.ref x, .str "a", .str z] ∧ H x = some (.ins a_Transaction dx (trF S A SD bg RL ML true)) ∧ H SD = some (.dK [(.inr "a", v)]) ∧ H RL = some (.lst rs) ∧ rs.length ≤ 900 ∧ wordB z ∧
    ∀ t H', Fr (· = RL) H H' → H t = none → H' t = some (.tup [.str "set", .str "a", .str z]) → H' RL = some (.lst (rs ++ [.ref t])) → Q .non H') := by
  obtain ⟨fd, F⟩ := T.F_Transaction_D_setitem_D
  refine F.okN rfl sc_Transaction_D_setitem_D (fun _ _ _ _ _ _ us hl => match us, hl with | [_, _, _], _ => rfl) (fun vs H Q h => ?_) (fun A outer s H vs Q hr h => ⟨_, (pss_cons (ps_expr (pe_mt0 (ok_Transaction_need_open T) (hr.mono (by decide)) T.c_Transaction T.me_Transaction_need_open (pv 0))) (pss_cons (ps_expr (pe_mt (ok_Transaction_need_cell T) (hr.mono (by decide)) T.c_Transaction T.me_Transaction_need_cell (pv 0) (pa_cons (pv 1) pa_nil))) (pss_cons (ps_expr (pe_cl (ok_need_word T) (hr.mono (by decide)) T.kp_need_word T.g_need_word (pa_cons (pv 2) pa_nil))) (pss_one (ps_expr (pe_bm PySem.F.plainAttrs_list PySem.F.slot_list_append PySem.F.type_list_append mt_append (pe_fld (pv 0) rfl) (pa_cons (pe_tup (pa_cons pe_str (pa_cons (pv 1) (pa_cons (pv 2) pa_nil)))) pa_nil))))))), ?_⟩)
  · obtain ⟨x, dx, S, A, SD, bg, RL, ML, v, rs, z, rfl, _⟩ := h
    rfl
  obtain ⟨x, dx, S, A, SD, bg, RL, ML, v, rs, z, rfl, hx, hSD, hRL, hl, hz, q⟩ := h
  refine ⟨.ref x, rfl, x, dx, _, rfl, hx, rfl, x, dx, S, A, SD, bg, RL, ML, rfl, hx, .ref x, rfl, x, dx, _, rfl, hx, rfl, .str "a", rfl, x, dx, S, A, SD, bg, RL, ML, v, rfl, hx, hSD, .str z, rfl, [.str z], .cons (.str z) .nil, ⟨z, rfl, hz⟩, fun H1 e1 => ?_⟩
  refine ⟨.ref x, rfl, x, _, dx, _, .ref RL, rfl, e1 _ _ hx, T.c_Transaction, T.n_Transaction_rows, rfl, .inl ⟨rfl, _, SqL.of (e1 _ _ hRL)⟩, .str "a", rfl, .str z, rfl, by show 3 ≤ sizeLine; decide, fun t ht => ?_⟩
  have s2 := e1.trans (Same.new (o := HO.tup [.str "set", .str "a", .str z]) ht)
  have hR2 := s2 _ _ hRL
  refine ⟨RL, rs, .ref t, rfl, rfl, hR2, small1000 (by omega), ?_⟩
  exact q t _ (fun b o hb hn => (upd_ne hn).trans (s2 _ _ hb)) (e1.free ht) ((upd_ne (ne_of upd_same hR2 (fun z => nomatch z))).trans upd_same) upd_same
theorem sc_Transaction_D_iadd_D : FnScope ["self", "notice"] ["self", "notice"] (defScope s_Transaction_D_iadd_D) := ⟨rfl, rfl, rfl, by decide +kernel, rfl, by decide +kernel, by decide +kernel⟩
theorem ok_Transaction_D_iadd_D (T : Tx w K mg) : FnN P w K mg base 2 m_Transaction___iadd__ (fun vs H Q => ∃ x dx S A SD bg RL ML rs n c z, vs = [.ref x, .ref n] ∧ H x = some (.ins a_Transaction dx (trF S A SD bg RL ML true)) ∧ H RL = some (.lst rs) ∧ rs.length ≤ 900 ∧ NotAt H n c z ∧
    ∀ t H', Fr (· = RL) H H' → H t = none → H' t = some (.tup [.str "say", .ref n]) → H' RL = some (.lst (rs ++ [.ref t])) → Q (.ref x) H') := by
  obtain ⟨fd, F⟩ := T.F_Transaction_D_iadd_D
  refine F.okN rfl sc_Transaction_D_iadd_D (fun _ _ _ _ _ _ us hl => match us, hl with | [_, _], _ => rfl) (fun vs H Q h => ?_) (fun A outer s H vs Q hr h => ⟨_, (pss_cons (ps_expr (pe_mt0 (ok_Transaction_need_open T) (hr.mono (by decide)) T.c_Transaction T.me_Transaction_need_open (pv 0))) (pss_cons (ps_expr (pe_cl (ok_need_notice T) (hr.mono (by decide)) T.kp_need_notice T.g_need_notice (pa_cons (pv 1) pa_nil))) (pss_cons (ps_expr (pe_bm PySem.F.plainAttrs_list PySem.F.slot_list_append PySem.F.type_list_append mt_append (pe_fld (pv 0) rfl) (pa_cons (pe_tup (pa_cons pe_str (pa_cons (pv 1) pa_nil))) pa_nil))) (pss_one (ps_ret (pv 0)))))), ?_⟩)
  · obtain ⟨x, dx, S, A, SD, bg, RL, ML, rs, n, c, z, rfl, _⟩ := h
    rfl
  obtain ⟨x, dx, S, A, SD, bg, RL, ML, rs, n, c, z, rfl, hx, hRL, hl, hn, q⟩ := h
  refine ⟨.ref x, rfl, x, dx, _, rfl, hx, rfl, x, dx, S, A, SD, bg, RL, ML, rfl, hx, .ref n, rfl, n, c, z, rfl, hn, ?_⟩
  refine ⟨.ref x, rfl, x, _, dx, _, .ref RL, rfl, hx, T.c_Transaction, T.n_Transaction_rows, rfl, .inl ⟨rfl, _, SqL.of hRL⟩, .ref n, rfl, by show 2 ≤ sizeLine; decide, fun t ht => ?_⟩
  have s2 := Same.new (o := HO.tup [.str "say", .ref n]) ht
  have hR2 := s2 _ _ hRL
  refine ⟨RL, rs, .ref t, rfl, rfl, hR2, small1000 (by omega), .ref x, rfl, ?_⟩
  exact q t _ (fun b o hb hn => (upd_ne hn).trans (s2 _ _ hb)) ht ((upd_ne (ne_of upd_same hR2 (fun z => nomatch z))).trans upd_same) upd_same
end
end KX
set_option maxHeartbeats 4000000
namespace KX
open PySem PySem.Spec PyProof.Rows L2
/-- a row of a transaction -/
inductive Row where
  | set (z : Str) | say (z : Str) | lis | unl
def RowV (H : Hp) (v : V) : Row → Prop
  | .set z => ∃ t, v = .ref t ∧ H t = some (.tup [.str "set", .str "a", .str z])
  | .say z => ∃ t n, v = .ref t ∧ H t = some (.tup [.str "say", .ref n]) ∧ NotAt H n "a" z
  | .lis => ∃ t, v = .ref t ∧ H t = some (.tup [.str "listen", .str "a"])
  | .unl => ∃ t, v = .ref t ∧ H t = some (.tup [.str "unlisten", .str "a"])
theorem RowV.mono {H H' : Hp} {v : V} {r : Row} (h : RowV H v r) (e : Same H H') : RowV H' v r := by
  cases r with
  | set z => obtain ⟨t, h1, h2⟩ := h; exact ⟨t, h1, e _ _ h2⟩
  | say z => obtain ⟨t, n, h1, h2, h3⟩ := h; exact ⟨t, n, h1, e _ _ h2, h3.mono e⟩
  | lis => obtain ⟨t, h1, h2⟩ := h; exact ⟨t, h1, e _ _ h2⟩
  | unl => obtain ⟨t, h1, h2⟩ := h; exact ⟨t, h1, e _ _ h2⟩
/-- a dict comprehension over a walk -/
theorem dc_it {J : It} {n : Nat} {G : Hp → Prop} {Y : Nat → Hp → V → Hp → Prop} (w : Walk J n G Y) {g : TG} {tt : TT} {tk tv : TE} {vs : List Nat} {σ : L2.St} {H1 : Hp} {D : Addr} {Qd : Hp → Prop} (Pv : Nat → Hp → Prop) (h0 : Pv 0 (upd H1 D (.dK []))) (hG : ∀ i H, i ≤ n → Pv i H → G H)
    (hs : ∀ i x H H', i < n → Pv i H → Y i H x H' → g x (wipe σ vs) H' fun σ2 H2 => wipe σ2 vs = wipe σ vs ∧ tt σ2 H2 fun b H3 =>
      if b = true then tk σ2 H3 fun y H4 => tv σ2 H4 fun z H5 => ∃ kvs k, y = kV k ∧ H5 D = some (.dK kvs) ∧ kvs.length < sizeLine ∧ Pv (i + 1) (upd H5 D (.dK (putK kvs k z))) else Pv (i + 1) H3) (hd : ∀ H, Pv n H → Qd H) :
    ∃ W : Nat → Nat → Hp → Prop, (∃ m, W 0 m (upd H1 D (.dK []))) ∧ ∀ i m H, W i m H →
      (J.stop i H ∧ Qd H) ∨ (J.go i H ∧ ∃ Nx : Hp → Prop, (∀ H', Nx H' → ∃ m', m' < m ∧ W (i + 1) m' H') ∧ ∀ x H', J.yld i H x H' → g x (wipe σ vs) H' fun σ2 H2 => wipe σ2 vs = wipe σ vs ∧ tt σ2 H2 fun b H3 =>
        if b = true then tk σ2 H3 fun y H4 => tv σ2 H4 fun z H5 => ∃ kvs k, y = kV k ∧ H5 D = some (.dK kvs) ∧ kvs.length < sizeLine ∧ Nx (upd H5 D (.dK (putK kvs k z))) else Nx H3) := by
  refine ⟨fun i m H => m = n - i ∧ i ≤ n ∧ Pv i H, ⟨n, by simp, Nat.zero_le _, h0⟩, ?_⟩
  rintro i m H ⟨rfl, hi, p⟩
  have q := hG i H hi p
  by_cases hlt : i < n
  · refine .inr ⟨w.goes i H hlt q, Pv (i + 1), fun H' p' => ⟨n - (i + 1), by omega, rfl, hlt, p'⟩, fun x H' y => hs i x H H' hlt p (w.yields i H x H' hlt q y)⟩
  · have e : i = n := by omega
    subst e
    exact .inl ⟨w.stops H q, hd H p⟩
/-- the word set last -/
def setW (rows : List Row) : Option Str := rows.foldl (fun o r => match r with | .set z => some z | _ => o) none
def oneK : Option Str → List (L2.Key × V)
  | none => []
  | some z => [(.inr "a", .str z)]
def Row.kind : Row → Str
  | .set _ => "set"
  | .say _ => "say"
  | .lis => "listen"
  | .unl => "unlisten"
theorem RowV.kind {H : Hp} {v : V} {r : Row} (h : RowV H v r) : ∃ t xs, v = .ref t ∧ H t = some (.tup xs) ∧ atI xs 0 = some (.str r.kind) := by
  cases r with
  | set z => obtain ⟨t, h1, h2⟩ := h; exact ⟨t, _, h1, h2, rfl⟩
  | say z => obtain ⟨t, n, h1, h2, h3⟩ := h; exact ⟨t, _, h1, h2, rfl⟩
  | lis => obtain ⟨t, h1, h2⟩ := h; exact ⟨t, _, h1, h2, rfl⟩
  | unl => obtain ⟨t, h1, h2⟩ := h; exact ⟨t, _, h1, h2, rfl⟩
/-- the text that a row puts under the cell a, by a comprehension -/
def selS (sel : Row → Option Str) (rows : List Row) : Option Str := rows.foldl (fun o r => match sel r with | some z => some z | none => o) none
theorem selS_snoc {sel : Row → Option Str} {rows : List Row} {r : Row} : selS sel (rows ++ [r]) = match sel r with | some z => some z | none => selS sel rows := by
  unfold selS
  rw [List.foldl_append]
  rfl
theorem putK_one {o : Option Str} {z : Str} : putK (oneK o) (.inr "a" : L2.Key) (.str z) = oneK (some z) := by
  cases o <;> simp [putK, oneK]
theorem dc_rows {K : PySem.W.Frag} {RL : Addr} {rs : List V} {rows : List Row} {H : Hp} {sel : Row → Option Str} {tt : TT} {tk tv : TE} {wl : TE} {σ : L2.St} {Q : VK} {i : Nat}
    (hi : i < σ.length) (hwl : ∀ R, R (.ref RL) H → wl σ H R) (hRL : H RL = some (.lst rs)) (hrw : Paired (RowV H) rs rows)
    (ht : ∀ v r H2 σ2 (R : Bool → Hp → Prop), RowV H2 v r → σ2[i]? = some (some v) → (∀ H3, Same H2 H3 → R (sel r).isSome H3) → tt σ2 H2 R)
    (hk : ∀ v r H2 σ2 z (R : VK), RowV H2 v r → σ2[i]? = some (some v) → sel r = some z → R (.str "a") H2 → tk σ2 H2 R)
    (hv : ∀ v r H2 σ2 z (R : VK), RowV H2 v r → σ2[i]? = some (some v) → sel r = some z → R (.str z) H2 → tv σ2 H2 R)
    (q : ∀ D H', Same H H' → H D = none → H' D = some (.dK (oneK (selS sel rows))) → Q (.ref D) H') : tDc (iList K wl) (gName i) tt tk tv [i] σ H Q := by
  refine hwl _ ⟨RL, rfl, ⟨rs, SqL.of hRL⟩, fun D hD => ?_⟩
  have hlen := Paired.length hrw
  refine dc_it (walk_list (K := K) (a := RL) (xs := rs)) (fun j H' => Same H H' ∧ H' D = some (.dK (oneK (selS sel (rows.take j))))) ⟨Same.new hD, upd_same⟩ (fun j H' _ p => SqL.of (p.1 _ _ hRL)) (fun j x H1 H2 hj p y => ?_) (fun H' p => q D H' p.1 hD (by rw [p.2, hlen, List.take_length]))
  obtain ⟨rfl, hx⟩ := y
  obtain ⟨e, pD⟩ := p
  obtain ⟨r, er, rv⟩ := pairedR hrw hx
  have rv := rv.mono e
  have hs : ((wipe σ [i]).set i (some x))[i]? = some (some x) := List.getElem?_set_self (by rw [wipe_length]; exact hi)
  have tk1 : rows.take (j + 1) = rows.take j ++ [r] := by rw [List.take_add_one, er]; rfl
  refine ⟨wipe_set, ht x r _ _ _ rv hs fun H3 e3 => ?_⟩
  have e := e.trans e3
  have pD := e3 _ _ pD
  have rv := rv.mono e3
  cases hr : sel r with
  | none => exact ⟨e, by rw [tk1, selS_snoc, hr]; exact pD⟩
  | some z =>
    refine hk x r _ _ z _ rv hs hr (hv x r _ _ z _ rv hs hr ⟨_, .inr "a", rfl, pD, ?_, KX.Same.upd e hD, ?_⟩)
    · have l1 : ∀ o : Option Str, (oneK o).length < sizeLine := fun o => by
        cases o
        · exact Nat.lt_of_lt_of_le (by decide : 0 < 2) (show 2 ≤ sizeLine by decide)
        · exact Nat.lt_of_lt_of_le (by decide : 1 < 2) (show 2 ≤ sizeLine by decide)
      exact l1 _
    · rw [upd_same, putK_one, tk1, selS_snoc, hr]
theorem setW_sel (rows : List Row) : setW rows = selS (fun r => match r with | .set z => some z | _ => none) rows := by
  unfold setW selS
  congr
  funext o r
  cases r <;> rfl
/-- the last wish -/
def wishW (rows : List Row) : Option Str := selS (fun r => match r with | .lis => some "listen" | .unl => some "unlisten" | _ => none) rows
section
variable {P : Program} {w : World} {K : PySem.W.Frag} {mg : Str → Option Value} {base : Heap} {p : Addr}
theorem sc_Transaction_changes : FnScope ["self", "row"] ["self"] (defScope s_Transaction_changes) := ⟨rfl, rfl, rfl, by decide +kernel, rfl, by decide +kernel, by decide +kernel⟩
theorem ok_Transaction_changes (T : Tx w K mg) : FnN P w K mg base 1 m_Transaction_changes (fun vs H Q => ∃ x dx S A SD bg RL ML rs rows, vs = [.ref x] ∧ H x = some (.ins a_Transaction dx (trF S A SD bg RL ML true)) ∧ H RL = some (.lst rs) ∧ Paired (RowV H) rs rows ∧ ∀ D H', Same H H' → H D = none → H' D = some (.dK (oneK (setW rows))) → Q (.ref D) H') := by
  obtain ⟨fd, F⟩ := T.F_Transaction_changes
  refine F.okN rfl sc_Transaction_changes (fun _ _ _ _ _ _ us hl => match us, hl with | [_], _ => rfl) (fun vs H Q h => ?_) (fun A outer s H vs Q hr h => ⟨_, (pss_one (ps_ret (pe_dc (own := [("row", 1)]) (tt := tTest (tOp rEq (tOp (rIxT K) (tVar 1) (tC (.int 0))) (tC (.str "set")))) (tk := tOp (rIxT K) (tVar 1) (tC (.int 1))) (tv := tOp (rIxT K) (tVar 1) (tC (.int 2))) (by rfl) sc_Transaction_changes.nd (pi_list (pe_fld (pv 0) rfl)) (blkOk_by (N := ["self", "row"]) (sc := defScope s_Transaction_changes) (by decide +kernel)) (fun _ _ _ _ _ => by exact (pg_name (i := 1) sc_Transaction_changes.nd rfl (Or.inl rfl))) (fun _ _ _ _ _ => pts_one (pt_cmpR op_eq (pe_ix ix_tup (pv 1) pe_int (fun _ _ => rfl)) pe_str (nomark _))) (fun _ _ _ _ _ => (pe_ix ix_tup (pv 1) pe_int (fun _ _ => rfl))) (fun _ _ _ _ _ => (pe_ix ix_tup (pv 1) pe_int (fun _ _ => rfl)))))), ?_⟩)
  · obtain ⟨x, dx, S, A, SD, bg, RL, ML, rs, rows, rfl, _⟩ := h
    rfl
  obtain ⟨x, dx, S, A, SD, bg, RL, ML, rs, rows, rfl, hx, hRL, hrw, q⟩ := h
  have e : setW rows = _ := setW_sel rows
  rw [e] at q
  have ix0 : ∀ {v : V} {r : Row} {H2 : Hp} {σ2 : L2.St} {R : VK}, RowV H2 v r → σ2[1]? = some (some v) → R (.str r.kind) H2 → tOp (rIxT K) (tVar 1) (tC (.int 0)) σ2 H2 R := fun rv hs R => by
    obtain ⟨t, xs, rfl, ht, e0⟩ := rv.kind
    exact ⟨_, hs, t, xs, 0, _, rfl, rfl, SqT.of ht, e0, R⟩
  refine dc_rows (by show 1 < 2; decide) (fun R r => ⟨.ref x, rfl, x, _, dx, _, .ref RL, rfl, hx, T.c_Transaction, T.n_Transaction_rows, rfl, r⟩) hRL hrw (fun v r H2 σ2 R rv hs h => ?_) (fun v r H2 σ2 z R rv hs hz h => ?_) (fun v r H2 σ2 z R rv hs hz h => ?_) q
  · refine ix0 rv hs ⟨rfl, _, rfl, ?_⟩
    have h := h _ (Same.refl H2)
    cases r <;> exact h
  · cases r with
    | set y =>
      obtain ⟨t, rfl, h2⟩ := rv
      exact ⟨_, hs, t, _, 1, _, rfl, rfl, SqT.of h2, rfl, h⟩
    | say y => cases hz
    | lis => cases hz
    | unl => cases hz
  · cases r with
    | set y =>
      cases hz
      obtain ⟨t, rfl, h2⟩ := rv
      exact ⟨_, hs, t, _, 2, _, rfl, rfl, SqT.of h2, rfl, h⟩
    | say y => cases hz
    | lis => cases hz
    | unl => cases hz
theorem sc_Transaction_wishes : FnScope ["self", "row"] ["self"] (defScope s_Transaction_wishes) := ⟨rfl, rfl, rfl, by decide +kernel, rfl, by decide +kernel, by decide +kernel⟩
theorem ok_Transaction_wishes (T : Tx w K mg) : FnN P w K mg base 1 m_Transaction_wishes (fun vs H Q => ∃ x dx S A SD bg RL ML rs rows, vs = [.ref x] ∧ H x = some (.ins a_Transaction dx (trF S A SD bg RL ML true)) ∧ H RL = some (.lst rs) ∧ Paired (RowV H) rs rows ∧ ∀ D H', Same H H' → H D = none → H' D = some (.dK (oneK (wishW rows))) → Q (.ref D) H') := by
  obtain ⟨fd, F⟩ := T.F_Transaction_wishes
  refine F.okN rfl sc_Transaction_wishes (fun _ _ _ _ _ _ us hl => match us, hl with | [_], _ => rfl) (fun vs H Q h => ?_) (fun A outer s H vs Q hr h => ⟨_, (pss_one (ps_ret (pe_dc (own := [("row", 1)]) (tt := tTest (tOp (rIn K false) (tOp (rIxT K) (tVar 1) (tC (.int 0))) (tTup (tCons (tC (.str "listen")) (tCons (tC (.str "unlisten")) tNil))))) (tk := tOp (rIxT K) (tVar 1) (tC (.int 1))) (tv := tOp (rIxT K) (tVar 1) (tC (.int 0))) (by rfl) sc_Transaction_wishes.nd (pi_list (pe_fld (pv 0) rfl)) (blkOk_by (N := ["self", "row"]) (sc := defScope s_Transaction_wishes) (by decide +kernel)) (fun _ _ _ _ _ => by exact (pg_name (i := 1) sc_Transaction_wishes.nd rfl (Or.inl rfl))) (fun _ _ _ _ _ => pts_one (pt_cmpR op_in_seq (pe_ix ix_tup (pv 1) pe_int (fun _ _ => rfl)) (pe_tup (pa_cons pe_str (pa_cons pe_str pa_nil))) rfl)) (fun _ _ _ _ _ => (pe_ix ix_tup (pv 1) pe_int (fun _ _ => rfl))) (fun _ _ _ _ _ => (pe_ix ix_tup (pv 1) pe_int (fun _ _ => rfl)))))), ?_⟩)
  · obtain ⟨x, dx, S, A, SD, bg, RL, ML, rs, rows, rfl, _⟩ := h
    rfl
  obtain ⟨x, dx, S, A, SD, bg, RL, ML, rs, rows, rfl, hx, hRL, hrw, q⟩ := h
  have ix0 : ∀ {v : V} {r : Row} {H2 : Hp} {σ2 : L2.St} {R : VK}, RowV H2 v r → σ2[1]? = some (some v) → R (.str r.kind) H2 → tOp (rIxT K) (tVar 1) (tC (.int 0)) σ2 H2 R := fun rv hs R => by
    obtain ⟨t, xs, rfl, ht, e0⟩ := rv.kind
    exact ⟨_, hs, t, xs, 0, _, rfl, rfl, SqT.of ht, e0, R⟩
  refine dc_rows (by show 1 < 2; decide) (fun R r => ⟨.ref x, rfl, x, _, dx, _, .ref RL, rfl, hx, T.c_Transaction, T.n_Transaction_rows, rfl, r⟩) hRL hrw (fun v r H2 σ2 R rv hs h => ?_) (fun v r H2 σ2 z R rv hs hz h => ?_) (fun v r H2 σ2 z R rv hs hz h => ?_) q
  · refine ix0 rv hs ?_
    refine ⟨show 2 ≤ sizeLine by decide, fun p hp => ⟨p, _, rfl, .inr (SqT.of upd_same), rfl, rfl, _, rfl, ?_⟩⟩
    have h := h (upd H2 p (.tup [.str "listen", .str "unlisten"])) (Same.new hp)
    cases r <;> exact h
  · cases r with
    | set y => cases hz
    | say y => cases hz
    | lis =>
      obtain ⟨t, rfl, h2⟩ := rv
      exact ⟨_, hs, t, _, 1, _, rfl, rfl, SqT.of h2, rfl, h⟩
    | unl =>
      obtain ⟨t, rfl, h2⟩ := rv
      exact ⟨_, hs, t, _, 1, _, rfl, rfl, SqT.of h2, rfl, h⟩
  · cases r with
    | set y => cases hz
    | say y => cases hz
    | lis =>
      cases hz
      exact ix0 rv hs h
    | unl =>
      cases hz
      exact ix0 rv hs h
end
end KX
set_option maxHeartbeats 4000000
namespace KX
open PySem PySem.Spec PyProof.Rows L2
theorem nameB_a : nameB "a" := by
  unfold nameB lettersOk
  decide +kernel
theorem fun_none {H : Hp} {D u : Addr} {o : HO} (hD : H D = none) (h : upd H D o u = none) : H u = none := (Same.new hD).free h
section
variable {P : Program} {w : World} {K : PySem.W.Frag} {mg : Str → Option Value} {base : Heap} {p : Addr}
theorem sc_Transaction_listen : FnScope ["self", "channels", "channel"] ["self", "channels"] (defScope s_Transaction_listen) := ⟨rfl, rfl, rfl, by decide +kernel, rfl, by decide +kernel, by decide +kernel⟩
theorem ok_Transaction_listen (T : Tx w K mg) : FnN P w K mg base 4 m_Transaction_listen (fun vs H Q => ∃ x dx S A SD bg RL ML rs, vs = [.ref x, .str "a"] ∧ H x = some (.ins a_Transaction dx (trF S A SD bg RL ML true)) ∧ H RL = some (.lst rs) ∧ rs.length ≤ 900 ∧
    ∀ t H', Fr (· = RL) H H' → H t = none → H' t = some (.tup [.str "listen", .str "a"]) → H' RL = some (.lst (rs ++ [.ref t])) → Q .non H') := by
  obtain ⟨fd, F⟩ := T.F_Transaction_listen
  refine FnN.imp (F.okStar (k := 3) (sp := fun vs H Q => ∃ x dx S A SD bg RL ML rs q, vs = [.ref x, .ref q] ∧ H q = some (.tup [.str "a"]) ∧ H x = some (.ins a_Transaction dx (trF S A SD bg RL ML true)) ∧ H RL = some (.lst rs) ∧ rs.length ≤ 900 ∧
    ∀ t H', Fr (· = RL) H H' → H t = none → H' t = some (.tup [.str "listen", .str "a"]) → H' RL = some (.lst (rs ++ [.ref t])) → Q .non H') (ps := ["self"]) (pv := "channels") rfl sc_Transaction_listen (fun kV doc pm an cdv ct => StX.bind_star1 (B := fun l => bindArgs (PySem.W.fnOf d_Transaction_listen.name d_Transaction_listen.qual (defArgs d_Transaction_listen.st) (defBody d_Transaction_listen.st) (defScope d_Transaction_listen.st) .none kV doc pm an cdv ct) ⟨l, []⟩) (fun _ => rfl) (fun _ _ _ => rfl)) (fun A outer s H vs Q hr h => ⟨_, (pss_cons (ps_expr (pe_mt0 (ok_Transaction_need_open T) (hr.mono (by decide)) T.c_Transaction T.me_Transaction_need_open (pv 0))) (pss_cons (ps_for PassesOwn.never rfl (pi_tup (pv 1)) (pg_name (i := 2) sc_Transaction_listen.nd rfl (Or.inl rfl)) (pss_one (ps_expr (pe_cl (ok_need_name T) (hr.mono (by decide)) T.kp_need_name T.g_need_name (pa_cons (pv 2) pa_nil))))) (pss_one (ps_expr (pe_bm PySem.F.plainAttrs_list PySem.F.slot_list_extend PySem.F.type_list_extend mt_extend (pe_fld (pv 0) rfl) (pa_cons (pe_lc (own := [("channel", 2)]) (by rfl) sc_Transaction_listen.nd (pi_tup (pv 1)) (blkOk_by (N := ["self", "channels", "channel"]) (sc := defScope s_Transaction_listen) (by decide +kernel)) (fun _ _ _ _ _ => by exact (pg_name (i := 2) sc_Transaction_listen.nd rfl (Or.inl rfl))) (fun _ _ _ _ _ => pts_nil) (fun _ _ _ _ _ => (pe_tup (pa_cons pe_str (pa_cons (pv 2) pa_nil))))) pa_nil)))))), ?_⟩)) ?_
  · obtain ⟨x, dx, S, A, SD, bg, RL, ML, rs, t, rfl, ht, hx, hRL, hl, q⟩ := h
    have s0 : DS K H (start ["self", "channels", "channel"] [.ref x, .ref t]) [.v (.ref x), .v (.ref t), .no] := .cons (s := .v _) rfl (.cons (s := .v _) rfl (DS.nos 1))
    refine ⟨.ref x, rfl, x, dx, _, rfl, hx, rfl, x, dx, S, A, SD, bg, RL, ML, rfl, hx, ?_⟩
    refine ⟨.ref t, rfl, t, rfl, ⟨_, SqT.of ht⟩, for_it (walk_tup (K := K) (a := t) (xs := [.str "a"])) (fun j σ' H' => Same H H' ∧ DS K H' σ' [.v (.ref x), .v (.ref t), .no]) ⟨Same.refl H, s0⟩ (fun j σ' H' _ p => SqT.of (p.1 _ _ ht)) (fun j xv σ' H' H'' hj ⟨e, s'⟩ y => ?_) fun σ' H' ⟨e, s'⟩ => ?_⟩
    · obtain ⟨rfl, hxv⟩ := y
      obtain rfl : j = 0 := Nat.lt_one_iff.mp hj
      cases hxv
      have s2 := s'.set (i := 2) (s := .v (.str "a")) (v := .str "a") rfl
      exact ⟨.str "a", s2.v (i := 2) rfl, [.str "a"], .cons (.str "a") .nil, ⟨"a", rfl, nameB_a⟩, fun H3 e3 => ⟨e.trans e3, (s2.wk (ss' := [.v (.ref x), .v (.ref t), .no]) ⟨.inr rfl, .inr rfl, .inl rfl, trivial⟩).mono e3.tp⟩⟩
    · refine ⟨.ref x, s'.v (i := 0) rfl, x, _, dx, _, .ref RL, rfl, e _ _ hx, T.c_Transaction, T.n_Transaction_rows, rfl, .inl ⟨rfl, _, SqL.of (e _ _ hRL)⟩, ?_⟩
      refine ⟨.ref t, s'.v (i := 1) rfl, t, rfl, ⟨_, SqT.of (e _ _ ht)⟩, fun D hD => ?_⟩
      refine lc_it (walk_tup (K := K) (a := t) (xs := [.str "a"])) (fun j H2 => (j = 0 ∧ H2 = upd H' D (.lst [])) ∨ (j = 1 ∧ ∃ u, Same H' H2 ∧ H' u = none ∧ H2 u = some (.tup [.str "listen", .str "a"]) ∧ H2 D = some (.lst [.ref u]))) (.inl ⟨rfl, rfl⟩) (fun j H2 _ p => ?_) (fun j xv H2 H3 hj p y => ?_) (fun H2 p => ?_)
      · rcases p with ⟨_, rfl⟩ | ⟨_, u, e2, _⟩
        · exact SqT.of ((Same.new hD) _ _ (e _ _ ht))
        · exact SqT.of (e2 _ _ (e _ _ ht))
      · obtain ⟨rfl, hxv⟩ := y
        obtain rfl : j = 0 := Nat.lt_one_iff.mp hj
        cases hxv
        rcases p with ⟨_, rfl⟩ | ⟨z, _⟩
        · have hs : ((wipe σ' [2]).set 2 (some (.str "a")))[2]? = some (some (.str "a")) := List.getElem?_set_self (by rw [wipe_length, s'.len]; show 2 < 3; decide)
          refine ⟨wipe_set, (?_ : (_ : Prop))⟩
          refine ⟨.str "a", hs, show 2 ≤ sizeLine by decide, fun u hu => ?_⟩
          have nDu : D ≠ u := fun z => by rw [← z, upd_same] at hu; cases hu
          refine ⟨[], (upd_ne nDu).trans upd_same, show 0 < sizeLine by decide, .inr ⟨rfl, u, KX.Same.upd (KX.Same.upd (Same.new hD) (fun_none hD hu)) hD, fun_none hD hu, (upd_ne nDu.symm).trans upd_same, upd_same⟩⟩
        · cases z
      · rcases p with ⟨z, _⟩ | ⟨_, u, e2, hu, h2, h3⟩
        · cases z
        · have ee := e.trans e2
          refine ⟨RL, D, rs, [.ref u], rfl, rfl, ee _ _ hRL, h3, small1000 (by omega), ?_⟩
          exact q u _ (fun b o hb hn => (upd_ne hn).trans (ee _ _ hb)) (e.free hu) ((upd_ne (ne_of h2 (ee _ _ hRL) (fun z => nomatch z))).trans h2) upd_same
  · intro vs H Q h
    obtain ⟨x, dx, S, A, SD, bg, RL, ML, rs, rfl, hx, hRL, hl, q⟩ := h
    refine ⟨[.ref x], [.str "a"], rfl, rfl, show 1 ≤ sizeLine by decide, fun t ht => ?_⟩
    have e := Same.new (o := HO.tup [.str "a"]) ht
    exact ⟨x, dx, S, A, SD, bg, RL, ML, rs, t, rfl, upd_same, e _ _ hx, e _ _ hRL, hl, fun u H' f hu h1 h2 => q u H' (fun b o hb hn => f _ _ (e _ _ hb) hn) (e.free hu) h1 h2⟩
theorem sc_Transaction_unlisten : FnScope ["self", "channels", "channel"] ["self", "channels"] (defScope s_Transaction_unlisten) := ⟨rfl, rfl, rfl, by decide +kernel, rfl, by decide +kernel, by decide +kernel⟩
theorem ok_Transaction_unlisten (T : Tx w K mg) : FnN P w K mg base 4 m_Transaction_unlisten (fun vs H Q => ∃ x dx S A SD bg RL ML rs, vs = [.ref x, .str "a"] ∧ H x = some (.ins a_Transaction dx (trF S A SD bg RL ML true)) ∧ H RL = some (.lst rs) ∧ rs.length ≤ 900 ∧
    ∀ t H', Fr (· = RL) H H' → H t = none → H' t = some (.tup [.str "unlisten", .str "a"]) → H' RL = some (.lst (rs ++ [.ref t])) → Q .non H') := by
  obtain ⟨fd, F⟩ := T.F_Transaction_unlisten
  refine FnN.imp (F.okStar (k := 3) (sp := fun vs H Q => ∃ x dx S A SD bg RL ML rs q, vs = [.ref x, .ref q] ∧ H q = some (.tup [.str "a"]) ∧ H x = some (.ins a_Transaction dx (trF S A SD bg RL ML true)) ∧ H RL = some (.lst rs) ∧ rs.length ≤ 900 ∧
    ∀ t H', Fr (· = RL) H H' → H t = none → H' t = some (.tup [.str "unlisten", .str "a"]) → H' RL = some (.lst (rs ++ [.ref t])) → Q .non H') (ps := ["self"]) (pv := "channels") rfl sc_Transaction_unlisten (fun kV doc pm an cdv ct => StX.bind_star1 (B := fun l => bindArgs (PySem.W.fnOf d_Transaction_unlisten.name d_Transaction_unlisten.qual (defArgs d_Transaction_unlisten.st) (defBody d_Transaction_unlisten.st) (defScope d_Transaction_unlisten.st) .none kV doc pm an cdv ct) ⟨l, []⟩) (fun _ => rfl) (fun _ _ _ => rfl)) (fun A outer s H vs Q hr h => ⟨_, (pss_cons (ps_expr (pe_mt0 (ok_Transaction_need_open T) (hr.mono (by decide)) T.c_Transaction T.me_Transaction_need_open (pv 0))) (pss_cons (ps_for PassesOwn.never rfl (pi_tup (pv 1)) (pg_name (i := 2) sc_Transaction_unlisten.nd rfl (Or.inl rfl)) (pss_one (ps_expr (pe_cl (ok_need_name T) (hr.mono (by decide)) T.kp_need_name T.g_need_name (pa_cons (pv 2) pa_nil))))) (pss_one (ps_expr (pe_bm PySem.F.plainAttrs_list PySem.F.slot_list_extend PySem.F.type_list_extend mt_extend (pe_fld (pv 0) rfl) (pa_cons (pe_lc (own := [("channel", 2)]) (by rfl) sc_Transaction_unlisten.nd (pi_tup (pv 1)) (blkOk_by (N := ["self", "channels", "channel"]) (sc := defScope s_Transaction_unlisten) (by decide +kernel)) (fun _ _ _ _ _ => by exact (pg_name (i := 2) sc_Transaction_unlisten.nd rfl (Or.inl rfl))) (fun _ _ _ _ _ => pts_nil) (fun _ _ _ _ _ => (pe_tup (pa_cons pe_str (pa_cons (pv 2) pa_nil))))) pa_nil)))))), ?_⟩)) ?_
  · obtain ⟨x, dx, S, A, SD, bg, RL, ML, rs, t, rfl, ht, hx, hRL, hl, q⟩ := h
    have s0 : DS K H (start ["self", "channels", "channel"] [.ref x, .ref t]) [.v (.ref x), .v (.ref t), .no] := .cons (s := .v _) rfl (.cons (s := .v _) rfl (DS.nos 1))
    refine ⟨.ref x, rfl, x, dx, _, rfl, hx, rfl, x, dx, S, A, SD, bg, RL, ML, rfl, hx, ?_⟩
    refine ⟨.ref t, rfl, t, rfl, ⟨_, SqT.of ht⟩, for_it (walk_tup (K := K) (a := t) (xs := [.str "a"])) (fun j σ' H' => Same H H' ∧ DS K H' σ' [.v (.ref x), .v (.ref t), .no]) ⟨Same.refl H, s0⟩ (fun j σ' H' _ p => SqT.of (p.1 _ _ ht)) (fun j xv σ' H' H'' hj ⟨e, s'⟩ y => ?_) fun σ' H' ⟨e, s'⟩ => ?_⟩
    · obtain ⟨rfl, hxv⟩ := y
      obtain rfl : j = 0 := Nat.lt_one_iff.mp hj
      cases hxv
      have s2 := s'.set (i := 2) (s := .v (.str "a")) (v := .str "a") rfl
      exact ⟨.str "a", s2.v (i := 2) rfl, [.str "a"], .cons (.str "a") .nil, ⟨"a", rfl, nameB_a⟩, fun H3 e3 => ⟨e.trans e3, (s2.wk (ss' := [.v (.ref x), .v (.ref t), .no]) ⟨.inr rfl, .inr rfl, .inl rfl, trivial⟩).mono e3.tp⟩⟩
    · refine ⟨.ref x, s'.v (i := 0) rfl, x, _, dx, _, .ref RL, rfl, e _ _ hx, T.c_Transaction, T.n_Transaction_rows, rfl, .inl ⟨rfl, _, SqL.of (e _ _ hRL)⟩, ?_⟩
      refine ⟨.ref t, s'.v (i := 1) rfl, t, rfl, ⟨_, SqT.of (e _ _ ht)⟩, fun D hD => ?_⟩
      refine lc_it (walk_tup (K := K) (a := t) (xs := [.str "a"])) (fun j H2 => (j = 0 ∧ H2 = upd H' D (.lst [])) ∨ (j = 1 ∧ ∃ u, Same H' H2 ∧ H' u = none ∧ H2 u = some (.tup [.str "unlisten", .str "a"]) ∧ H2 D = some (.lst [.ref u]))) (.inl ⟨rfl, rfl⟩) (fun j H2 _ p => ?_) (fun j xv H2 H3 hj p y => ?_) (fun H2 p => ?_)
      · rcases p with ⟨_, rfl⟩ | ⟨_, u, e2, _⟩
        · exact SqT.of ((Same.new hD) _ _ (e _ _ ht))
        · exact SqT.of (e2 _ _ (e _ _ ht))
      · obtain ⟨rfl, hxv⟩ := y
        obtain rfl : j = 0 := Nat.lt_one_iff.mp hj
        cases hxv
        rcases p with ⟨_, rfl⟩ | ⟨z, _⟩
        · have hs : ((wipe σ' [2]).set 2 (some (.str "a")))[2]? = some (some (.str "a")) := List.getElem?_set_self (by rw [wipe_length, s'.len]; show 2 < 3; decide)
          refine ⟨wipe_set, (?_ : (_ : Prop))⟩
          refine ⟨.str "a", hs, show 2 ≤ sizeLine by decide, fun u hu => ?_⟩
          have nDu : D ≠ u := fun z => by rw [← z, upd_same] at hu; cases hu
          refine ⟨[], (upd_ne nDu).trans upd_same, show 0 < sizeLine by decide, .inr ⟨rfl, u, KX.Same.upd (KX.Same.upd (Same.new hD) (fun_none hD hu)) hD, fun_none hD hu, (upd_ne nDu.symm).trans upd_same, upd_same⟩⟩
        · cases z
      · rcases p with ⟨z, _⟩ | ⟨_, u, e2, hu, h2, h3⟩
        · cases z
        · have ee := e.trans e2
          refine ⟨RL, D, rs, [.ref u], rfl, rfl, ee _ _ hRL, h3, small1000 (by omega), ?_⟩
          exact q u _ (fun b o hb hn => (upd_ne hn).trans (ee _ _ hb)) (e.free hu) ((upd_ne (ne_of h2 (ee _ _ hRL) (fun z => nomatch z))).trans h2) upd_same
  · intro vs H Q h
    obtain ⟨x, dx, S, A, SD, bg, RL, ML, rs, rfl, hx, hRL, hl, q⟩ := h
    refine ⟨[.ref x], [.str "a"], rfl, rfl, show 1 ≤ sizeLine by decide, fun t ht => ?_⟩
    have e := Same.new (o := HO.tup [.str "a"]) ht
    exact ⟨x, dx, S, A, SD, bg, RL, ML, rs, t, rfl, upd_same, e _ _ hx, e _ _ hRL, hl, fun u H' f hu h1 h2 => q u H' (fun b o hb hn => f _ _ (e _ _ hb) hn) (e.free hu) h1 h2⟩
end
end KX
set_option maxHeartbeats 4000000
namespace KX
open PySem PySem.Spec PyProof.Rows L2
/-- the words said -/
def saidW (rows : List Row) : List Str := rows.filterMap fun r => match r with | .say z => some z | _ => none
theorem saidW_snoc {rows : List Row} {r : Row} : saidW (rows ++ [r]) = saidW rows ++ (match r with | .say z => [z] | _ => []) := by
  unfold saidW
  rw [List.filterMap_append]
  cases r <;> rfl
theorem saidW_len (rows : List Row) : (saidW rows).length ≤ rows.length := List.length_filterMap_le _ _
section
variable {P : Program} {w : World} {K : PySem.W.Frag} {mg : Str → Option Value} {base : Heap} {p : Addr}
theorem sc_Transaction_batch : FnScope ["self", "said", "row"] ["self"] (defScope s_Transaction_batch) := ⟨rfl, rfl, rfl, by decide +kernel, rfl, by decide +kernel, by decide +kernel⟩
theorem ok_Transaction_batch (T : Tx w K mg) : FnN P w K mg base 5 m_Transaction_batch (fun vs H Q => ∃ x dx S A SD bg RL ML dS rule C M PL QL rs rows, vs = [.ref x] ∧ H x = some (.ins a_Transaction dx (trF S A SD bg RL ML true)) ∧ H S = some (.ins a_Store dS (stF rule C M PL QL)) ∧ rule ∈ rules ∧ H RL = some (.lst rs) ∧ Paired (RowV H) rs rows ∧ rows.length ≤ 900 ∧ (∀ z ∈ saidW rows, z ∈ wwords) ∧
    ∀ b H', Same H H' → H b = none → BatAt K H' b rule (foldW rule (saidW rows)) → Q (.ref b) H') := by
  obtain ⟨fd, F⟩ := T.F_Transaction_batch
  refine F.okN rfl sc_Transaction_batch (fun _ _ _ _ _ _ us hl => match us, hl with | [_], _ => rfl) (fun vs H Q h => ?_) (fun A outer s H vs Q hr h => ⟨_, (pss_cons (ps_expr (pe_mt0 (ok_Transaction_need_open T) (hr.mono (by decide)) T.c_Transaction T.me_Transaction_need_open (pv 0))) (pss_cons (ps_setLc (i := 1) (own := [("row", 2)]) (tt := tTest (tOp rEq (tOp (rIxT K) (tVar 2) (tC (.int 0))) (tC (.str "say")))) (te := tOp (rIxT K) (tVar 2) (tC (.int 1))) (by rfl) sc_Transaction_batch.nd rfl rfl (sw_true rfl rfl rfl (by decide +kernel)) (pi_list (pe_fld (pv 0) rfl)) (blkOk_by (N := ["self", "said", "row"]) (sc := defScope s_Transaction_batch) (by decide +kernel)) (fun _ _ _ _ _ => by exact (pg_name (i := 2) sc_Transaction_batch.nd rfl (Or.inl rfl))) (fun _ _ _ _ _ => pts_one (pt_cmpR op_eq (pe_ix ix_tup (pv 2) pe_int (fun _ _ => rfl)) pe_str (nomark _))) (fun _ _ _ _ _ => (pe_ix ix_tup (pv 2) pe_int (fun _ _ => rfl)))) (pss_one (ps_ret (pe_mkS (ok_Batch_D_init_D T) (hr.mono (by decide)) T.mk_Batch T.g_Batch (pa_cons (pe_fld (pe_fld (pv 0) rfl) rfl) (StX.pa_star (pv 1) pa_nil))))))), ?_⟩)
  · obtain ⟨x, dx, S, A, SD, bg, RL, ML, dS, rule, C, M, PL, QL, rs, rows, rfl, _⟩ := h
    rfl
  obtain ⟨x, dx, S, A, SD, bg, RL, ML, dS, rule, C, M, PL, QL, rs, rows, rfl, hx, hS, hru, hRL, hrw, hl, hw, q⟩ := h
  refine ⟨.ref x, rfl, x, dx, _, rfl, hx, rfl, x, dx, S, A, SD, bg, RL, ML, rfl, hx, ?_⟩
  refine ⟨.ref x, rfl, x, _, dx, _, .ref RL, rfl, hx, T.c_Transaction, T.n_Transaction_rows, rfl, RL, rfl, ⟨rs, SqL.of hRL⟩, fun D hD => ?_⟩
  have hlen := Paired.length hrw
  have ix0 : ∀ {v : V} {r : Row} {H2 : Hp} {σ2 : L2.St} {R : VK}, RowV H2 v r → σ2[2]? = some (some v) → R (.str r.kind) H2 → tOp (rIxT K) (tVar 2) (tC (.int 0)) σ2 H2 R := fun rv hs R => by
    obtain ⟨t, xs, rfl, ht, e0⟩ := rv.kind
    exact ⟨_, hs, t, xs, 0, _, rfl, rfl, SqT.of ht, e0, R⟩
  refine lc_it (walk_list (K := K) (a := RL) (xs := rs)) (fun j H2 => Same H H2 ∧ ∃ vs, H2 D = some (.lst vs) ∧ NoL H2 vs (saidW (rows.take j))) ⟨Same.new hD, [], upd_same, .nil⟩ (fun j H2 _ p => SqL.of (p.1 _ _ hRL)) (fun j xv H2 H3 hj p y => ?_) (fun H2 p => ?_)
  · obtain ⟨rfl, hxv⟩ := y
    obtain ⟨e, vs, hv, nv⟩ := p
    obtain ⟨r, er, rv⟩ := pairedR hrw hxv
    have rv := rv.mono e
    have tk1 : rows.take (j + 1) = rows.take j ++ [r] := by rw [List.take_add_one, er]; rfl
    have hlv := Paired.length nv
    have hjr : (saidW (rows.take j)).length ≤ 900 := Nat.le_trans (saidW_len _) (Nat.le_trans (List.length_take_le _ _) (by omega))
    have hs : ((wipe (L2.start ["self", "said", "row"] [.ref x]) [2]).set 2 (some xv))[2]? = some (some xv) := rfl
    refine ⟨rfl, ix0 rv hs ⟨rfl, _, rfl, ?_⟩⟩
    cases r with
    | say z =>
      obtain ⟨t, n, rfl, h2, h3⟩ := rv
      refine iteT ⟨_, hs, t, _, 1, _, rfl, rfl, SqT.of h2, rfl, vs, hv, small1000 (by omega), KX.Same.upd e hD, vs ++ [.ref n], upd_same, ?_⟩
      rw [tk1, saidW_snoc]
      have ho : ∀ {y c z}, NotAt H3 y c z → NotAt (upd H3 D (.lst (vs ++ [.ref n]))) y c z := fun ⟨d, h⟩ => ⟨d, (upd_ne (ne_of h hv (fun z => nomatch z))).trans h⟩
      exact Paired.snoc (Paired.mapP nv fun _ _ ⟨y, e1, n⟩ => ⟨y, e1, ho n⟩) ⟨n, rfl, ho h3⟩
    | set z => exact iteF ⟨e, vs, hv, by rw [tk1, saidW_snoc, List.append_nil]; exact nv⟩
    | lis => exact iteF ⟨e, vs, hv, by rw [tk1, saidW_snoc, List.append_nil]; exact nv⟩
    | unl => exact iteF ⟨e, vs, hv, by rw [tk1, saidW_snoc, List.append_nil]; exact nv⟩
  · obtain ⟨e, vs, hv, nv⟩ := p
    rw [hlen, List.take_length] at nv
    have hlv := Paired.length nv
    have hl9 := saidW_len rows
    refine ⟨.ref x, rfl, x, _, dx, _, .ref S, rfl, e _ _ hx, T.c_Transaction, T.n_Transaction_store, rfl, S, _, dS, _, .str rule, rfl, e _ _ hS, T.c_Store, T.n_Store_rule, rfl, .ref D, rfl, D, vs, rfl, .inr (SqL.of hv), fun b db hb hdb ne => ?_⟩
    have hb2 : upd H2 db (.own b) b = none := (upd_ne ne.symm).trans hb
    have e2 : Same H2 (upd (upd H2 db (.own b)) b (.ins a_Batch db [])) := (Same.new hdb).trans (Same.new hb2)
    refine ⟨[.ref b, .str rule], vs, by simp, rfl, Nat.le_of_lt (small1000 (by omega)), fun t ht => ?_⟩
    have e3 := Same.new (o := HO.tup vs) ht
    refine ⟨b, db, rule, t, vs, saidW rows, rfl, e3 _ _ upd_same, SqT.of upd_same, nv.mono (e2.trans e3), hru, hw, by omega, fun H' fr bt => ⟨rfl, q b H' (fun a o ha => ?_) (e.free hb) bt⟩⟩
    refine fr a o (e3 _ _ (e2 _ _ (e _ _ ha))) (fun z => ?_)
    have hb0 := e.free hb
    rw [z, hb0] at ha
    cases ha
end
end KX
set_option maxHeartbeats 4000000
namespace KX
open PySem PySem.Spec PyProof.Rows L2
section
variable {X : Cx}
/-! ### x = {k: v for ..} -/
theorem swd_true {kx vx : Expr} {gs : List Comprehension} {scope : Scope} {pos py : Pos} {y : Str} {l : Nat} {env : Env} (hk : env.scope.kind = .function) (hy : env.scope.names.lookup y = some .local) (hl : (py.line == pos.line) = true)
    (ha : (scope.names.any fun (n, k) => n == y && (k == .local || k == .cell)) = false) : swapsWith (.DictComp kx vx gs scope pos) (some (.Name y py)) l env = pure true := by
  have ky : env.kindOf y = some .local := hy
  have hb : env.blockKind = .function := by unfold Env.blockKind; rw [hk]; rfl
  unfold swapsWith
  simp only [hb, ky, ha, Expr.pos, hl]
  rfl
theorem ps_setDc {i : Nat} {y : Str} {py : Pos} {kx vx tg iter : Expr} {ifs : List Expr} {scope : Scope} {own : List (Str × Nat)} {pos spos : Pos} {wi : TI} {g : TG} {tt : TT} {tk tv : TE} (hc : X.calm = true) (hN : X.N.Nodup) (hy : X.N[i]? = some y) (hyl : X.env.scope.names.lookup y = some .local)
    (hsw : swapsWith (.DictComp kx vx [⟨tg, iter, ifs, 0⟩] scope pos) (some (.Name y py)) spos.line X.env = pure true) (hi : PI X tg iter wi) (ok : BlkOk X.N X.env.scope scope own)
    (hg : ∀ (s : Shared) (H : Hp) (C : Addr) (cl : List (Str × Addr)) (fp : List Addr), PG (X.blk s H scope (compEnvC scope cl C X.env) fp) tg g) (ht : ∀ (s : Shared) (H : Hp) (C : Addr) (cl : List (Str × Addr)) (fp : List Addr), PTs (X.blk s H scope (compEnvC scope cl C X.env) fp) ifs tt)
    (hk : ∀ (s : Shared) (H : Hp) (C : Addr) (cl : List (Str × Addr)) (fp : List Addr), PE (X.blk s H scope (compEnvC scope cl C X.env) fp) kx tk)
    (he : ∀ (s : Shared) (H : Hp) (C : Addr) (cl : List (Str × Addr)) (fp : List Addr), PE (X.blk s H scope (compEnvC scope cl C X.env) fp) vx tv) (hs : ∀ x, foldedSetIterable iter X.env x = pure x := by intro _; rfl) :
    PS X (.Assign [.Name y py] (.DictComp kx vx [⟨tg, iter, ifs, 0⟩] scope pos) spos) (tAsg (tDc wi g tt tk tv (own.map (·.2))) (gName i)) := by
  refine ⟨fun pins s σ H D I h => ?_⟩
  rw [exec_Assign_Name_used _ _ _ _ hsw]
  refine wpAny_bind (wpAny_standAt (wpAny_bind ?_))
  show wpAny _ X.A (do let _ ← comprehension (.DictComp kx vx [⟨tg, iter, ifs, 0⟩] scope pos) scope X.env (firstIterPos [⟨tg, iter, ifs, 0⟩] pos) newDict false (eval iter X.env) (some (assign (.Name y py) X.env))) _ _ s
  have h : tDc wi g tt tk tv (own.map (·.2)) σ H (fun x H1 => gName i x σ H1 D.nx) := h
  refine wpAny_bind (thn (dc_core (Qf := fun _ s' => SP X pins D .next s') hc hN I hi ok hg ht hk he hs h fun L C s' m H' I' q hn f => ?_) fun _ s' hq => wpAny_pure (wpAny_pure hq))
  show wpAny _ _ (assign (.Name y py) X.env (.ref L)) _ _ _
  refine wpAny_assign_Name (store_ok2 (v := V.ref L) I' hN hy (.inl hyl) rfl (fun s2 I2 ⟨a, sb, ha⟩ => ?_) (.inr hyl))
  obtain ⟨f0, f1, f2, f3, f4, f5⟩ := f
  have haC : C ≠ a := by
    rcases ha with z | z
    · rw [z]; exact f1
    · exact fun e => f4 y a z e.symm
  refine ⟨m, hn.sameBut sb haC, fun h3 sb3 => ?_⟩
  exact ⟨_, H', I2.turned (t' := s2.toks) (fun b o hb e => (sb3.2 b hb).trans e) f0 f1 f3 f4 f5, q⟩
end
/-! ### behind a lock -/
theorem lock_back {H H' : Hp} {d : Addr} {u : HO} {od : Obj} (hd : H d = some u) (e : Same (upd H d (.frz od u)) H') : Same H (upd H' d u) := fun b o h => by
  by_cases hb : b = d
  · subst hb
    rw [upd_same, ← hd]
    exact h
  · exact (upd_ne hb).trans (e b o ((upd_ne hb).trans h))
theorem lock_in {H : Hp} {d b : Addr} {o u u' : HO} (hd : H d = some u) (hb : H b = some o) (n : o ≠ u) : upd H d u' b = some o := (upd_ne (fun z => by
  rw [z, hd] at hb
  exact n (Option.some.inj hb).symm)).trans hb
theorem lock_free {H : Hp} {d b : Addr} {u : HO} (h : upd H d u b = none) : H b = none := by
  by_cases hb : b = d
  · rw [hb, upd_same] at h
    cases h
  · exact (upd_ne hb).symm.trans h
/-! ### operators of a class of one's own -/
section
variable {X : Cx} {k : Nat} {f C : Addr} {sp : SpN}
/-- o[i] = v by the class's own def -/
def rSetO (C : Addr) (sp : SpN) : TSet := fun o i v H Q => ∃ a dx fs, o = .ref a ∧ H a = some (.ins C dx fs) ∧ sp [.ref a, i, v] H (fun _ H' => Q H')
theorem set_own (F : FnN X.prog X.w X.K X.mg X.base k f sp) (hr : Room k X.A) (hq : PySem.W.noSeq X.K C = true) (hs : PySem.W.findIn X.K (.ref C) "__setitem__" = some (some (.ref f))) (hf : PySem.W.isFn X.K (.ref f) = true) : PSet X (rSetO C sp) := by
  intro pins s σ H o i v ov iv u Q I ro ri rv h
  obtain ⟨a, dx, fs, rfl, ha, q⟩ := h
  cases ro
  obtain ⟨mA, O, _⟩ := ins_get I.hok ha
  obtain ⟨od, J, _⟩ := O.look
  obtain ⟨m, fr⟩ := I.fr
  refine PySem.W.ksp_setItem fr I.ok.mod.kin J hq hs hf (thn (wpAny_call (run_fnR (E := E0) (Q := fun _ H' => Q H') (us := [.ref a, iv, u]) (vs := [.ref a, i, v]) F hr pass0 I (.cons rfl (.cons ri (.cons rv .nil))) q)) fun w s' h' => ?_)
  obtain ⟨x, H', I', _, q'⟩ := h'
  exact ⟨H', I', q'⟩
/-- a += b by the class's own def, which gives an object -/
def rInO (C : Addr) (sp : SpN) : TIp := fun x y H Q => ∃ a dx fs, x = .ref a ∧ H a = some (.ins C dx fs) ∧ sp [.ref a, y] H (fun v H' => ∃ b, v = .ref b ∧ Q v H')
theorem ip_own {op : Operator} (F : FnN X.prog X.w X.K X.mg X.base k f sp) (hr : Room k X.A) (hc : PySem.W.selfFirst X.K C = true) (hs : PySem.W.findIn X.K (.ref C) (dunderI op.info.2) = some (some (.ref f))) (hf : PySem.W.isFn X.K (.ref f) = true) : PIp X op (rInO C sp) := by
  intro pins s σ H x y v u Q I rx ry h
  obtain ⟨a, dx, fs, rfl, ha, q⟩ := h
  cases rx
  obtain ⟨mA, O, _⟩ := ins_get I.hok ha
  obtain ⟨od, J, _⟩ := O.look
  obtain ⟨m, fr⟩ := I.fr
  refine PySem.W.ksp_inplace fr I.ok.mod.kin J hc hs hf (thn (wpAny_call (run_fnR (E := E0) (us := [.ref a, u]) (vs := [.ref a, y]) F hr pass0 I (.cons rfl (.cons ry .nil)) q)) fun w s' h' => ?_)
  obtain ⟨z, H', I', r', b, rfl, q'⟩ := h'
  cases r'
  exact ⟨.ref b, H', I', rfl, q'⟩
/-- len(a) by the class's own def -/
def rLenO (C : Addr) (sp : SpN) : List V → Hp → VK → Prop := fun vs H Q => ∃ a dx fs, vs = [.ref a] ∧ H a = some (.ins C dx fs) ∧ sp [.ref a] H (fun v H' => ∃ n : Nat, v = .int n ∧ n < 2 ^ 62 ∧ Q v H')
theorem call_lenO (F : FnN X.prog X.w X.K X.mg X.base k f sp) (hr : Room k X.A.in1) (hs : PySem.W.findIn X.K (.ref C) "__len__" = some (some (.ref f))) (hf : PySem.W.isFn X.K (.ref f) = true) : CallR X (.builtin "len") (rLenO C sp) := by
  intro pins s σ H vs us Q I r h
  obtain ⟨a, dx, fs, rfl, ha, q⟩ := h
  rw [Vals.ref1 r]
  obtain ⟨mA, O, _⟩ := ins_get I.hok ha
  obtain ⟨od, J, _⟩ := O.look
  obtain ⟨m, fr⟩ := I.fr
  refine PySem.W.len_K fr I.ok.mod.kin J hs hf ?_
  refine wpAny_call (codeAny_mono (F X.A.in1 X.stack s H [.ref a] [.ref a] _ E0 hr I.env0.in1 (.cons rfl .nil) q) fun r s' hq => ?_)
  cases r with
  | error er => exact False.elim hq
  | ok fl =>
    cases fl with
    | ret w =>
      obtain ⟨v, H', I3, rv, n, rfl, hn, q3⟩ := I.after hq
      obtain ⟨t, rfl⟩ := rv
      exact ⟨⟨by omega, by omega⟩, V.int n, H', I3.tok _, ⟨_, rfl⟩, q3⟩
    | next => exact False.elim hq
    | brk => exact False.elim hq
    | cont => exact False.elim hq
end
/-! ### a keyword-only parameter with its default -/
theorem FunC.okKw {P : Program} {w : World} {K : PySem.W.Frag} {mg : Str → Option Value} {base : Heap} {k n : Nat} {sp : SpN} {d : FD} {fd : FuncData} {N ps : List Str} {x : Str} {i : Int} (F : FunC K d fd) (hc : d.clo = []) (S : FnScope N ps (defScope d.st)) (hk : bKw d.at_ x i K = true) (hn : n + 1 = ps.length)
    (hb : ∀ (D : Addr) (doc pm : Value) (an : Option Addr) (cdv ct : Value) (us ks : List Value), us.length = n → ks.length = 1 →
      KwChain D (([x] : List Str).zip ks) (bindArgs (PySem.W.fnOf d.name d.qual (defArgs d.st) (defBody d.st) (defScope d.st) .none (.ref D) doc pm an cdv ct) ⟨us, []⟩) (ps.zip (us ++ ks)))
    (len : ∀ vs H Q, sp vs H Q → vs.length = ps.length)
    (hbody : ∀ (A : Around) (outer : List Env) (s : Shared) (H : Hp) (vs : List V) (Q : VK), Room k (A.deeper (envOfC d.qual (defScope d.st) s.heap.objs.size d.at_ (.ref d.code))) → sp vs H Q →
      ∃ t, PSs (bcx P w K mg base N d A outer s H) (defBody d.st) t ∧ t { nx := fun _ H' => Q .non H', rt := Q } (start N vs) H) : FnN P w K mg base (k + 1) d.at_ (fun vs H Q => sp (vs ++ [.int i]) H Q) := by
  obtain ⟨od, kV, doc, pm, an, ct, osl, rfl, lk, hcd⟩ := F.ex
  rw [hc] at lk
  have FD : FunD K d.name d.qual (defArgs d.st) (defBody d.st) (defScope d.st) [] [(x, V.int i)] d.at_ (PySem.W.fnOf d.name d.qual (defArgs d.st) (defBody d.st) (defScope d.st) .none kV doc pm an (.ref d.code) ct) :=
    ⟨⟨_, od, .none, kV, doc, pm, an, .ref d.code, ct, osl, rfl, lk, hcd, .inl ⟨rfl, rfl⟩, bKw_ok hk lk⟩, F.kp⟩
  have G : FnOk P w K mg base CX0 (k + 1) d.at_ (PySem.W.fnOf d.name d.qual (defArgs d.st) (defBody d.st) (defScope d.st) .none kV doc pm an (.ref d.code) ct) ps (fun vs H Q _ => sp vs H Q) :=
    fn_of lk hcd S (fun vs H Q _ h => len vs H Q h) fun A outer s H vs Q E hr hsp => by
      obtain ⟨t, h, q⟩ := hbody A outer s H vs Q hr hsp
      exact ⟨t, PSs.nox ⟨h.run⟩, q⟩
  obtain ⟨ds, rd, bd⟩ := FD.binds0 n (by simp) hn hb
  have e := rd.length
  exact FnOk.raw G bd rd
/-! ### d.get(k, x) of a dict of the written part, there -/
def tKGet2 (K : PySem.W.Frag) (d : Addr) (td ty tx : TE) : TE := fun σ H Q => td σ H fun x H1 => x = .ref d ∧ ty σ H1 fun y H2 => tx σ H2 fun _ H3 => ∃ (k : Str) (u0 : Value) (v0 : V), y = .str k ∧ PySem.W.nsIn K d k = some (some u0) ∧ RelV v0 u0 ∧ Q v0 H3
theorem pe_kget2 {X : Cx} {o e f : Expr} {td ty tx : TE} {apos cpos : Pos} {d : Addr} {es : Array DictEntry} {n : Nat} (D : KDict X.K X.w d es n) (ho : PE X o td) (he : PE X e ty) (hf : PE X f tx) (m : M2 X o "get" apos e f cpos) : PE X (.Call (.Attribute o "get" apos) [e, f] [] cpos) (tKGet2 X.K d td ty tx) := by
  refine ⟨fun pins s σ H Q I h => ?_⟩
  refine wpAny_Call_method m.base m.few m.line PySem.F.plainAttrs_dict PySem.F.slot_dict_get PySem.F.type_dict_get (thn (ho.run pins s σ H _ I h) fun u s1 ⟨x, H1, I1, rx, ex, q1⟩ => ?_)
  subst ex
  obtain rfl : u = Value.ref d := rx
  refine ⟨kd_type D I1, (PySem.W.mapOf_K (prog := X.prog) (w := X.w) I1.kIn D.at_ D.lit).noDict, ?_⟩
  rw [m.trees]
  refine Calls.callWith_builtin rfl (Calls.evalArgs_plain (Calls.spliced_cons (thn (he.run pins s1 σ H1 _ I1 q1) fun iv s2 ⟨y, H2, I2, ry, q2⟩ =>
    Calls.spliced_cons (thn (hf.run pins s2 σ H2 _ I2 q2) fun fv s3 ⟨z, H3, I3, rz, k, u0, v0, ey, hn, r0, q3⟩ => Calls.spliced_nil ?_))))
  subst ey
  obtain ⟨t, rfl⟩ := ry
  have M := PySem.W.mapOf_K (prog := X.prog) (w := X.w) I3.kIn D.at_ D.lit
  refine call_meetsIn PySem.F.slot_dict_get M.typeIs PySem.F.entry_dict_get (PySem.F.args_dict_get_3 _ _ _) (meets_dict_get_default (PySem.strKind X.prog X.w) d (PySem.strKind_is X.prog X.w k t) D.low fv) ⟨_, M, v0, H3, I3.tok _, ?_, q3⟩
  rw [PySem.W.find_K D.at_ hn]
  exact r0
end KX
set_option maxHeartbeats 4000000
namespace KX
open PySem PySem.Spec PyProof.Rows L2
def oneI : Option Nat → List (L2.Key × V)
  | none => []
  | some n => [(.inr "a", .int (n : Nat))]
def posV : Option Nat → V
  | none => .non
  | some n => .int (n : Nat)
def keepS (wish : Option Str) (st : Option Nat) : Option Nat := if wish = some ("unlisten" : Str) then none else st
def keepP (wish : Option Str) (st pos : Option Nat) : Option Nat := match keepS wish st with | none => none | some _ => pos
def behS (wish : Option Str) (st : Option Nat) (n : Nat) : Option Nat := if wish = some ("listen" : Str) then some ((keepS wish st).getD n) else keepS wish st
def behP (wish : Option Str) (st pos : Option Nat) (n : Nat) : Option Nat := if wish = some ("listen" : Str) then (match keepS wish st with | none => some ((keepP wish st pos).getD n) | some _ => keepP wish st pos) else keepP wish st pos
theorem oneK_get (o : Option Str) (z : Str) : (valV (oneK o) (.inr "a" : L2.Key)).getD (.str z) = .str (o.getD z) := by
  cases o <;> simp [valV, oneK, List.find?]
theorem oneI_get (o : Option Nat) : valV (oneI o) (.inr "a" : L2.Key) = o.map fun n => .int (n : Nat) := by
  cases o <;> simp [valV, oneI, List.find?]
theorem putK_oneI {o : Option Nat} {n : Nat} : putK (oneI o) (.inr "a" : L2.Key) (.int (n : Nat)) = oneI (some n) := by
  cases o <;> simp [putK, oneI]
theorem one_room {α : Type} {l : List α} (h : l.length ≤ 1) : l.length < sizeLine := Nat.lt_of_le_of_lt h (Nat.lt_of_lt_of_le (by decide : 1 < 2) (show 2 ≤ sizeLine by decide))
theorem oneI_len (o : Option Nat) : (oneI o).length ≤ 1 := by cases o <;> simp [oneI]
section
variable {P : Program} {w : World} {K : PySem.W.Frag} {mg : Str → Option Value} {base : Heap} {p : Addr}
theorem sc_Listener_behind : FnScope ["self", "wishes", "total", "starts", "position", "name", "wish", "at"] ["self", "wishes"] (defScope s_Listener_behind) := ⟨rfl, rfl, rfl, by decide +kernel, rfl, by decide +kernel, by decide +kernel⟩
theorem ok_Listener_behind (T : Tx w K mg) : FnN P w K mg base 1 m_Listener_behind (fun vs H Q => ∃ A dA S nm wk D pos dS rule C M PL QL W wish st qs, vs = [.ref A, .ref W] ∧ H A = some (.ins a_Client dA (cliF S nm wk D (posV pos))) ∧ H D = some (.dK (oneI st)) ∧ H S = some (.ins a_Store dS (stF rule C M PL QL)) ∧ H QL = some (.lst qs) ∧ H W = some (.dK (oneK wish)) ∧ D ≠ W ∧
    (wish = none ∨ wish = some ("listen" : Str) ∨ wish = some ("unlisten" : Str)) ∧ ∀ t D2 H', Same H H' → H D2 = none → H' D2 = some (.dK (oneI (behS wish st qs.length))) → H t = none → H' t = some (.tup [.ref D2, posV (behP wish st pos qs.length)]) → Q (.ref t) H') := by
  obtain ⟨fd, F⟩ := T.F_Listener_behind
  refine F.okN rfl sc_Listener_behind (fun _ _ _ _ _ _ us hl => match us, hl with | [_, _], _ => rfl) (fun vs H Q h => ?_) (fun A outer s H vs Q hr h => ⟨_, (pss_cons (ps_set (i := 2) sc_Listener_behind.nd rfl (Or.inl rfl) (pe_callB call_len_seq (by rfl) T.z_len PySem.boot_len (pa_cons (pe_fld (pe_fld (pv 0) rfl) rfl) pa_nil))) (pss_cons (ps_lock (ps_setDc (i := 3) (own := [("name", 5), ("at", 7)]) (g := gTup K 2 (gCons (gName 5) (gCons (gName 7) gNil))) (by rfl) sc_Listener_behind.nd rfl rfl (swd_true rfl rfl rfl (by decide +kernel)) (pi_items (pe_fld (pv 0) rfl)) (blkOk_by (N := ["self", "wishes", "total", "starts", "position", "name", "wish", "at"]) (sc := defScope s_Listener_behind) (by decide +kernel)) (fun _ _ _ _ _ => by exact (pg_tup rfl (pgs_cons (pg_name (i := 5) sc_Listener_behind.nd rfl (Or.inl rfl)) (pgs_cons (pg_name (i := 7) sc_Listener_behind.nd rfl (Or.inl rfl)) pgs_nil)))) (fun _ _ _ _ _ => pts_one (pt_cmpR op_ne (pe_dget2 (hu_of hr) (pv 1) (pv 5) pe_str ⟨rfl, by rfl, rfl, rfl⟩) pe_str (nomark _))) (fun _ _ _ _ _ => (pv 5)) (fun _ _ _ _ _ => (pv 7)))) (pss_cons (ps_set (i := 4) sc_Listener_behind.nd rfl (Or.inl rfl) (pe_ifExp (pt_cmpR op_gt (pe_callB call_lenD (by rfl) T.z_len PySem.boot_len (pa_cons (pv 3) pa_nil)) pe_int (nomark _)) (pe_fld (pv 0) rfl) pe_non)) (pss_cons (ps_lock (ps_for PassesOwn.never rfl (pi_items (pv 1)) (pg_tup rfl (pgs_cons (pg_name (i := 5) sc_Listener_behind.nd rfl (Or.inl rfl)) (pgs_cons (pg_name (i := 6) sc_Listener_behind.nd rfl (Or.inl rfl)) pgs_nil))) (pss_one (ps_if (PW.pt (pw_and (pt_cmpR op_eq (pv 6) pe_str (nomark _)) (pw_and1 (pt_cmp (pc_dnotin (hu_of hr) (pv 5) (pv 3)))))) (pss_cons (ps_dput (hu_of hr) (pv 3) (pv 5) (pv 2) rfl) (pss_one (ps_set (i := 4) sc_Listener_behind.nd rfl (Or.inl rfl) (pe_ifExp (pt_cmpR op_isN (pv 4) pe_non (nomark _)) (pv 2) (pv 4))))) pss_nil)))) (pss_one (ps_ret (pe_tup (pa_cons (pv 3) (pa_cons (pv 4) pa_nil))))))))), ?_⟩)
  · obtain ⟨A, dA, S, nm, wk, D, pos, dS, rule, C, M, PL, QL, W, wish, st, qs, rfl, _⟩ := h
    rfl
  obtain ⟨A, dA, S, nm, wk, D, pos, dS, rule, C, M, PL, QL, W, wish, st, qs, rfl, hA, hD, hS, hQL, hW, hDW, hwish, q⟩ := h
  refine ⟨.ref A, rfl, A, _, dA, _, .ref S, rfl, hA, T.c_Client, T.n_Client_store, rfl, S, _, dS, _, .ref QL, rfl, hS, T.c_Store, T.n_Store_queue, rfl, QL, qs, rfl, .inl (SqL.of hQL), ?_⟩
  refine ⟨D, _, hD, trivial, fun od => ?_⟩
  have hA1 : upd H D (.frz od (.dK (oneI st))) A = some (.ins a_Client dA (cliF S nm wk D (posV pos))) := lock_in hD hA (fun z => nomatch z)
  have hW1 : upd H D (.frz od (.dK (oneI st))) W = some (.dK (oneK wish)) := (upd_ne hDW.symm).trans hW
  refine ⟨.ref A, rfl, A, _, dA, _, .ref D, rfl, hA1, T.c_Client, T.n_Client_starts, rfl, D, od, oneI st, rfl, upd_same, fun E hE => ?_⟩
  have hED : E ≠ D := fun z => by rw [z, upd_same] at hE; cases hE
  refine dc_it walk_items (fun j H' => Same (upd H D (.frz od (.dK (oneI st)))) H' ∧ H' E = some (.dK (oneI (if j = 0 then none else keepS wish st)))) ⟨Same.new hE, upd_same⟩ (fun j H' _ p => p.1 _ _ upd_same) (fun i x H2 H3 hi p y => ?_) (fun H2 p => ?_)
  · obtain ⟨T0, a, b, rfl, hT, rfl, ha, hb⟩ := y
    cases st with
    | none => exact absurd hi (Nat.not_lt_zero i)
    | some n0 =>
      obtain rfl : i = 0 := Nat.lt_one_iff.mp hi
      cases ha
      cases hb
      obtain ⟨e, pE⟩ := p
      have sn := Same.new (o := HO.tup [kV (.inr "a"), .int (n0 : Nat)]) hT
      have e := e.trans sn
      refine ⟨T0, _, rfl, SqT.of upd_same, rfl, _, _, rfl, _, _, rfl, rfl, ?_⟩
      refine ⟨rfl, .ref W, rfl, W, rfl, .inl ⟨_, .inl (e _ _ hW1)⟩, .str "a", rfl, _, DGet.k (k := .inr "a") (e _ _ hW1), ?_⟩
      rw [oneK_get]
      refine ⟨rfl, _, rfl, ?_⟩
      by_cases hu : wish = some ("unlisten" : Str)
      · subst hu
        refine iteF ⟨e, ?_⟩
        rw [if_neg (Nat.succ_ne_zero 0), keepS, if_pos rfl]
        exact sn _ _ pE
      · have hne : ¬ wish.getD "" = ("unlisten" : Str) := fun z => by
          rcases hwish with h | h | h
          · rw [h] at z
            exact absurd z (by decide +kernel)
          · rw [h] at z
            exact absurd z (by decide +kernel)
          · exact hu h
        have hb : (!decide (V.str (wish.getD "") = V.str ("unlisten" : Str))) = true := by rw [decide_eq_false fun z => hne (V.str.inj z)]; rfl
        rw [hb]
        refine iteT ⟨.str "a", rfl, .int (n0 : Nat), rfl, _, .inr "a", rfl, sn _ _ pE, one_room (oneI_len _), ?_, ?_⟩
        · exact KX.Same.upd e (by
            by_cases hz : E = D
            · exact absurd hz hED
            · exact hE)
        · rw [upd_same, if_pos rfl, putK_oneI, if_neg (Nat.succ_ne_zero 0), keepS, if_neg hu]
  · obtain ⟨e, pE⟩ := p
    have hEk : H2 E = some (.dK (oneI (keepS wish st))) := by
      rw [pE]
      cases st with
      | none =>
        show some (HO.dK (oneI none)) = some (HO.dK (oneI (keepS wish none)))
        unfold keepS
        split <;> rfl
      | some n0 => rfl
    refine ⟨e _ _ upd_same, ?_⟩
    have eb := lock_back hD e
    have hE0 : H E = none := lock_free hE
    generalize hH3 : upd H2 D (.dK (oneI st)) = H3 at eb
    have hE3 : H3 E = some (.dK (oneI (keepS wish st))) := by rw [← hH3]; exact (upd_ne hED).trans hEk
    show tSeq _ _ _ _ H3
    refine ⟨.ref E, rfl, E, _, rfl, hE3, _, _, rfl, rfl, _, rfl, ?_⟩
    have key : ∀ R : VK, R (posV (keepP wish st pos)) H3 → (if (decide ((0 : Int) < ((oneI (keepS wish st)).length : Nat))) = true then tFld K (tVar 0) "position" (((L2.start ["self", "wishes", "total", "starts", "position", "name", "wish", "at"] [.ref A, .ref W]).set 2 (some (.int (qs.length : Nat)))).set 3 (some (.ref E))) H3 R else tC .non (((L2.start ["self", "wishes", "total", "starts", "position", "name", "wish", "at"] [.ref A, .ref W]).set 2 (some (.int (qs.length : Nat)))).set 3 (some (.ref E))) H3 R) := fun R r => by
      unfold keepP at r
      cases hk : keepS wish st with
      | none =>
        rw [hk] at r
        exact iteF r
      | some n0 =>
        rw [hk] at r
        exact iteT ⟨.ref A, rfl, A, _, dA, _, posV pos, rfl, eb _ _ hA, T.c_Client, T.n_Client_position, rfl, r⟩
    refine key _ ?_
    have hW3 := eb _ _ hW
    have hEW : E ≠ W := fun z => by rw [z, hW] at hE0; cases hE0
    refine ⟨W, _, hW3, trivial, fun ow => ?_⟩
    have hE4 : upd H3 W (.frz ow (.dK (oneK wish))) E = some (.dK (oneI (keepS wish st))) := (upd_ne hEW).trans hE3
    refine ⟨.ref W, rfl, W, ow, oneK wish, rfl, upd_same, ?_⟩
    refine for_it walk_items (fun j σ' H' => Fr (· = E) (upd H3 W (.frz ow (.dK (oneK wish)))) H' ∧ H' E = some (.dK (oneI (if j = 0 then keepS wish st else behS wish st qs.length))) ∧
      DS K H' σ' [.v (.ref A), .v (.ref W), .v (.int (qs.length : Nat)), .v (.ref E), .v (posV (if j = 0 then keepP wish st pos else behP wish st pos qs.length)), .no, .no, .no]) ⟨fun b o hb _ => hb, hE4, ?_⟩ (fun j σ' H' _ p => p.1 _ _ upd_same hEW.symm) (fun i x σ' H5 H6 hi p y => ?_) (fun σ' H5 p => ?_)
    · exact .cons (s := .v _) rfl (.cons (s := .v _) rfl (.cons (s := .v _) rfl (.cons (s := .v _) rfl (.cons (s := .v _) rfl (DS.nos 3)))))
    · obtain ⟨T0, a, b, rfl, hT, rfl, ha, hb⟩ := y
      cases wish with
      | none => exact absurd hi (Nat.not_lt_zero i)
      | some z =>
        obtain rfl : i = 0 := Nat.lt_one_iff.mp hi
        cases ha
        cases hb
        obtain ⟨fr, pE, s'⟩ := p
        rw [if_pos rfl] at pE
        rw [if_pos rfl] at s'
        have sn := Same.new (o := HO.tup [kV (.inr "a"), .str z]) hT
        have s2 := ((s'.mono sn.tp).set (i := 5) (s := .v (.str "a")) (v := .str "a") rfl).set (i := 6) (s := .v (.str z)) (v := .str z) rfl
        have hE6 := sn _ _ pE
        have fr2 : Fr (· = E) (upd H3 W (.frz ow (.dK (oneK (some z))))) (upd H5 T0 (.tup [kV (.inr "a"), .str z])) := fun b o hb hn => sn _ _ (fr b o hb hn)
        refine ⟨T0, _, rfl, SqT.of upd_same, rfl, _, _, rfl, _, _, rfl, rfl, ?_⟩
        refine ⟨.str z, s2.v (i := 6) rfl, rfl, _, rfl, ?_⟩
        rcases hwish with h | h | h
        · cases h
        · cases h
          refine iteT ⟨.str "a", s2.v (i := 5) rfl, .ref E, s2.v (i := 3) rfl, E, _, rfl, DGet.k (k := .inr "a") hE6, _, rfl, ?_⟩
          rw [oneI_get]
          cases hk : keepS (some ("listen" : Str)) st with
          | some n0 =>
            refine iteF ⟨fr2, ?_, ?_⟩
            · rw [if_neg (Nat.succ_ne_zero 0), behS, if_pos rfl, hk]
              rw [hk] at hE6
              exact hE6
            · rw [if_neg (Nat.succ_ne_zero 0), behP, if_pos rfl, hk]
              exact s2.wk ⟨.inr rfl, .inr rfl, .inr rfl, .inr rfl, .inr rfl, .inl rfl, .inl rfl, .inl rfl, trivial⟩
          | none =>
            have hkp : keepP (some ("listen" : Str)) st pos = none := by unfold keepP; rw [hk]
            rw [hkp] at s2
            rw [hk] at hE6
            refine iteT ⟨.int (qs.length : Nat), s2.v (i := 2) rfl, .ref E, s2.v (i := 3) rfl, .str "a", s2.v (i := 5) rfl, E, _, rfl, DPut.k (k := .inr "a") hE6 (one_room (oneI_len none)), ?_⟩
            have tu : Tp K (upd H5 T0 (.tup [kV (.inr "a"), .str ("listen" : Str)])) (upd (upd H5 T0 (.tup [kV (.inr "a"), .str ("listen" : Str)])) E (.dK (putK (oneI none) (.inr "a") (.int (qs.length : Nat))))) := Tp.upd hE6 rfl
            have s3 := s2.mono tu
            refine ⟨posV none, s3.v (i := 4) rfl, rfl, _, rfl, iteT ⟨.int (qs.length : Nat), s3.v (i := 2) rfl, ?_⟩⟩
            refine ⟨fun b o hb hn => (upd_ne hn).trans (fr2 b o hb hn), ?_, ?_⟩
            · rw [upd_same, putK_oneI, if_neg (Nat.succ_ne_zero 0), behS, if_pos rfl, hk]
              rfl
            · rw [if_neg (Nat.succ_ne_zero 0), behP, if_pos rfl, hk, hkp]
              exact (s3.set (i := 4) (s := .v (.int (qs.length : Nat))) (v := .int (qs.length : Nat)) rfl).wk ⟨.inr rfl, .inr rfl, .inr rfl, .inr rfl, .inr rfl, .inl rfl, .inl rfl, .inl rfl, trivial⟩
        · cases h
          refine iteF (iteF ⟨fr2, ?_, ?_⟩)
          · rw [if_neg (Nat.succ_ne_zero 0), behS, if_neg (by decide +kernel)]
            exact hE6
          · rw [if_neg (Nat.succ_ne_zero 0), behP, if_neg (by decide +kernel)]
            exact s2.wk ⟨.inr rfl, .inr rfl, .inr rfl, .inr rfl, .inr rfl, .inl rfl, .inl rfl, .inl rfl, trivial⟩
    · obtain ⟨fr, pE, s'⟩ := p
      have hEb : H5 E = some (.dK (oneI (behS wish st qs.length))) := by
        rw [pE]
        cases wish with
        | none => rw [if_pos (show (oneK (none : Option Str)).length = 0 from rfl), behS, if_neg (by decide +kernel)]
        | some z => rw [if_neg (show ¬ (oneK (some z)).length = 0 from Nat.succ_ne_zero 0)]
      have sb : DS K H5 σ' [.v (.ref A), .v (.ref W), .v (.int (qs.length : Nat)), .v (.ref E), .v (posV (behP wish st pos qs.length)), .no, .no, .no] := by
        cases wish with
        | none =>
          rw [if_pos (show (oneK (none : Option Str)).length = 0 from rfl)] at s'
          rw [behP, if_neg (by decide +kernel)]
          exact s'
        | some z =>
          rw [if_neg (show ¬ (oneK (some z)).length = 0 from Nat.succ_ne_zero 0)] at s'
          exact s'
      refine ⟨fr _ _ upd_same hEW.symm, .ref E, sb.v (i := 3) rfl, posV (behP wish st pos qs.length), sb.v (i := 4) rfl, show 2 ≤ sizeLine by decide, fun t ht => ?_⟩
      have es : Same H (upd H5 W (.dK (oneK wish))) := fun b o hb => by
        by_cases hbW : b = W
        · subst hbW
          rw [upd_same, ← hW]
          exact hb
        · exact (upd_ne hbW).trans (fr b o ((upd_ne hbW).trans (eb b o hb)) (fun z => by rw [z, hE0] at hb; cases hb))
      have sn := Same.new (o := HO.tup [.ref E, posV (behP wish st pos qs.length)]) ht
      exact q t E _ (es.trans sn) hE0 (sn _ _ ((upd_ne hEW).trans hEb)) (es.free ht) upd_same
end
end KX
set_option maxHeartbeats 4000000
namespace KX
open PySem PySem.Spec PyProof.Rows L2
/-- an entry of the queue: the number of its commit, and a notice about the cell a -/
def QV (H : Hp) (v : V) (e : Nat × Str) : Prop := ∃ t n, v = .ref t ∧ H t = some (.tup [.int (e.1 : Nat), .ref n]) ∧ NotAt H n "a" e.2
theorem QV.mono {H H' : Hp} {v : V} {e : Nat × Str} (h : QV H v e) (s : Same H H') : QV H' v e := by
  obtain ⟨t, n, h1, h2, h3⟩ := h
  exact ⟨t, n, h1, s _ _ h2, h3.mono s⟩
def recM (st : Option Nat) (p n : Nat) : Nat := max p (st.getD n)
def recL {α : Type} (st pos : Option Nat) (qs : List α) : List α := match pos with
  | none => []
  | some p => qs.drop (recM st p qs.length)
def recP (pos : Option Nat) (n : Nat) : Option Nat := pos.map fun _ => n
theorem oneI_getD (st : Option Nat) (n : Nat) : (valV (oneI st) (.inr "a" : L2.Key)).getD (.int (n : Nat)) = .int ((st.getD n : Nat) : Int) := by
  rw [oneI_get]
  cases st <;> rfl
def natsV (m j : Nat) : List V := (List.range' m (j - m)).map fun i : Nat => V.int (i : Nat)
theorem natsV_len (m j : Nat) : (natsV m j).length = j - m := by unfold natsV; rw [List.length_map, List.length_range']
theorem natsV_yes {m j : Nat} (h : m ≤ j) : natsV m (j + 1) = natsV m j ++ [.int (j : Nat)] := by
  unfold natsV
  have e : j + 1 - m = (j - m) + 1 := by omega
  rw [e, List.range'_concat, List.map_append]
  have e2 : m + 1 * (j - m) = j := by omega
  rw [e2] <;> rfl
theorem natsV_no {m j : Nat} (h : ¬ m ≤ j) : natsV m (j + 1) = natsV m j := by
  unfold natsV
  have e : j + 1 - m = j - m := by omega
  rw [e]
theorem natsV_get {m j i : Nat} (h : i < j - m) : (natsV m j)[i]? = some (.int ((m + i : Nat) : Int)) := by
  unfold natsV
  rw [List.getElem?_map, List.getElem?_range' h]
  simp
theorem cutV_all {xs : List V} (h : xs.length ≤ 200) : cutV xs none (some 200) = xs := by
  unfold cutV
  have e1 : HT.sIx xs.length 0 none = 0 := by unfold HT.sIx; simp
  have e2 : HT.sIx xs.length xs.length (some 200) = xs.length := by
    unfold HT.sIx
    simp
    try omega
  rw [e1, e2, Nat.sub_zero, List.drop_zero, List.take_length]
section
variable {P : Program} {w : World} {K : PySem.W.Frag} {mg : Str → Option Value} {base : Heap} {p : Addr}
theorem sc_Listener_disconnect : FnScope ["self"] ["self"] (defScope s_Listener_disconnect) := ⟨rfl, rfl, rfl, by decide +kernel, rfl, by decide +kernel, by decide +kernel⟩
theorem ok_Listener_disconnect (T : Tx w K mg) : FnN P w K mg base 3 m_Listener_disconnect (fun vs H Q => ∃ A dA S nm wk D pos, vs = [.ref A] ∧ H A = some (.ins a_Client dA (cliF S nm wk D pos)) ∧
    (wk = .non ∨ ∃ x dx S2 SD bg RL ML, wk = .ref x ∧ H x = some (.ins a_Transaction dx (trF S2 A SD bg RL ML true))) ∧
    ∀ D' H', Fr (fun b => b = A ∨ wk = .ref b) H H' → H' A = some (.ins a_Client dA (cliF S nm .non D' .non)) → H D' = none → H' D' = some (.dK []) → Q .non H') := by
  obtain ⟨fd, F⟩ := T.F_Listener_disconnect
  refine F.okN rfl sc_Listener_disconnect (fun _ _ _ _ _ _ us hl => match us, hl with | [_], _ => rfl) (fun vs H Q h => ?_) (fun A outer s H vs Q hr h => ⟨_, (pss_cons (ps_if (pt_cmpR op_notN (pe_fld (pv 0) rfl) pe_non (nomark _)) (pss_one (ps_expr (pe_mt0 (ok_Transaction_rollback T) (hr.mono (by decide)) T.c_Transaction T.me_Transaction_rollback (pe_fld (pv 0) rfl)))) pss_nil) (pss_cons (ps_fld (pv 0) pe_dnewK rfl) (pss_one (ps_fld (pv 0) pe_non rfl)))), ?_⟩)
  · obtain ⟨A, dA, S, nm, wk, D, pos, rfl, _⟩ := h
    rfl
  obtain ⟨A, dA, S, nm, wk, D, pos, rfl, hA, hw, q⟩ := h
  have fin : ∀ (H1 : Hp) (R : Hp → Prop), Fr (fun b => b = A ∨ wk = .ref b) H H1 → (∀ b, H1 b = none → H b = none) → H1 A = some (.ins a_Client dA (cliF S nm .non D pos)) →
      (∀ D' H', Fr (fun b => b = A ∨ wk = .ref b) H H' → H' A = some (.ins a_Client dA (cliF S nm .non D' .non)) → H D' = none → H' D' = some (.dK []) → R H') → ∀ Dn : L2.St → Hp → Prop, (∀ σ H', R H' → Dn σ H') →
      tSeq (sFld K (tVar 0) tDNewK "starts") (sFld K (tVar 0) (tC .non) "position") { nx := Dn, rt := Q } (L2.start ["self"] [.ref A]) H1 := fun H1 R fr nn h1 r Dn hD D' hD' => by
    have nAD : A ≠ D' := fun z => by rw [← z, h1] at hD'; cases hD'
    have h2 := (upd_ne (o := .dK []) nAD).trans h1
    refine ⟨.ref A, rfl, A, _, dA, _, rfl, h2, T.c_Client, T.n_Client_starts, Nat.le_of_ble_eq_true rfl, ?_⟩
    refine ⟨.ref A, rfl, A, _, dA, _, rfl, upd_same, T.c_Client, T.n_Client_position, Nat.le_of_ble_eq_true rfl, hD _ _ (r D' _ (fun b o hb hn => ?_) upd_same (nn _ hD') ((upd_ne nAD.symm).trans ((upd_ne nAD.symm).trans upd_same)))⟩
    have nb : b ≠ A := fun z => hn (.inl z)
    have nd : b ≠ D' := fun z => by rw [z, nn _ hD'] at hb; cases hb
    exact (upd_ne nb).trans ((upd_ne nb).trans ((upd_ne nd).trans (fr b o hb hn)))
  rcases hw with rfl | ⟨x, dx, S2, SD, bg, RL, ML, rfl, hx⟩
  · refine ⟨.ref A, rfl, A, _, dA, _, .non, rfl, hA, T.c_Client, T.n_Client_work, rfl, rfl, _, rfl, iteF ?_⟩
    exact fin H (fun H' => Q .non H') (fun b o hb _ => hb) (fun b hb => hb) hA q _ fun _ _ r => r
  · refine ⟨.ref A, rfl, A, _, dA, _, .ref x, rfl, hA, T.c_Client, T.n_Client_work, rfl, rfl, _, rfl, iteT ?_⟩
    refine ⟨.ref A, rfl, A, _, dA, _, .ref x, rfl, hA, T.c_Client, T.n_Client_work, rfl, x, dx, _, rfl, hx, rfl, x, dx, S2, A, SD, bg, RL, ML, dA, S, nm, .ref x, D, pos, rfl, hx, hA, ?_⟩
    refine fin _ (fun H' => Q .non H') (fun b o hb hn => ?_) (fun b hb => ?_) upd_same q _ fun _ _ r => r
    · exact (upd_ne fun z => hn (.inl z)).trans ((upd_ne fun z => hn (.inr (by rw [z]))).trans hb)
    · have n1 : b ≠ A := fun z => by rw [z, upd_same] at hb; cases hb
      have n2 : b ≠ x := fun z => by rw [upd_ne n1, z, upd_same] at hb; cases hb
      exact (upd_ne n2).symm.trans ((upd_ne n1).symm.trans hb)
theorem sc_Listener_receive : FnScope ["self", "most", "waiting", "some", "at", "number", "notice"] ["self", "most"] (defScope s_Listener_receive) := ⟨rfl, rfl, rfl, by decide +kernel, rfl, by decide +kernel, by decide +kernel⟩
theorem ok_Listener_receive (T : Tx w K mg) : FnN P w K mg base 2 m_Listener_receive (fun vs H Q => ∃ A dA S nm D st pos dS rule C M PL QL qs ents, vs = [.ref A] ∧ H A = some (.ins a_Client dA (cliF S nm .non D (posV pos))) ∧ H D = some (.dK (oneI st)) ∧ H S = some (.ins a_Store dS (stF rule C M PL QL)) ∧
    H QL = some (.lst qs) ∧ Paired (QV H) qs ents ∧ qs.length ≤ 190 ∧
    ∀ L H', Fr (· = A) H H' → H L = none → H' L = some (.lst (recL st pos qs)) → H' A = some (.ins a_Client dA (cliF S nm .non D (posV (recP pos qs.length)))) → Q (.ref L) H') := by
  obtain ⟨fd, F⟩ := T.F_Listener_receive
  refine FnN.imp (F.okKw (n := 1) (x := "most") (i := 200) (k := 1) (sp := fun vs H Q => ∃ A dA S nm D st pos dS rule C M PL QL qs ents, vs = [.ref A, .int 200] ∧ H A = some (.ins a_Client dA (cliF S nm .non D (posV pos))) ∧ H D = some (.dK (oneI st)) ∧ H S = some (.ins a_Store dS (stF rule C M PL QL)) ∧
    H QL = some (.lst qs) ∧ Paired (QV H) qs ents ∧ qs.length ≤ 190 ∧
    ∀ L H', Fr (· = A) H H' → H L = none → H' L = some (.lst (recL st pos qs)) → H' A = some (.ins a_Client dA (cliF S nm .non D (posV (recP pos qs.length)))) → Q (.ref L) H') rfl sc_Listener_receive T.kw_receive rfl
    (fun D doc pm an cdv ct us ks h1 h2 => match us, ks, h1, h2 with | [_], [_], _, _ => ⟨_, _, _, _, _, _, rfl, rfl, rfl⟩) (fun vs H Q h => ?_) (fun A outer s H vs Q hr h => ⟨_, (pss_cons (ps_if (pt_not (pt_val (pe_cl (ok_is_between T) (hr.mono (by decide)) T.kp_is_between T.g_is_between (pa_cons (pv 1) (pa_cons pe_int (pa_cons (pe_ci T.i_MOST) pa_nil)))))) (pss_one ps_never) pss_nil) (pss_cons (ps_expr (pe_mt0 (ok_Member_need_no_work T) (hr.mono (by decide)) T.c_Client T.me_Client_need_no_work (pv 0))) (pss_cons (ps_if (pt_cmpR op_isN (pe_fld (pv 0) rfl) pe_non (nomark _)) (pss_one (ps_ret (pe_lst pa_nil))) pss_nil) (pss_cons (ps_set (i := 2) sc_Listener_receive.nd rfl (Or.inl rfl) (pe_lst pa_nil)) (pss_cons (ps_for PassesOwn.never rfl (pi_enum (by rfl) T.z_enumerate (pa_cons (pe_fld (pe_fld (pv 0) rfl) rfl) pa_nil)) (pg_tup rfl (pgs_cons (pg_name (i := 4) sc_Listener_receive.nd rfl (Or.inl rfl)) (pgs_cons (pg_tup rfl (pgs_cons (pg_name (i := 5) sc_Listener_receive.nd rfl (Or.inl rfl)) (pgs_cons (pg_name (i := 6) sc_Listener_receive.nd rfl (Or.inl rfl)) pgs_nil))) pgs_nil))) (pss_one (ps_if (PW.pt (pw_and (pt_cmpR op_ge (pv 4) (pe_fld (pv 0) rfl) (nomark _)) (pw_and1 (pt_cmpR op_ge (pv 4) (pe_dget2 (hu_of hr) (pe_fld (pv 0) rfl) (pe_fld (pv 6) rfl) (pe_callB call_len_seq (by rfl) T.z_len PySem.boot_len (pa_cons (pe_fld (pe_fld (pv 0) rfl) rfl) pa_nil)) ⟨rfl, by rfl, rfl, rfl⟩) (nomark _))))) (pss_one (ps_expr (pe_bm PySem.F.plainAttrs_list PySem.F.slot_list_append PySem.F.type_list_append mt_append (pv 2) (pa_cons (pv 4) pa_nil)))) pss_nil))) (pss_cons (ps_set (i := 3) sc_Listener_receive.nd rfl (Or.inl rfl) (pe_slice sl_list (pv 2) po_none (po_some (pv 1)))) (pss_cons (ps_fld (pv 0) (pe_ifExp (pt_cmpR op_eq (pe_callB call_len_seq (by rfl) T.z_len PySem.boot_len (pa_cons (pv 3) pa_nil)) (pe_callB call_len_seq (by rfl) T.z_len PySem.boot_len (pa_cons (pv 2) pa_nil)) (nomark _)) (pe_callB call_len_seq (by rfl) T.z_len PySem.boot_len (pa_cons (pe_fld (pe_fld (pv 0) rfl) rfl) pa_nil)) (pe_op op_add (pe_ix ix_list (pv 3) (pe_un un_neg pe_int) (fun _ _ => rfl)) pe_int)) rfl) (pss_one (ps_ret (pe_lc (own := [("at", 4)]) (tt := tYes) (te := tOp (rIxL K) (tFld K (tFld K (tVar 0) "store") "queue") (tVar 4)) (by rfl) sc_Listener_receive.nd (pi_list (pv 3)) (blkOk_by (N := ["self", "most", "waiting", "some", "at", "number", "notice"]) (sc := defScope s_Listener_receive) (by decide +kernel)) (fun _ _ _ _ _ => by exact (pg_name (i := 4) sc_Listener_receive.nd rfl (Or.inl rfl))) (fun _ _ _ _ _ => pts_nil) (fun _ _ _ _ _ => (pe_ix ix_list (pe_fld (pe_fld (pv 0) rfl) rfl) (pv 4) (fun _ _ => rfl))))))))))))), ?_⟩)) ?_
  · obtain ⟨A, dA, S, nm, D, st, pos, dS, rule, C, M, PL, QL, qs, ents, rfl, _⟩ := h
    rfl
  · obtain ⟨A, dA, S, nm, D, st, pos, dS, rule, C, M, PL, QL, qs, ents, rfl, hA, hD, hS, hQL, hq, hl, q⟩ := h
    have s0 : DS K H (L2.start ["self", "most", "waiting", "some", "at", "number", "notice"] [.ref A, .int 200]) [.v (.ref A), .v (.int 200), .no, .no, .no, .no, .no] := .cons (s := .v _) rfl (.cons (s := .v _) rfl (DS.nos 5))
    refine ⟨.int 200, rfl, [.int 200, .int 1, .int 200], _, .cons (.int _) (.cons (.int _) (.cons (.int _) .nil)), ⟨200, 1, 200, rfl, rfl⟩, fun v H1 e1 d => ?_⟩
    cases d
    refine ⟨_, rfl, iteF ?_⟩
    have hA1 := e1 _ _ hA
    refine ⟨.ref A, rfl, A, dA, _, rfl, hA1, rfl, A, dA, S, nm, D, posV pos, rfl, hA1, ?_⟩
    refine ⟨.ref A, rfl, A, _, dA, _, posV pos, rfl, hA1, T.c_Client, T.n_Client_position, rfl, rfl, _, rfl, ?_⟩
    cases pos with
    | none =>
      refine iteT ⟨Nat.zero_le _, fun L hL => q L _ (fun b o hb _ => (e1.trans (Same.new hL)) _ _ hb) (e1.free hL) upd_same ((Same.new hL) _ _ hA1)⟩
    | some p =>
      refine iteF ⟨Nat.zero_le _, fun L hL => ?_⟩
      have s2 := (s0.mono (e1.trans (Same.new (o := HO.lst []) hL)).tp).set (i := 2) (s := .v (.ref L)) (v := .ref L) rfl
      have e2 := Same.new (o := HO.lst []) hL
      have hA2 := e2 _ _ hA1
      refine ⟨.ref A, rfl, A, _, dA, _, .ref S, rfl, hA2, T.c_Client, T.n_Client_store, rfl, S, _, dS, _, .ref QL, rfl, e2 _ _ (e1 _ _ hS), T.c_Store, T.n_Store_queue, rfl, QL, qs, rfl, SqL.of (e2 _ _ (e1 _ _ hQL)), ?_⟩
      refine for_it walk_enum (fun j σ' H' => Same H1 H' ∧ H' L = some (.lst (natsV (recM st p qs.length) j)) ∧ DS K H' σ' [.v (.ref A), .v (.int 200), .v (.ref L), .no, .no, .no, .no]) ⟨e2, ?_, s2⟩ (fun j σ' H' _ p => SqL.of (p.1 _ _ (e1 _ _ hQL))) (fun j xv σ' H' H'' hj ⟨e, hL', s'⟩ y => ?_) (fun σ' H' ⟨e, hL', s'⟩ => ?_)
      · rw [upd_same]
        unfold natsV
        rw [Nat.zero_sub]
        rfl
      · obtain ⟨T0, a, b, rfl, hT, rfl, ha, hb⟩ := y
        cases ha
        obtain ⟨en, hen, t, n, rfl, ht, hn⟩ := pairedR hq hb
        have sn := Same.new (o := HO.tup [.int (j : Nat), .ref t]) hT
        have ee := e.trans sn
        have ht2 := ee _ _ (e1 _ _ ht)
        obtain ⟨dn, hn2⟩ := hn.mono (e1.trans ee)
        have hA3 := ee _ _ hA1
        have hL3 := sn _ _ hL'
        have s3 := (((s'.mono sn.tp).set (i := 4) (s := .v (.int (j : Nat))) (v := .int (j : Nat)) rfl).set (i := 5) (s := .v (.int (en.1 : Nat))) (v := .int (en.1 : Nat)) rfl).set (i := 6) (s := .v (.ref n)) (v := .ref n) rfl
        have sw : DS K _ _ [.v (.ref A), .v (.int 200), .v (.ref L), .no, .no, .no, .no] := s3.wk ⟨.inr rfl, .inr rfl, .inr rfl, .inr rfl, .inl rfl, .inl rfl, .inl rfl, trivial⟩
        refine ⟨T0, _, rfl, SqT.of upd_same, rfl, _, _, rfl, _, _, rfl, t, _, rfl, SqT.of ht2, rfl, _, _, rfl, _, _, rfl, rfl, rfl, ?_⟩
        refine ⟨.int (j : Nat), s3.v (i := 4) rfl, .ref A, s3.v (i := 0) rfl, A, _, dA, _, .int (p : Nat), rfl, hA3, T.c_Client, T.n_Client_position, rfl, _, _, rfl, rfl, _, rfl, ?_⟩
        by_cases h1 : p ≤ j
        · rw [decide_eq_true (show ((p : Nat) : Int) ≤ (j : Nat) by omega)]
          refine iteT ⟨.int (j : Nat), s3.v (i := 4) rfl, .ref A, s3.v (i := 0) rfl, A, _, dA, _, .ref D, rfl, hA3, T.c_Client, T.n_Client_starts, rfl, D, rfl, .inl ⟨_, .inl (ee _ _ (e1 _ _ hD))⟩, .ref n, s3.v (i := 6) rfl, n, _, dn, _, .str "a", rfl, hn2, T.c_Notice, T.n_Notice_channel, rfl, ?_⟩
          refine ⟨.ref A, s3.v (i := 0) rfl, A, _, dA, _, .ref S, rfl, hA3, T.c_Client, T.n_Client_store, rfl, S, _, dS, _, .ref QL, rfl, ee _ _ (e1 _ _ hS), T.c_Store, T.n_Store_queue, rfl, QL, qs, rfl, .inl (SqL.of (ee _ _ (e1 _ _ hQL))), _, DGet.k (k := .inr "a") (ee _ _ (e1 _ _ hD)), ?_⟩
          rw [oneI_getD]
          refine ⟨_, _, rfl, rfl, _, rfl, ?_⟩
          by_cases h2 : st.getD qs.length ≤ j
          · rw [decide_eq_true (show ((st.getD qs.length : Nat) : Int) ≤ (j : Nat) by omega)]
            have hm : recM st p qs.length ≤ j := by unfold recM; omega
            refine iteT ⟨.ref L, s3.v (i := 2) rfl, .inl ⟨rfl, _, SqL.of hL3⟩, .int (j : Nat), s3.v (i := 4) rfl, L, _, .int (j : Nat), rfl, rfl, hL3, small1000 (by rw [natsV_len]; omega), KX.Same.upd ee hL, ?_, sw.mono (Tp.upd hL3 rfl)⟩
            rw [upd_same, natsV_yes hm]
          · rw [decide_eq_false (show ¬ ((st.getD qs.length : Nat) : Int) ≤ (j : Nat) by omega)]
            have hm : ¬ recM st p qs.length ≤ j := by unfold recM; omega
            exact iteF ⟨ee, by rw [natsV_no hm]; exact hL3, sw⟩
        · rw [decide_eq_false (show ¬ ((p : Nat) : Int) ≤ (j : Nat) by omega)]
          have hm : ¬ recM st p qs.length ≤ j := by unfold recM; omega
          exact iteF (iteF ⟨ee, by rw [natsV_no hm]; exact hL3, sw⟩)
      · have ln := natsV_len (recM st p qs.length) qs.length
        refine ⟨.ref L, s'.v (i := 2) rfl, .int 200, s'.v (i := 1) rfl, 200, rfl, L, _, rfl, SqL.of hL', fun L2 hL2 => ?_⟩
        rw [cutV_all (by omega)]
        have n2 := Same.new (o := HO.lst (natsV (recM st p qs.length) qs.length)) hL2
        have e3 := e.trans n2
        have s4 := (s'.mono n2.tp).set (i := 3) (s := .v (.ref L2)) (v := .ref L2) rfl
        have hA4 := e3 _ _ hA1
        refine ⟨.ref L2, s4.v (i := 3) rfl, L2, _, rfl, .inl (SqL.of upd_same), .ref L, s4.v (i := 2) rfl, L, _, rfl, .inl (SqL.of (n2 _ _ hL')), rfl, _, rfl, ?_⟩
        rw [decide_eq_true rfl]
        refine iteT ⟨.ref A, s4.v (i := 0) rfl, A, _, dA, _, .ref S, rfl, hA4, T.c_Client, T.n_Client_store, rfl, S, _, dS, _, .ref QL, rfl, e3 _ _ (e1 _ _ hS), T.c_Store, T.n_Store_queue, rfl, QL, qs, rfl, .inl (SqL.of (e3 _ _ (e1 _ _ hQL))), .ref A, s4.v (i := 0) rfl, A, _, dA, _, rfl, hA4, T.c_Client, T.n_Client_position, Nat.le_of_ble_eq_true rfl, ?_⟩
        generalize hH5 : upd (upd H' L2 (.lst (natsV (recM st p qs.length) qs.length))) A (.ins a_Client dA (putF "position" (.int (qs.length : Nat)) (cliF S nm .non D (posV (some p))))) = H5
        have hA5 : H5 A = some (.ins a_Client dA (cliF S nm .non D (.int (qs.length : Nat)))) := by rw [← hH5]; exact upd_same
        have k5 : ∀ b o, H b = some o → b ≠ A → H5 b = some o := fun b o hb hn => by rw [← hH5]; exact (upd_ne hn).trans (e3 _ _ (e1 _ _ hb))
        have hS5 := k5 _ _ hS (ne_of hS hA (fun z => nomatch z))
        have hQ5 := k5 _ _ hQL (ne_of hQL hA (fun z => nomatch z))
        have hL5 : H5 L2 = some (.lst (natsV (recM st p qs.length) qs.length)) := by
          rw [← hH5]
          exact (upd_ne (ne_of upd_same hA4 (fun z => nomatch z))).trans upd_same
        have s5 : DS K H5 _ _ := s4.mono (by rw [← hH5]; exact Tp.upd hA4 rfl)
        refine ⟨.ref L2, s5.v (i := 3) rfl, L2, rfl, ⟨_, SqL.of hL5⟩, fun D3 hD3 => ?_⟩
        refine lc_it (walk_list (K := K) (a := L2) (xs := natsV (recM st p qs.length) qs.length)) (fun j H2 => Same H5 H2 ∧ H2 D3 = some (.lst ((qs.drop (recM st p qs.length)).take j))) ⟨Same.new hD3, upd_same⟩ (fun j H2 _ p => SqL.of (p.1 _ _ hL5)) (fun j xv H2 H2' hj p5 y => ?_) (fun H2 p5 => ?_)
        · obtain ⟨rfl, hxv⟩ := y
          obtain ⟨e, hD⟩ := p5
          rw [ln] at hj
          rw [natsV_get hj] at hxv
          cases hxv
          have s6 := ((s5.mono e.tp).setNo (i := 4)).set (i := 4) (s := .v (.int ((recM st p qs.length + j : Nat) : Int))) (v := .int ((recM st p qs.length + j : Nat) : Int)) rfl
          have hx : qs[recM st p qs.length + j]? = some (qs[recM st p qs.length + j]'(by omega)) := List.getElem?_eq_getElem _
          refine ⟨wipe_set, (?_ : (_ : Prop))⟩
          refine ⟨.ref A, s6.v (i := 0) rfl, A, _, dA, _, .ref S, rfl, e _ _ hA5, T.c_Client, T.n_Client_store, rfl, S, _, dS, _, .ref QL, rfl, e _ _ hS5, T.c_Store, T.n_Store_queue, rfl, .int ((recM st p qs.length + j : Nat) : Int), s6.v (i := 4) rfl, QL, _, _, _, rfl, rfl, SqL.of (e _ _ hQ5), atI_nat hx, _, hD, small1000 (by rw [List.length_take]; omega), KX.Same.upd e hD3, ?_⟩
          rw [upd_same, List.take_add_one, List.getElem?_drop, hx] <;> rfl
        · obtain ⟨e, hD⟩ := p5
          have hfree : H D3 = none := by
            have h0 : H5 D3 = none := hD3
            rw [← hH5] at h0
            have nA : D3 ≠ A := fun z => by rw [z, upd_same] at h0; cases h0
            exact e1.free (e3.free ((upd_ne nA).symm.trans h0))
          refine q D3 H2 (fun b o hb hn => e _ _ (k5 b o hb hn)) hfree ?_ (e _ _ hA5)
          rw [hD, List.take_of_length_le (by rw [List.length_drop, ln]; exact Nat.le_refl _)]
          rfl
  · intro vs H Q h
    obtain ⟨A, dA, S, nm, D, st, pos, dS, rule, C, M, PL, QL, qs, ents, rfl, r⟩ := h
    exact ⟨A, dA, S, nm, D, st, pos, dS, rule, C, M, PL, QL, qs, ents, rfl, r⟩
end
end KX
set_option maxHeartbeats 4000000
namespace KX
open PySem PySem.Spec PyProof.Rows L2 SrtO
open L2.DX (itemsO itemsO_ok)
/-! ### sorted(d.items()), of one item or none -/
section
variable {X : Cx}
def rItemsK : V → List V → Hp → VK → Prop := fun x xs H Q => ∃ (a : Addr) (kvs : List (L2.Key × V)), x = .ref a ∧ xs = [] ∧ H a = some (.dK kvs) ∧ ∀ p, H p = none → Q (.ref p) (upd H p (itemsO p a))
theorem mt_itemsK : MtR X "dict.items" rItemsK := by
  intro pins s σ H x xs v us Q I rx rxs h
  obtain ⟨a, kvs, rfl, rfl, ha, q⟩ := h
  cases rx
  cases rxs
  obtain ⟨hz, hs0, vs, kv, hdo⟩ := I.hok a _ ha
  have hdo2 := hdo
  obtain ⟨o, es, ep, ho, hx, hdat, _⟩ := hdo2
  refine DT.callItems (es := es) (ep := ep) hs0 ⟨o, ho, hx, hdat⟩ ?_
  have hf : H s.heap.objs.size = none := I.hok.fresh (Nat.le_refl _)
  exact ⟨.ref s.heap.objs.size, upd H s.heap.objs.size (itemsO s.heap.objs.size a), I.laid (t' := s.toks) (fun b u e => Heap.get?_push_of_some _ e) (Nat.le_refl _) (itemsO_ok (Heap.get?_push_size _ rfl)), rfl, q _ hf⟩
def rSort1 : List V → Hp → VK → Prop := fun vs H Q => ∃ (p a : Addr) (kvs : List (L2.Key × V)), vs = [.ref p] ∧ H p = some (itemsO p a) ∧ H a = some (.dK kvs) ∧ kvs.length ≤ 1 ∧ ∀ l zs, zs.length ≤ 1 → H l = none → Q (.ref l) (upd H l (.lst zs))
theorem vals_refsK : ∀ as : List Addr, Vals (as.map V.ref) (as.map Value.ref)
  | [] => .nil
  | _ :: as => .cons rfl (vals_refsK as)
theorem cr_sort1 (hc : X.calm = true) : CallR X (.builtin "sorted") rSort1 := by
  intro pins s σ H xs us Q I r h
  obtain ⟨p, a, kvs, rfl, hp, ha, h1, q⟩ := h
  obtain rfl := Vals.ref1 r
  have view : s.heap.IsItemsView p a := (show ObjOk X.prog X.w H s.heap p (itemsO p a) from I.hok p _ hp).1
  obtain ⟨hz, hs0, vs, kv, hdo⟩ := I.hok a _ ha
  have lk : kvs.length = vs.length := Paired.length kv
  obtain ⟨o, es, ep, ho, hx, hdat, _, hes, _⟩ := hdo
  have l2 : es.size = vs.length := by rw [← Array.length_toList]; exact hes.length
  refine DT.sortedI (es := es) (ep := ep) (I.ok.hd hc) view ⟨o, ho, hx, hdat⟩ (by rw [l2, ← lk]; exact hz) fun h' tk as hk hlt hl hG => ?_
  have hoL : (h'.push (seqObj "list" (as.map Value.ref).toArray 0)).get? h'.objs.size = some (seqObj "list" (as.map Value.ref).toArray 0) := Heap.get?_push_size _ rfl
  have hlen : (as.map Value.ref).length ≤ 1 := by rw [List.length_map, hl]; omega
  have O : Swo fun (_ _ : Value) => false := ⟨(fun _ _ h => by cases h), (fun _ _ _ _ _ => rfl)⟩
  refine wpAny_call_entry slot_list_sort ⟨_, hoL, rfl⟩ entry_list_sort (list_sort_ord O hoL (Nat.le_trans hlen (Nat.le_of_lt (small1000 (by decide)))) (fun h2 => absurd h2 (by omega)) fun out _ hb => ⟨_, rfl, ?_⟩) (args_list_sort _)
  obtain ⟨c, hcp⟩ := sortedHeap_at (vs := as.map Value.ref) (out := out.toArray) hoL
  have pm := hb.perm
  have hn : H h'.objs.size = none := I.hok.fresh (Nat.le_of_lt hlt)
  have ol : out.length ≤ 1 := by rw [pm.length_eq]; exact hlen
  obtain ⟨zs, rz⟩ : ∃ zs : List V, Vals zs out := by
    match out, pm.length_eq, hlen with
    | [], _, _ => exact ⟨[], .nil⟩
    | [x], _, _ =>
      have hx : x ∈ as.map Value.ref := pm.mem_iff.mp List.mem_cons_self
      obtain ⟨b, _, rfl⟩ := List.mem_map.mp hx
      exact ⟨[.ref b], .cons rfl .nil⟩
    | _ :: _ :: _, h3, h4 => exact absurd h3 (by rw [List.length_cons, List.length_cons]; omega)
  have zl : zs.length ≤ 1 := by rw [rz.length]; exact ol
  have kp : ∀ b u, s.heap.get? b = some u → (sortedHeap (h'.push (seqObj "list" (as.map Value.ref).toArray 0)) h'.objs.size (as.map Value.ref) out.toArray).get? b = some u := fun b u e => by
    have q := hk b u e
    have hlt := Heap.lt_size q
    rw [sortedHeap_old (Nat.ne_of_lt hlt) (by rw [size_push']; exact Nat.lt_succ_of_lt hlt)]
    exact Heap.get?_push_of_some _ q
  have J : Inv X pins σ (upd H h'.objs.size (.lst zs)) { s with heap := sortedHeap (h'.push (seqObj "list" (as.map Value.ref).toArray 0)) h'.objs.size (as.map Value.ref) out.toArray, toks := tk } :=
    I.call (ch := []) (Un.laid kp (Nat.le_of_lt hlt) hn) (I.hok.laid kp (Nat.le_of_lt hlt) ⟨Nat.le_trans zl (Nat.le_of_lt (small1000 (by decide))), out, c, rz, hcp⟩) I.bare (fun _ z => nomatch z)
  exact ⟨.ref h'.objs.size, _, J, rfl, q _ zs zl hn⟩
end
end KX
set_option maxHeartbeats 4000000
namespace KX
open PySem PySem.Spec PyProof.Rows L2
theorem NotAt.updL {H : Hp} {a : Addr} {l : List V} {o : HO} {n : Addr} {c z : Str} (h : NotAt H n c z) (ha : H a = some (.lst l)) : NotAt (upd H a o) n c z := by
  obtain ⟨d, h⟩ := h
  exact ⟨d, (upd_ne (ne_of h ha (fun z => nomatch z))).trans h⟩
theorem QV.updL {H : Hp} {a : Addr} {l : List V} {o : HO} {v : V} {e : Nat × Str} (h : QV H v e) (ha : H a = some (.lst l)) : QV (upd H a o) v e := by
  obtain ⟨t, n, h1, h2, h3⟩ := h
  exact ⟨t, n, h1, (upd_ne (ne_of h2 ha (fun z => nomatch z))).trans h2, h3.updL ha⟩
section
variable {P : Program} {w : World} {K : PySem.W.Frag} {mg : Str → Option Value} {base : Heap} {p : Addr}
theorem sc_Store_keep : FnScope ["self", "name", "changes", "batch", "number", "cell", "word", "notice"] ["self", "name", "changes", "batch"] (defScope s_Store_keep) := ⟨rfl, rfl, rfl, by decide +kernel, rfl, by decide +kernel, by decide +kernel⟩
theorem ok_Store_keep (T : Tx w K mg) : FnN P w K mg base 1 m_Store_keep (fun vs H Q => ∃ S dS rule C M PL QL nm CD b wd zs ct ps qs, vs = [.ref S, .str nm, .ref CD, .ref b] ∧ H S = some (.ins a_Store dS (stF rule C M PL QL)) ∧ H C = some (.dK [(.inr "a", ct)]) ∧ H PL = some (.lst ps) ∧ H QL = some (.lst qs) ∧
    H CD = some (.dK (oneK wd)) ∧ BatAt K H b rule zs ∧ C ≠ CD ∧ PL ≠ QL ∧ ps.length ≤ 900 ∧ qs.length + zs.length ≤ 900 ∧
    ∀ H' ct' row qn, Fr (fun x => x = C ∨ x = QL ∨ x = PL) H H' → H' C = some (.dK [(.inr "a", ct')]) → (wd = none → ct' = ct) → (∀ z, wd = some z → ∃ t, ct' = .ref t ∧ H' t = some (.tup [.str z, .int ((ps.length + 1 : Nat) : Int)])) →
      H' QL = some (.lst (qs ++ qn)) → Paired (QV H') qn (zs.map fun z => (ps.length + 1, z)) → H' PL = some (.lst (ps ++ [row])) → Q (.int ((ps.length + 1 : Nat) : Int)) H') := by
  obtain ⟨fd, F⟩ := T.F_Store_keep
  refine F.okN rfl sc_Store_keep (fun _ _ _ _ _ _ us hl => match us, hl with | [_, _, _, _], _ => rfl) (fun vs H Q h => ?_) (fun A outer s H vs Q hr h => ⟨_, (pss_cons (ps_set (i := 4) sc_Store_keep.nd rfl (Or.inr rfl) (pe_op op_add (pe_callB call_len_seq (by rfl) T.z_len PySem.boot_len (pa_cons (pe_fld (pv 0) rfl) pa_nil)) pe_int)) (pss_cons (ps_lock (ps_for PassesOwn.never rfl (pi_items (pv 2)) (pg_tup rfl (pgs_cons (pg_name (i := 5) sc_Store_keep.nd rfl (Or.inl rfl)) (pgs_cons (pg_name (i := 6) sc_Store_keep.nd rfl (Or.inl rfl)) pgs_nil))) (pss_one (ps_dput (hu_of hr) (pe_fld (pv 0) rfl) (pv 5) (pe_tup (pa_cons (pv 6) (pa_cons (pv 4) pa_nil))) rfl)))) (pss_cons (ps_expr (pe_bm PySem.F.plainAttrs_list PySem.F.slot_list_extend PySem.F.type_list_extend mt_extend (pe_fld (pv 0) rfl) (pa_cons (pe_lc (own := [("notice", 7)]) (by rfl) sc_Store_keep.nd (pi_tup (pe_fld (pv 3) rfl)) (blkOk_by (N := ["self", "name", "changes", "batch", "number", "cell", "word", "notice"]) (sc := defScope s_Store_keep) (by decide +kernel)) (fun _ _ _ _ _ => by exact (pg_name (i := 7) sc_Store_keep.nd rfl (Or.inl rfl))) (fun _ _ _ _ _ => pts_nil) (fun _ _ _ _ _ => (pe_tup (pa_cons (pv 4) (pa_cons (pv 7) pa_nil))))) pa_nil))) (pss_cons (ps_expr (pe_bm PySem.F.plainAttrs_list PySem.F.slot_list_append PySem.F.type_list_append mt_append (pe_fld (pv 0) rfl) (pa_cons (pe_tup (pa_cons (pv 4) (pa_cons (pv 1) (pa_cons (pe_callTy call_tuple_of (by rfl) T.z_tuple (by decide +kernel) (pa_cons (pe_callB (cr_sort1 (by rfl)) (by rfl) T.z_sorted (by decide +kernel) (pa_cons (pe_bm0 PySem.F.plainAttrs_dict PySem.F.slot_dict_items PySem.F.type_dict_items mt_itemsK (pv 2)) pa_nil)) pa_nil)) (pa_cons (pv 3) pa_nil))))) pa_nil))) (pss_one (ps_ret (pv 4))))))), ?_⟩)
  · obtain ⟨S, dS, rule, C, M, PL, QL, nm, CD, b, wd, zs, ct, ps, qs, rfl, _⟩ := h
    rfl
  obtain ⟨S, dS, rule, C, M, PL, QL, nm, CD, b, wd, zs, ct, ps, qs, rfl, hS, hC, hPL, hQL, hCD, ⟨db, tb, ys, hb, sb, nb⟩, nCD, nPQ, hpl, hql, q⟩ := h
  have s0 : DS K H (L2.start ["self", "name", "changes", "batch", "number", "cell", "word", "notice"] [.ref S, .str nm, .ref CD, .ref b]) [.v (.ref S), .v (.str nm), .v (.ref CD), .v (.ref b), .no, .no, .no, .no] :=
    .cons (s := .v _) rfl (.cons (s := .v _) rfl (.cons (s := .v _) rfl (.cons (s := .v _) rfl (DS.nos 4))))
  refine ⟨.ref S, rfl, S, _, dS, _, .ref PL, rfl, hS, T.c_Store, T.n_Store_past, rfl, PL, ps, rfl, .inl (SqL.of hPL), _, _, rfl, rfl, ?_⟩
  have s1 := s0.set (i := 4) (s := .v (.int ((ps.length + 1 : Nat) : Int))) (v := .int ((ps.length + 1 : Nat) : Int)) rfl
  refine ⟨CD, _, hCD, trivial, fun od => ?_⟩
  generalize hH1 : upd H CD (.frz od (.dK (oneK wd))) = H1
  have l1 : ∀ b o, H b = some o → b ≠ CD → H1 b = some o := fun b o hb hn => by rw [← hH1]; exact (upd_ne hn).trans hb
  have hCD1 : H1 CD = some (.frz od (.dK (oneK wd))) := by rw [← hH1]; exact upd_same
  refine ⟨.ref CD, s1.v (i := 2) rfl, CD, od, oneK wd, rfl, hCD1, ?_⟩
  refine for_it walk_items (fun j σ' H' => ∃ ct', Fr (· = C) H1 H' ∧ H' C = some (.dK [(.inr "a", ct')]) ∧ (j = 0 → ct' = ct) ∧ (0 < j → ∃ z t, wd = some z ∧ ct' = .ref t ∧ H' t = some (.tup [.str z, .int ((ps.length + 1 : Nat) : Int)])) ∧
    DS K H' σ' [.v (.ref S), .v (.str nm), .v (.ref CD), .v (.ref b), .v (.int ((ps.length + 1 : Nat) : Int)), .no, .no, .no]) ⟨ct, fun b o h _ => h, l1 _ _ hC nCD, fun _ => rfl, fun h => absurd h (Nat.lt_irrefl 0), ?_⟩ (fun j σ' H' _ ⟨ct', fr, _⟩ => fr _ _ hCD1 nCD.symm) (fun i x σ' H5 H6 hi ⟨ct', fr, hC5, h0, _, s'⟩ y => ?_) (fun σ' H5 ⟨ct', fr, hC5, h0, h1, s'⟩ => ?_)
  · exact .cons (s := .v _) rfl (.cons (s := .v _) rfl (.cons (s := .v _) rfl (.cons (s := .v _) rfl (.cons (s := .v _) rfl (DS.nos 3)))))
  · obtain ⟨T0, a, b2, rfl, hT, rfl, ha, hb2⟩ := y
    cases wd with
    | none => exact absurd hi (Nat.not_lt_zero i)
    | some z =>
      obtain rfl : i = 0 := Nat.lt_one_iff.mp hi
      cases ha
      cases hb2
      have sn := Same.new (o := HO.tup [kV (.inr "a"), .str z]) hT
      have s2 := ((s'.mono sn.tp).set (i := 5) (s := .v (.str "a")) (v := .str "a") rfl).set (i := 6) (s := .v (.str z)) (v := .str z) rfl
      have hC6 := sn _ _ hC5
      have hS1 := l1 _ _ hS (ne_of hS hCD (fun z => nomatch z))
      have hS5 := fr _ _ hS1 (ne_of hS hC (fun z => nomatch z))
      refine ⟨T0, _, rfl, SqT.of upd_same, rfl, _, _, rfl, _, _, rfl, rfl, ?_⟩
      refine ⟨.str z, s2.v (i := 6) rfl, .int ((ps.length + 1 : Nat) : Int), s2.v (i := 4) rfl, show 2 ≤ sizeLine by decide, fun t ht => ?_⟩
      have sn2 := Same.new (o := HO.tup [.str z, .int ((ps.length + 1 : Nat) : Int)]) ht
      have hC7 := sn2 _ _ hC6
      refine ⟨.ref S, s2.v (i := 0) rfl, S, _, dS, _, .ref C, rfl, sn2 _ _ (sn _ _ hS5), T.c_Store, T.n_Store_cells, rfl, .str "a", s2.v (i := 5) rfl, C, _, rfl, DPut.k (k := .inr "a") hC7 (one_room (Nat.le_refl 1)), .ref t, ?_⟩
      refine ⟨fun b o hb hn => (upd_ne hn).trans (sn2 _ _ (sn _ _ (fr b o hb hn))), upd_same, fun h => absurd h (by omega), fun _ => ⟨z, t, rfl, rfl, (upd_ne (ne_of upd_same hC7 (fun z => nomatch z))).trans upd_same⟩, ?_⟩
      exact ((s2.mono sn2.tp).mono (Tp.upd hC7 rfl)).wk ⟨.inr rfl, .inr rfl, .inr rfl, .inr rfl, .inr rfl, .inl rfl, .inl rfl, .inl rfl, trivial⟩
  · refine ⟨fr _ _ hCD1 nCD.symm, ?_⟩
    have k2 : ∀ b o, H b = some o → b ≠ C → upd H5 CD (.dK (oneK wd)) b = some o := fun b o hb hn => by
      by_cases hz : b = CD
      · rw [hz, upd_same, ← hCD, ← hz, hb]
      · exact (upd_ne hz).trans (fr _ _ (l1 _ _ hb hz) hn)
    have hC2 : upd H5 CD (.dK (oneK wd)) C = some (.dK [(.inr "a", ct')]) := (upd_ne nCD).trans hC5
    have ht2 : ∀ z, wd = some z → ∃ t, ct' = .ref t ∧ upd H5 CD (.dK (oneK wd)) t = some (.tup [.str z, .int ((ps.length + 1 : Nat) : Int)]) := fun z hz => by
      obtain ⟨z2, t, e1, e2, e3⟩ := h1 (by rw [hz]; exact Nat.one_pos)
      rw [e1] at hz
      cases hz
      exact ⟨t, e2, (upd_ne (ne_of e3 (fr _ _ hCD1 nCD.symm) (fun z => nomatch z))).trans e3⟩
    have hw0 : wd = none → ct' = ct := fun hz => h0 (by rw [hz]; rfl)
    generalize upd H5 CD (.dK (oneK wd)) = H2 at k2 hC2 ht2 ⊢
    have hS2 := k2 _ _ hS (ne_of hS hC (fun z => nomatch z))
    have hQ2 := k2 _ _ hQL (ne_of hQL hC (fun z => nomatch z))
    have hP2 := k2 _ _ hPL (ne_of hPL hC (fun z => nomatch z))
    have hb2 := k2 _ _ hb (ne_of hb hC (fun z => nomatch z))
    have hD2 := k2 _ _ hCD nCD.symm
    have sb2 : SqT K H2 tb ys := by
      rcases sb with (h | ⟨o, h⟩) | h
      · exact .inl (.inl (k2 _ _ h (ne_of h hC (fun z => nomatch z))))
      · exact .inl (.inr ⟨o, k2 _ _ h (ne_of h hC (fun z => nomatch z))⟩)
      · exact .inr h
    have nb2 : NoL H2 ys zs := Paired.mapP nb fun _ _ ⟨y, e1, d, h⟩ => ⟨y, e1, d, k2 _ _ h (ne_of h hC (fun z => nomatch z))⟩
    have hnl := Paired.length nb
    refine ⟨.ref S, s'.v (i := 0) rfl, S, _, dS, _, .ref QL, rfl, hS2, T.c_Store, T.n_Store_queue, rfl, .inl ⟨rfl, _, SqL.of hQ2⟩, .ref b, s'.v (i := 3) rfl, b, _, db, _, .ref tb, rfl, hb2, T.c_Batch, T.n_Batch_notices, rfl, tb, rfl, ⟨_, sb2⟩, fun D hD => ?_⟩
    have sD := s'
    refine lc_it (walk_tup (K := K) (a := tb) (xs := ys)) (fun j H' => Same H2 H' ∧ ∃ vs, H' D = some (.lst vs) ∧ Paired (QV H') vs ((zs.take j).map fun z => (ps.length + 1, z))) ⟨Same.new hD, [], upd_same, .nil⟩ (fun j H' _ p => Same.tup p.1 sb2) (fun j xv H' H'' hj ⟨e, vs, hv, qv⟩ y => ?_) (fun H3 ⟨e, vs, hv, qv⟩ => ?_)
    · obtain ⟨rfl, hxv⟩ := y
      obtain ⟨z, hz, n, rfl, hn⟩ := pairedR nb2 hxv
      have s6 := (s'.setNo (i := 7)).set (i := 7) (s := .v (.ref n)) (v := .ref n) rfl
      have hvl := Paired.length qv
      rw [List.length_map, List.length_take] at hvl
      refine ⟨wipe_set, (?_ : (_ : Prop))⟩
      refine ⟨.int ((ps.length + 1 : Nat) : Int), s6.v (i := 4) rfl, .ref n, s6.v (i := 7) rfl, show 2 ≤ sizeLine by decide, fun t ht => ?_⟩
      have sn := Same.new (o := HO.tup [.int ((ps.length + 1 : Nat) : Int), .ref n]) ht
      have hv2 := sn _ _ hv
      refine ⟨vs, hv2, small1000 (by omega), KX.Same.upd (e.trans sn) hD, vs ++ [.ref t], upd_same, ?_⟩
      rw [List.take_add_one, hz, List.map_append]
      exact Paired.snoc (Paired.mapP qv fun _ _ h => (h.mono sn).updL hv2) (QV.updL ⟨t, n, rfl, upd_same, hn.mono (e.trans sn)⟩ hv2)
    · rw [hnl, List.take_length] at qv
      have hvl := Paired.length qv
      rw [List.length_map] at hvl
      have hQ3 := e _ _ hQ2
      refine ⟨QL, D, qs, vs, rfl, rfl, hQ3, hv, Nat.le_of_lt (small1000 (by omega)), ?_⟩
      have k4 : ∀ b o, H2 b = some o → b ≠ QL → upd H3 QL (.lst (qs ++ vs)) b = some o := fun b o hb hn => (upd_ne hn).trans (e _ _ hb)
      have hS4 := k4 _ _ hS2 (ne_of hS2 hQ2 (fun z => nomatch z))
      have hP4 := k4 _ _ hP2 nPQ
      have hD4 := k4 _ _ hD2 (ne_of hD2 hQ2 (fun z => nomatch z))
      have hQ4 : upd H3 QL (.lst (qs ++ vs)) QL = some (.lst (qs ++ vs)) := upd_same
      have qv4 : Paired (QV (upd H3 QL (.lst (qs ++ vs)))) vs (zs.map fun z => (ps.length + 1, z)) := Paired.mapP qv fun _ _ h => h.updL hQ3
      generalize upd H3 QL (.lst (qs ++ vs)) = H4 at k4 hS4 hP4 hD4 hQ4 qv4 ⊢
      refine ⟨.ref S, s'.v (i := 0) rfl, S, _, dS, _, .ref PL, rfl, hS4, T.c_Store, T.n_Store_past, rfl, .inl ⟨rfl, _, SqL.of hP4⟩, .int ((ps.length + 1 : Nat) : Int), s'.v (i := 4) rfl, .str nm, s'.v (i := 1) rfl, .ref CD, s'.v (i := 2) rfl, .inr (.inr (.inl ⟨rfl, .inl ⟨_, hD4⟩⟩)), CD, _, rfl, rfl, hD4, fun v hv0 => ?_⟩
      have n1 := Same.new (o := L2.DX.itemsO v CD) hv0
      have wl : (oneK wd).length ≤ 1 := by cases wd <;> simp [oneK]
      refine ⟨v, CD, oneK wd, rfl, upd_same, n1 _ _ hD4, wl, fun l z2 zl hl => ⟨l, z2, rfl, .inl ⟨SqL.of upd_same, fun t ht => ⟨.ref b, s'.v (i := 3) rfl, show 4 ≤ sizeLine by decide, fun r hr => ?_⟩⟩⟩⟩
      have n4 := ((n1.trans (Same.new hl)).trans (Same.new ht)).trans (Same.new (o := HO.tup [.int ((ps.length + 1 : Nat) : Int), .str nm, .ref t, .ref b]) hr)
      have hP5 := n4 _ _ hP4
      refine ⟨PL, ps, .ref r, rfl, rfl, hP5, small1000 (by omega), .int ((ps.length + 1 : Nat) : Int), s'.v (i := 4) rfl, ?_⟩
      refine q _ ct' (.ref r) vs (fun b o hb hn => ?_) ((upd_ne (ne_of (n4 _ _ (k4 _ _ hC2 (ne_of hC2 hQ2 (fun z => nomatch z)))) hP5 (fun z => nomatch z))).trans (n4 _ _ (k4 _ _ hC2 (ne_of hC2 hQ2 (fun z => nomatch z))))) hw0 (fun z hz => ?_) ((upd_ne nPQ.symm).trans (n4 _ _ hQ4)) (Paired.mapP qv4 fun _ _ h => (h.mono n4).updL hP5) upd_same
      · exact (upd_ne fun z => hn (.inr (.inr z))).trans (n4 _ _ (k4 _ _ (k2 _ _ hb fun z => hn (.inl z)) fun z => hn (.inr (.inl z))))
      · obtain ⟨t2, e1, e2⟩ := ht2 z hz
        have e3 := n4 _ _ (k4 _ _ e2 (ne_of e2 hQ2 (fun z => nomatch z)))
        exact ⟨t2, e1, (upd_ne (ne_of e3 hP5 (fun z => nomatch z))).trans e3⟩
end
end KX
set_option maxHeartbeats 8000000
namespace KX
open PySem PySem.Spec PyProof.Rows L2
theorem wishW_ok (rows : List Row) : wishW rows = none ∨ wishW rows = some ("listen" : Str) ∨ wishW rows = some ("unlisten" : Str) := by
  have key : ∀ (l : List Row) (o : Option Str), (o = none ∨ o = some ("listen" : Str) ∨ o = some ("unlisten" : Str)) → (let r := l.foldl (fun o r => match (match r with | .lis => some ("listen" : Str) | .unl => some ("unlisten" : Str) | _ => none) with | some z => some z | none => o) o; r = none ∨ r = some ("listen" : Str) ∨ r = some ("unlisten" : Str)) := fun l => by
    induction l with
    | nil => intro o h; exact h
    | cons r l ih =>
      intro o h
      cases r with
      | set z => exact ih _ h
      | say z => exact ih _ h
      | lis => exact ih _ (.inr (.inl rfl))
      | unl => exact ih _ (.inr (.inr rfl))
  exact key rows none (.inl rfl)
theorem seq_key {t u : TS} {D : Ends} {σ : L2.St} {H : Hp} (Pk : L2.St → Hp → Prop) (h1 : ∀ nx : L2.St → Hp → Prop, (∀ σ' H', Pk σ' H' → nx σ' H') → t { D with nx := nx } σ H) (h2 : ∀ σ' H', Pk σ' H' → u D σ' H') : tSeq t u D σ H := h1 (u D) h2
theorem SqT.updN {K : PySem.W.Frag} {H : Hp} {a t : Addr} {o o' : HO} {xs : List V} (h : SqT K H t xs) (ha : H a = some o') (n : notTup o' = true) : SqT K (upd H a o) t xs := by
  rcases h with (h | ⟨ob, h⟩) | h
  · exact .inl (.inl ((upd_ne (ne_of h ha (fun z => by rw [← z] at n; cases n))).trans h))
  · exact .inl (.inr ⟨ob, (upd_ne (ne_of h ha (fun z => by rw [← z] at n; cases n))).trans h⟩)
  · exact .inr h
theorem BatAt.updN {K : PySem.W.Frag} {H : Hp} {b a : Addr} {rule : Str} {zs : List Str} {o o' : HO} (h : BatAt K H b rule zs) (ha : H a = some o') (n : notTup o' = true) (h1 : ∀ dx fs, o' ≠ .ins a_Batch dx fs) (h2 : ∀ dx fs, o' ≠ .ins a_Notice dx fs) : BatAt K (upd H a o) b rule zs := by
  obtain ⟨dx, t, ys, e1, e2, e3⟩ := h
  exact ⟨dx, t, ys, (upd_ne (ne_of e1 ha (fun z => h1 _ _ z.symm))).trans e1, SqT.updN e2 ha n, Paired.mapP e3 fun _ _ ⟨y, q, d, hd⟩ => ⟨y, q, d, (upd_ne (ne_of hd ha (fun z => h2 _ _ z.symm))).trans hd⟩⟩
theorem shaped_intsL (l : List Int) : SeqAt.shaped (.list (l.map PyData.int)) = true := by
  show (PyData.canLay0 (.list (l.map PyData.int)) && decide (PyData.depth (.list (l.map PyData.int)) ≤ 64)) = true
  rw [Bool.and_eq_true]
  have h2 := depth_ints l
  exact ⟨by simp only [PyData.canLay0]; exact lay_ints l, decide_eq_true (by simp only [PyData.depth]; omega)⟩
theorem eqv_nil (l : List Int) : PyData.eqv (.list (l.map PyData.int)) (.list []) = l.isEmpty := by
  cases l <;> simp [PyData.eqv, PyData.eqvAll]
def notN (v : V) : List V := if v = .non then [] else [v]
def plist (o1 o2 : Option Nat) : List Int := (o1.toList ++ o2.toList).map fun n : Nat => (n : Int)
theorem plist_eq (o1 o2 : Option Nat) : [posV o1, posV o2].flatMap notN = (plist o1 o2).map V.int := by
  cases o1 <;> cases o2 <;> simp [posV, notN, plist]
theorem plist_len (o1 o2 : Option Nat) : (plist o1 o2).length ≤ 2 := by cases o1 <;> cases o2 <;> simp [plist]
theorem plist_pos {o1 o2 : Option Nat} {m : Int} (h : m ∈ plist o1 o2) : 0 ≤ m := by
  unfold plist at h
  obtain ⟨n, _, rfl⟩ := List.mem_map.mp h
  exact Int.natCast_nonneg n
theorem posV_notN (o : Option Nat) : (!decide (posV o = V.non)) = true ∧ notN (posV o) = [posV o] ∨ (!decide (posV o = V.non)) = false ∧ notN (posV o) = [] := by
  cases o
  · exact .inr ⟨rfl, rfl⟩
  · exact .inl ⟨rfl, rfl⟩
def keysK : Option Str → List Str
  | none => []
  | some _ => ["a"]
theorem keysK_map (o : Option Str) : (oneK o).map (·.1) = (keysK o).map Sum.inr := by cases o <;> rfl
section
variable {P : Program} {w : World} {K : PySem.W.Frag} {mg : Str → Option Value} {base : Heap} {p : Addr}
theorem sc_Store_room : FnScope ["self"] ["self"] (defScope s_Store_room) := ⟨rfl, rfl, rfl, by decide +kernel, rfl, by decide +kernel, by decide +kernel⟩
theorem ok_Store_room (T : Tx w K mg) : FnN P w K mg base 1 m_Store_room (fun vs H Q => ∃ S dS rule C M PL QL, vs = [.ref S] ∧ H S = some (.ins a_Store dS (stF rule C M PL QL)) ∧ Q (.int 200) H) := by
  obtain ⟨fd, F⟩ := T.F_Store_room
  refine F.okN rfl sc_Store_room (fun _ _ _ _ _ _ us hl => match us, hl with | [_], _ => rfl) (fun vs H Q h => ?_) (fun A outer s H vs Q hr h => ⟨_, (pss_one (ps_ret (pe_fld (pv 0) rfl))), ?_⟩)
  · obtain ⟨S, dS, rule, C, M, PL, QL, rfl, _⟩ := h
    rfl
  obtain ⟨S, dS, rule, C, M, PL, QL, rfl, hS, q⟩ := h
  exact ⟨.ref S, rfl, S, _, dS, _, .int 200, rfl, hS, T.c_Store, T.n_Store_most, rfl, q⟩
theorem sc_Transaction_commit : FnScope ["self", "changes", "batch", "cell", "places", "starts", "position", "left", "member", "place"] ["self"] (defScope s_Transaction_commit) := ⟨rfl, rfl, rfl, by decide +kernel, rfl, by decide +kernel, by decide +kernel⟩
theorem ok_Transaction_commit (T : Tx w K mg) : FnN P w K mg base 6 m_Transaction_commit (fun vs H Q => ∃ x dx S A SD bg RL ML dS rule C M PL QL rs rows dA nm wk D st pos B dB nm2 wk2 D2 pos2 kvs tc w0 n0 ps qs, vs = [.ref x] ∧ H x = some (.ins a_Transaction dx (trF S A SD bg RL ML true)) ∧ H S = some (.ins a_Store dS (stF rule C M PL QL)) ∧ rule ∈ rules ∧
    H RL = some (.lst rs) ∧ Paired (RowV H) rs rows ∧ rows.length ≤ 900 ∧ (∀ z ∈ saidW rows, z ∈ wwords) ∧ H A = some (.ins a_Client dA (cliF S nm wk D (posV pos))) ∧ H D = some (.dK (oneI st)) ∧ H B = some (.ins a_Client dB (cliF S nm2 wk2 D2 (posV pos2))) ∧ nm ≠ nm2 ∧
    H M = some (.dK kvs) ∧ (kvs = [(.inr nm, .ref A), (.inr nm2, .ref B)] ∨ kvs = [(.inr nm2, .ref B), (.inr nm, .ref A)]) ∧ H C = some (.dK [(.inr "a", .ref tc)]) ∧ H tc = some (.tup [.str w0, .int n0]) ∧ (setW rows = none ∨ n0 ≤ bg) ∧ H PL = some (.lst ps) ∧ H QL = some (.lst qs) ∧ PL ≠ QL ∧ ps.length ≤ 900 ∧
    qs.length + (foldW rule (saidW rows)).length ≤ 190 ∧
    ∀ H' ct' row qn D', Fr (fun b => b = x ∨ b = A ∨ b = C ∨ b = QL ∨ b = PL) H H' → H' A = some (.ins a_Client dA (cliF S nm .non D' (posV (behP (wishW rows) st pos qs.length)))) → H' D' = some (.dK (oneI (behS (wishW rows) st qs.length))) → H D' = none →
      H' C = some (.dK [(.inr "a", ct')]) → (setW rows = none → ct' = .ref tc) → (∀ z, setW rows = some z → ∃ t, ct' = .ref t ∧ H' t = some (.tup [.str z, .int ((ps.length + 1 : Nat) : Int)])) →
      H' QL = some (.lst (qs ++ qn)) → Paired (QV H') qn ((foldW rule (saidW rows)).map fun z => (ps.length + 1, z)) → H' PL = some (.lst (ps ++ [row])) → Q (.int ((ps.length + 1 : Nat) : Int)) H') := by
  obtain ⟨fd, F⟩ := T.F_Transaction_commit
  refine F.okN rfl sc_Transaction_commit (fun _ _ _ _ _ _ us hl => match us, hl with | [_], _ => rfl) (fun vs H Q h => ?_) (fun A outer s H vs Q hr h => ⟨_, (pss_cons (ps_expr (pe_mt0 (ok_Transaction_need_open T) (hr.mono (by decide)) T.c_Transaction T.me_Transaction_need_open (pv 0))) (pss_cons (ps_set (i := 1) sc_Transaction_commit.nd rfl (Or.inl rfl) (pe_mt0 (ok_Transaction_changes T) (hr.mono (by decide)) T.c_Transaction T.me_Transaction_changes (pv 0))) (pss_cons (ps_set (i := 2) sc_Transaction_commit.nd rfl (Or.inl rfl) (pe_mt0 (ok_Transaction_batch T) (hr.mono (by decide)) T.c_Transaction T.me_Transaction_batch (pv 0))) (pss_cons (ps_for PassesOwn.never rfl (pi_list (pe_callB (call_sortedD (by rfl)) (by rfl) T.z_sorted (by decide +kernel) (pa_cons (pv 1) pa_nil))) (pg_name (i := 3) sc_Transaction_commit.nd rfl (Or.inl rfl)) (pss_one (ps_if (pt_cmpR op_gt (pe_ix ix_tup (pe_dget (hu_of hr) (pe_fld (pe_fld (pv 0) rfl) rfl) (pv 3) (fun _ _ => rfl)) pe_int (fun _ _ => rfl)) (pe_fld (pv 0) rfl) (nomark _)) (pss_one ps_never) pss_nil))) (pss_cons (ps_asg (pe_mt (ok_Listener_behind T) (hr.mono (by decide)) T.c_Client T.me_Client_behind (pe_fld (pv 0) rfl) (pa_cons (pe_mt0 (ok_Transaction_wishes T) (hr.mono (by decide)) T.c_Transaction T.me_Transaction_wishes (pv 0)) pa_nil)) (pg_tup rfl (pgs_cons (pg_name (i := 5) sc_Transaction_commit.nd rfl (Or.inl rfl)) (pgs_cons (pg_name (i := 6) sc_Transaction_commit.nd rfl (Or.inl rfl)) pgs_nil)))) (pss_cons (ps_lock (ps_setLc (i := 4) (own := [("member", 8)]) (tt := tTest (tOp rNe (tFld K (tVar 8) "name") (tFld K (tFld K (tVar 0) "owner") "name"))) (te := tFld K (tVar 8) "position") (by rfl) sc_Transaction_commit.nd rfl rfl (sw_true rfl rfl rfl (by decide +kernel)) (pi_values (pe_fld (pe_fld (pv 0) rfl) rfl)) (blkOk_by (N := ["self", "changes", "batch", "cell", "places", "starts", "position", "left", "member", "place"]) (sc := defScope s_Transaction_commit) (by decide +kernel)) (fun _ _ _ _ _ => by exact (pg_name (i := 8) sc_Transaction_commit.nd rfl (Or.inl rfl))) (fun _ _ _ _ _ => pts_one (pt_cmpR op_ne (pe_fld (pv 8) rfl) (pe_fld (pe_fld (pv 0) rfl) rfl) (nomark _))) (fun _ _ _ _ _ => (pe_fld (pv 8) rfl)))) (pss_cons (ps_setLc (i := 4) (own := [("place", 9)]) (by rfl) sc_Transaction_commit.nd rfl rfl (sw_true rfl rfl rfl (by decide +kernel)) (pi_list (pe_lst (StX.pa_star (pv 4) (pa_cons (pv 6) pa_nil)))) (blkOk_by (N := ["self", "changes", "batch", "cell", "places", "starts", "position", "left", "member", "place"]) (sc := defScope s_Transaction_commit) (by decide +kernel)) (fun _ _ _ _ _ => by exact (pg_name (i := 9) sc_Transaction_commit.nd rfl (Or.inl rfl))) (fun _ _ _ _ _ => pts_one (pt_cmpR op_notN (pv 9) pe_non (nomark _))) (fun _ _ _ _ _ => (pv 9))) (pss_cons (ps_if (pt_cmpR (op_neD hr.units) (pv 4) (pe_lst pa_nil) (nomark _)) (pss_cons (ps_set (i := 7) sc_Transaction_commit.nd rfl (Or.inl rfl) (pe_op op_add (pe_op op_sub (pe_pr (ok_Store_room T) (hr.mono (by decide)) T.c_Store T.p_Store_room (pe_fld (pv 0) rfl) rfl) (pe_callB call_len_seq (by rfl) T.z_len PySem.boot_len (pa_cons (pe_fld (pe_fld (pv 0) rfl) rfl) pa_nil))) (pe_callB (cr_min (by rfl)) (by rfl) T.z_min (by decide +kernel) (pa_cons (pv 4) pa_nil)))) (pss_one (ps_if (pt_cmpR op_gt (pe_callB (call_lenO (ok_Batch_D_len_D T) (hr.mono (by decide : 2 ≤ 5)).in1 T.o_Batch_len (T.F_Batch_D_len_D.elim fun _ F => F.fn)) (by rfl) T.z_len PySem.boot_len (pa_cons (pv 2) pa_nil)) (pv 7) (nomark _)) (pss_one ps_never) pss_nil))) pss_nil) (pss_cons (ps_fld (pe_fld (pv 0) rfl) (pv 5) rfl) (pss_cons (ps_fld (pe_fld (pv 0) rfl) (pv 6) rfl) (pss_cons (ps_expr (pe_mt0 (ok_Transaction_end T) (hr.mono (by decide)) T.c_Transaction T.me_Transaction_end (pv 0))) (pss_one (ps_ret (pe_mt (ok_Store_keep T) (hr.mono (by decide)) T.c_Store T.me_Store_keep (pe_fld (pv 0) rfl) (pa_cons (pe_fld (pe_fld (pv 0) rfl) rfl) (pa_cons (pv 1) (pa_cons (pv 2) pa_nil))))))))))))))))), ?_⟩)
  · obtain ⟨x, dx, S, A, SD, bg, RL, ML, dS, rule, C, M, PL, QL, rs, rows, dA, nm, wk, D, st, pos, B, dB, nm2, wk2, D2, pos2, kvs, tc, w0, n0, ps, qs, rfl, _⟩ := h
    rfl
  obtain ⟨x, dx, S, A, SD, bg, RL, ML, dS, rule, C, M, PL, QL, rs, rows, dA, nm, wk, D, st, pos, B, dB, nm2, wk2, D2, pos2, kvs, tc, w0, n0, ps, qs, rfl, hx, hS, hru, hRL, hrw, hrl, hsw, hA, hD, hB, nn, hM, hkv, hC, htc, hn0, hPL, hQL, nPQ, hpl, hql, q⟩ := h
  have nAB : A ≠ B := fun z => by
    rw [z, hB] at hA
    have e := (Option.some.inj hA)
    injection e with _ _ e3
    injection e3 with _ e4
    injection e4 with e5 _
    injection e5 with _ e6
    exact nn (V.str.inj e6).symm
  have s0 : DS K H (L2.start ["self", "changes", "batch", "cell", "places", "starts", "position", "left", "member", "place"] [.ref x]) [.v (.ref x), .no, .no, .no, .no, .no, .no, .no, .no, .no] := .cons (s := .v _) rfl (DS.nos 9)
  refine ⟨.ref x, rfl, x, dx, _, rfl, hx, rfl, x, dx, S, A, SD, bg, RL, ML, rfl, hx, ?_⟩
  refine ⟨.ref x, rfl, x, dx, _, rfl, hx, rfl, x, dx, S, A, SD, bg, RL, ML, rs, rows, rfl, hx, hRL, hrw, fun CD H1 e1 nCD hCD => ?_⟩
  have s1 := (s0.mono e1.tp).set (i := 1) (s := .v (.ref CD)) (v := .ref CD) rfl
  refine ⟨.ref x, s1.v (i := 0) rfl, x, dx, _, rfl, e1 _ _ hx, rfl, x, dx, S, A, SD, bg, RL, ML, dS, rule, C, M, PL, QL, rs, rows, rfl, e1 _ _ hx, e1 _ _ hS, hru, e1 _ _ hRL, Paired.mapP hrw fun _ _ h => h.mono e1, hrl, hsw, fun b H2 e2 nb hb => ?_⟩
  have s2 := (s1.mono e2.tp).set (i := 2) (s := .v (.ref b)) (v := .ref b) rfl
  have e12 := e1.trans e2
  refine ⟨.ref CD, s2.v (i := 1) rfl, CD, _, keysK (setW rows), rfl, .inl (e2 _ _ hCD), keysK_map _, by cases setW rows <;> simp [keysK], fun ks p pm _ hp => ?_⟩
  have e3 := e12.trans (Same.new (o := HO.lst (ks.map V.str)) hp)
  refine ⟨p, rfl, ⟨_, SqL.of upd_same⟩, ?_⟩
  have hCD3 := (Same.new (o := HO.lst (ks.map V.str)) hp) _ _ (e2 _ _ hCD)
  have hb3 := BatAt.mono hb (Same.new (o := HO.lst (ks.map V.str)) hp)
  have s3 := s2.mono (Same.new (o := HO.lst (ks.map V.str)) hp).tp
  generalize hH3 : upd H2 p (.lst (ks.map V.str)) = H3 at e3 hCD3 hb3 s3 ⊢
  have hp3 : H3 p = some (.lst (ks.map V.str)) := by rw [← hH3]; exact upd_same
  have hgC : ∀ {H' : Hp}, Same H H' → DGet H' C (.str "a") (some (.ref tc)) := fun e => by
    have h := DGet.k (k := .inr "a") (e _ _ hC)
    rw [valV_pos rfl] at h
    exact h
  refine for_it (walk_list (K := K) (a := p) (xs := ks.map V.str)) (fun j σ' H' => Same H3 H' ∧ DS K H' σ' [.v (.ref x), .v (.ref CD), .v (.ref b), .no, .no, .no, .no, .no, .no, .no]) ⟨Same.refl _, s3⟩ (fun j σ' H' _ p => SqL.of (p.1 _ _ hp3)) (fun j xv σ' H' H'' hj ⟨e, s'⟩ y => ?_) (fun σ' H4 ⟨e4, s4⟩ => ?_)
  · obtain ⟨rfl, hxv⟩ := y
    have hxa : xv = .str "a" := by
      have hm := List.mem_of_getElem? hxv
      obtain ⟨z, hz, rfl⟩ := List.mem_map.mp hm
      have hz2 := pm.mem_iff.mp hz
      cases hs : setW rows with
      | none => rw [hs] at hz2; cases hz2
      | some y => rw [hs] at hz2; rw [show z = "a" by simpa [keysK] using hz2]
    have hn0 : n0 ≤ bg := by
      rcases hn0 with h | h
      · have hm := List.mem_of_getElem? hxv
        obtain ⟨z, hz, _⟩ := List.mem_map.mp hm
        have hz2 := pm.mem_iff.mp hz
        rw [h] at hz2
        cases hz2
      · exact h
    subst hxa
    have s5 := s'.set (i := 3) (s := .v (.str "a")) (v := .str "a") rfl
    have ee := e3.trans e
    refine ⟨.ref x, s5.v (i := 0) rfl, x, _, dx, _, .ref S, rfl, ee _ _ hx, T.c_Transaction, T.n_Transaction_store, rfl, S, _, dS, _, .ref C, rfl, ee _ _ hS, T.c_Store, T.n_Store_cells, rfl, .str "a", s5.v (i := 3) rfl, C, .ref tc, rfl, hgC ee, tc, _, 1, _, rfl, rfl, SqT.of (ee _ _ htc), rfl, .ref x, s5.v (i := 0) rfl, x, _, dx, _, .int bg, rfl, ee _ _ hx, T.c_Transaction, T.n_Transaction_began, rfl, _, _, rfl, rfl, _, rfl, ?_⟩
    rw [decide_eq_false (show ¬ bg < n0 by omega)]
    exact iteF ⟨e, s5.wk ⟨.inr rfl, .inr rfl, .inr rfl, .inl rfl, .inr rfl, .inr rfl, .inr rfl, .inr rfl, .inr rfl, .inr rfl, trivial⟩⟩
  have e4 := e3.trans e4
  have hCD4 := (by assumption : Same H3 H4) _ _ hCD3
  have hb4 := BatAt.mono hb3 (by assumption : Same H3 H4)
  refine ⟨.ref x, s4.v (i := 0) rfl, x, _, dx, _, .ref A, rfl, e4 _ _ hx, T.c_Transaction, T.n_Transaction_owner, rfl, A, dA, _, rfl, e4 _ _ hA, rfl, .ref x, s4.v (i := 0) rfl, x, dx, _, rfl, e4 _ _ hx, rfl, x, dx, S, A, SD, bg, RL, ML, rs, rows, rfl, e4 _ _ hx, e4 _ _ hRL, Paired.mapP hrw fun _ _ h => h.mono e4, fun W H5 e5 nW hW => ?_⟩
  have e45 := e4.trans e5
  refine ⟨A, dA, S, nm, wk, D, pos, dS, rule, C, M, PL, QL, W, wishW rows, st, qs, rfl, e45 _ _ hA, e45 _ _ hD, e45 _ _ hS, e45 _ _ hQL, hW, (fun z => by rw [← z, e4 _ _ hD] at nW; cases nW), wishW_ok rows, fun t E H6 e6 nE hE nt ht => ?_⟩
  refine ⟨t, _, rfl, SqT.of ht, rfl, _, _, rfl, _, _, rfl, rfl, ?_⟩
  have e06 := e45.trans e6
  have e46 := e5.trans e6
  have nE0 := e45.free nE
  have s6 := ((s4.mono e46.tp).set (i := 5) (s := .v (.ref E)) (v := .ref E) rfl).set (i := 6) (s := .v (posV (behP (wishW rows) st pos qs.length))) (v := posV (behP (wishW rows) st pos qs.length)) rfl
  have hCD6 := e46 _ _ hCD4
  have hb6 := BatAt.mono hb4 e46
  generalize hnp : behP (wishW rows) st pos qs.length = np at s6 ht q ⊢
  refine ⟨M, _, e06 _ _ hM, trivial, fun om => ?_⟩
  generalize hH7 : upd H6 M (.frz om (.dK kvs)) = H7
  have l7 : ∀ b o, H b = some o → o ≠ .dK kvs → H7 b = some o := fun b o hb hn => by rw [← hH7]; exact lock_in (e06 _ _ hM) (e06 _ _ hb) hn
  have hM7 : H7 M = some (.frz om (.dK kvs)) := by rw [← hH7]; exact upd_same
  have hx7 := l7 _ _ hx (fun z => nomatch z)
  have hA7 := l7 _ _ hA (fun z => nomatch z)
  have hB7 := l7 _ _ hB (fun z => nomatch z)
  have hS7 := l7 _ _ hS (fun z => nomatch z)
  refine ⟨.ref x, s6.v (i := 0) rfl, x, _, dx, _, .ref S, rfl, hx7, T.c_Transaction, T.n_Transaction_store, rfl, S, _, dS, _, .ref M, rfl, hS7, T.c_Store, T.n_Store_members, rfl, M, om, kvs, rfl, hM7, fun P1 hP1 => ?_⟩
  have hkm : ∀ e ∈ kvs, e.2 = .ref A ∨ e.2 = .ref B := fun e he => by
    rcases hkv with h | h
    · rw [h] at he
      rcases List.mem_cons.mp he with h2 | h2
      · exact .inl (by rw [h2])
      · exact .inr (by rw [show e = _ by simpa using h2])
    · rw [h] at he
      rcases List.mem_cons.mp he with h2 | h2
      · exact .inr (by rw [h2])
      · exact .inl (by rw [show e = _ by simpa using h2])
  have hkf : kvs.flatMap (fun e => if e.2 = .ref A then [] else [posV pos2]) = [posV pos2] := by
    have h1 : ¬ V.ref B = V.ref A := fun z => nAB (V.ref.inj z).symm
    rcases hkv with h | h
    · rw [h]
      simp [h1]
    · rw [h]
      simp [h1]
  have hkl : kvs.length ≤ 2 := by rcases hkv with h | h <;> rw [h] <;> exact Nat.le_refl 2
  refine lc_it walk_values (fun j H' => Same H7 H' ∧ ∃ acc, H' P1 = some (.lst acc) ∧ acc.length ≤ j ∧ acc = (kvs.take j).flatMap (fun e => if e.2 = .ref A then [] else [posV pos2])) ⟨Same.new hP1, [], upd_same, Nat.le_refl 0, rfl⟩ (fun j H' _ p => p.1 _ _ hM7) (fun j xv H' H'' hj ⟨e, acc, hP, hal, hac⟩ y => ?_) (fun H8 ⟨e, acc, hP, hal, hac⟩ => ?_)
  · obtain ⟨rfl, kk, hk⟩ := y
    have tk : (kvs.take (j + 1)).flatMap (fun e => if e.2 = .ref A then [] else [posV pos2]) = acc ++ (if xv = .ref A then [] else [posV pos2]) := by
      rw [List.take_add_one, hk, List.flatMap_append, ← hac]
      simp
    have hm := hkm _ (List.mem_of_getElem? hk)
    rcases hm with h | h
    · have h : xv = .ref A := h
      subst h
      have s8 := (s6.setNo (i := 8)).set (i := 8) (s := .v (.ref A)) (v := .ref A) rfl
      refine ⟨wipe_set, .ref A, s8.v (i := 8) rfl, A, _, dA, _, .str nm, rfl, e _ _ hA7, T.c_Client, T.n_Client_name, rfl, .ref x, s8.v (i := 0) rfl, x, _, dx, _, .ref A, rfl, e _ _ hx7, T.c_Transaction, T.n_Transaction_owner, rfl, A, _, dA, _, .str nm, rfl, e _ _ hA7, T.c_Client, T.n_Client_name, rfl, rfl, _, rfl, ?_⟩
      rw [decide_eq_true rfl]
      refine iteF ⟨e, acc, hP, by omega, ?_⟩
      rw [tk, if_pos rfl, List.append_nil]
    · have h : xv = .ref B := h
      subst h
      have s8 := (s6.setNo (i := 8)).set (i := 8) (s := .v (.ref B)) (v := .ref B) rfl
      refine ⟨wipe_set, .ref B, s8.v (i := 8) rfl, B, _, dB, _, .str nm2, rfl, e _ _ hB7, T.c_Client, T.n_Client_name, rfl, .ref x, s8.v (i := 0) rfl, x, _, dx, _, .ref A, rfl, e _ _ hx7, T.c_Transaction, T.n_Transaction_owner, rfl, A, _, dA, _, .str nm, rfl, e _ _ hA7, T.c_Client, T.n_Client_name, rfl, rfl, _, rfl, ?_⟩
      rw [decide_eq_false fun z => nn (V.str.inj z).symm]
      refine iteT ⟨.ref B, s8.v (i := 8) rfl, B, _, dB, _, posV pos2, rfl, e _ _ hB7, T.c_Client, T.n_Client_position, rfl, acc, hP, small1000 (by omega), KX.Same.upd e hP1, acc ++ [posV pos2], upd_same, by rw [List.length_append, List.length_singleton]; omega, ?_⟩
      rw [tk, if_neg fun z => nAB (V.ref.inj z).symm]
  rw [List.take_of_length_le (Nat.le_refl _), hkf] at hac
  subst hac
  refine ⟨e _ _ hM7, ?_⟩
  rw [← hH7] at e hP1
  have e68 := lock_back (e06 _ _ hM) e
  have nPM : P1 ≠ M := fun z => by rw [z, upd_same] at hP1; cases hP1
  have hP18 : upd H8 M (.dK kvs) P1 = some (.lst [posV pos2]) := (upd_ne nPM).trans hP
  generalize upd H8 M (.dK kvs) = H9 at e68 hP18 ⊢
  have e09 := e06.trans e68
  have s9 := (s6.mono e68.tp).set (i := 4) (s := .v (.ref P1)) (v := .ref P1) rfl
  have hCD9 := e68 _ _ hCD6
  have hb9 := BatAt.mono hb6 e68
  have hE9 := e68 _ _ hE
  refine ⟨.ref P1, s9.v (i := 4) rfl, P1, _, rfl, .inr (SqL.of hP18), posV np, s9.v (i := 6) rfl, show 2 ≤ sizeLine by decide, fun L hL => ⟨L, rfl, ⟨_, SqL.of upd_same⟩, fun P2 hP2 => ?_⟩⟩
  have e9L := Same.new (o := HO.lst ([posV pos2] ++ [posV np])) hL
  refine lc_it (walk_list (K := K) (a := L) (xs := [posV pos2, posV np])) (fun j H' => Same (upd H9 L (.lst ([posV pos2] ++ [posV np]))) H' ∧ ∃ acc, H' P2 = some (.lst acc) ∧ acc.length ≤ j ∧ acc = ([posV pos2, posV np].take j).flatMap notN) ⟨Same.new hP2, [], upd_same, Nat.le_refl 0, rfl⟩ (fun j H' _ p => SqL.of (p.1 _ _ upd_same)) (fun j xv H' H'' hj ⟨e, acc, hP, hal, hac⟩ y => ?_) (fun H10 ⟨e, acc, hP, hal, hac⟩ => ?_)
  · obtain ⟨rfl, hk⟩ := y
    have tk : ([posV pos2, posV np].take (j + 1)).flatMap notN = acc ++ notN xv := by
      rw [List.take_add_one, hk, List.flatMap_append, ← hac]
      simp
    have s11 := (s9.setNo (i := 9)).set (i := 9) (s := .v xv) (v := xv) rfl
    have ho : ∃ o, xv = posV o := by
      have hm := List.mem_of_getElem? hk
      rcases List.mem_cons.mp hm with h | h
      · exact ⟨_, h⟩
      · exact ⟨np, by simpa using h⟩
    obtain ⟨o, rfl⟩ := ho
    refine ⟨wipe_set, posV o, s11.v (i := 9) rfl, rfl, _, rfl, ?_⟩
    rcases posV_notN o with ⟨h1, h2⟩ | ⟨h1, h2⟩
    · rw [h1]
      refine iteT ⟨posV o, s11.v (i := 9) rfl, acc, hP, small1000 (by have h3 : j < 2 := hj; omega), KX.Same.upd e hP2, acc ++ [posV o], upd_same, by rw [List.length_append, List.length_singleton]; omega, ?_⟩
      rw [tk, h2]
    · rw [h1]
      refine iteF ⟨e, acc, hP, by omega, ?_⟩
      rw [tk, h2, List.append_nil]
  rw [List.take_of_length_le (Nat.le_refl _), plist_eq] at hac
  subst hac
  have e910 := e9L.trans e
  have e010 := e09.trans e910
  have s10 := (s9.mono e910.tp).set (i := 4) (s := .v (.ref P2)) (v := .ref P2) rfl
  have hCD10 := e910 _ _ hCD9
  have hb10 := BatAt.mono hb9 e910
  have hE10 := e910 _ _ hE9
  dsimp only [gName]
  refine seq_key (fun σ' H' => Same H10 H' ∧ DS K H' σ' [.v (.ref x), .v (.ref CD), .v (.ref b), .no, .no, .v (.ref E), .v (posV np), .no, .no, .no]) (fun nx hk => ?_) (fun σ' H11 p => ?_)
  · refine ⟨.ref P2, s10.v (i := 4) rfl, Nat.zero_le _, fun e0 he0 => ?_⟩
    have e11 := Same.new (o := HO.lst []) he0
    refine ⟨.list ((plist pos2 np).map .int), .list [], .lst (SqL.of (e11 _ _ hP)) (DTs.dp _ _ (DTs.int (plist pos2 np))), .lst (SqL.of upd_same) .nil, shaped_intsL _, shaped_intsL [], _, rfl, ?_⟩
    rw [eqv_nil]
    have e011 := e010.trans e11
    have s11 := s10.mono e11.tp
    have sw : DS K _ _ [.v (.ref x), .v (.ref CD), .v (.ref b), .no, .no, .v (.ref E), .v (posV np), .no, .no, .no] := s11.wk ⟨.inr rfl, .inr rfl, .inr rfl, .inr rfl, .inl rfl, .inr rfl, .inr rfl, .inr rfl, .inr rfl, .inr rfl, trivial⟩
    have hP11 := e11 _ _ hP
    have hb11 := BatAt.mono hb10 e11
    generalize upd H10 e0 (.lst []) = H11 at e11 e011 s11 sw hP11 hb11 ⊢
    cases hpl0 : (plist pos2 np).isEmpty with
    | true => exact iteF (hk _ _ ⟨e11, sw⟩)
    | false =>
      have hpos : 0 < (plist pos2 np).length := by
        cases hq : plist pos2 np with
        | nil => rw [hq] at hpl0; cases hpl0
        | cons a l => exact Nat.succ_pos _
      refine iteT ⟨.ref x, s11.v (i := 0) rfl, x, _, dx, _, .ref S, rfl, e011 _ _ hx, T.c_Transaction, T.n_Transaction_store, rfl, S, dS, _, rfl, e011 _ _ hS, S, dS, rule, C, M, PL, QL, rfl, e011 _ _ hS, ?_⟩
      refine ⟨.ref x, s11.v (i := 0) rfl, x, _, dx, _, .ref S, rfl, e011 _ _ hx, T.c_Transaction, T.n_Transaction_store, rfl, S, _, dS, _, .ref QL, rfl, e011 _ _ hS, T.c_Store, T.n_Store_queue, rfl, QL, qs, rfl, .inl (SqL.of (e011 _ _ hQL)), _, _, rfl, rfl, ?_⟩
      refine ⟨.ref P2, s11.v (i := 4) rfl, P2, plist pos2 np, rfl, SqL.of hP11, hpos, fun m hm _ => ⟨_, _, rfl, rfl, ?_⟩⟩
      have hm0 := plist_pos hm
      have s12 := s11.set (i := 7) (s := .v (.int ((200 : Int) - (qs.length : Nat) + m))) (v := .int ((200 : Int) - (qs.length : Nat) + m)) rfl
      have hb12 := hb11
      obtain ⟨db, tb, yb, hbi, _, _⟩ := hb12
      refine ⟨.ref b, s12.v (i := 2) rfl, b, db, _, rfl, hbi, b, rule, _, rfl, hb11, _, rfl, by omega, .int ((200 : Int) - (qs.length : Nat) + m), s12.v (i := 7) rfl, _, _, rfl, rfl, _, rfl, ?_⟩
      rw [decide_eq_false (show ¬ ((200 : Int) - (qs.length : Nat) + m < ((foldW rule (saidW rows)).length : Nat)) by omega)]
      exact iteF (hk _ _ ⟨e11, s12.wk ⟨.inr rfl, .inr rfl, .inr rfl, .inr rfl, .inl rfl, .inr rfl, .inr rfl, .inl rfl, .inr rfl, .inr rfl, trivial⟩⟩)
  · obtain ⟨e11, s11⟩ := p
    have e011 := e010.trans e11
    have hCD11 := e11 _ _ hCD10
    have hb11 := BatAt.mono hb10 e11
    have hE11 := e11 _ _ hE10
    have hx11 := e011 _ _ hx
    have hA11 := e011 _ _ hA
    have nxA : x ≠ A := ne_of hx hA (fun z => nomatch z)
    have nEA : E ≠ A := fun z => by rw [z, hA] at nE0; cases nE0
    have nEx : E ≠ x := fun z => by rw [z, hx] at nE0; cases nE0
    refine ⟨.ref E, s11.v (i := 5) rfl, .ref x, s11.v (i := 0) rfl, x, _, dx, _, .ref A, rfl, hx11, T.c_Transaction, T.n_Transaction_owner, rfl, A, _, dA, _, rfl, hA11, T.c_Client, T.n_Client_starts, Nat.le_of_ble_eq_true rfl, ?_⟩
    refine ⟨posV np, s11.v (i := 6) rfl, .ref x, s11.v (i := 0) rfl, x, _, dx, _, .ref A, rfl, (upd_ne nxA).trans hx11, T.c_Transaction, T.n_Transaction_owner, rfl, A, _, dA, _, rfl, upd_same, T.c_Client, T.n_Client_position, Nat.le_of_ble_eq_true rfl, ?_⟩
    refine ⟨.ref x, s11.v (i := 0) rfl, x, dx, _, rfl, (upd_ne nxA).trans ((upd_ne nxA).trans hx11), rfl, x, dx, S, A, SD, bg, RL, ML, dA, S, nm, wk, E, posV np, rfl, (upd_ne nxA).trans ((upd_ne nxA).trans hx11), upd_same, ?_⟩
    generalize hH12 : upd (upd (upd (upd H11 A _) A _) x _) A _ = H12
    have k12 : ∀ c o, H11 c = some o → c ≠ A → c ≠ x → H12 c = some o := fun c o hc h1 h2 => by
      rw [← hH12]
      exact (upd_ne h1).trans ((upd_ne h2).trans ((upd_ne h1).trans ((upd_ne h1).trans hc)))
    have hA12 : H12 A = some (.ins a_Client dA (cliF S nm .non E (posV np))) := by rw [← hH12]; exact upd_same
    have hx12 : H12 x = some (.ins a_Transaction dx (trF S A SD bg RL ML false)) := by rw [← hH12]; exact (upd_ne nxA).trans upd_same
    have hb12 : BatAt K H12 b rule (foldW rule (saidW rows)) := by
      rw [← hH12]
      exact (((hb11.updN hA11 rfl (fun _ _ z => by cases z) (fun _ _ z => by cases z)).updN upd_same rfl (fun _ _ z => by cases z) (fun _ _ z => by cases z)).updN ((upd_ne nxA).trans ((upd_ne nxA).trans hx11)) rfl (fun _ _ z => by cases z) (fun _ _ z => by cases z)).updN ((upd_ne nxA.symm).trans upd_same) rfl (fun _ _ z => by cases z) (fun _ _ z => by cases z)
    have kd : ∀ c o, H c = some o → c ≠ A → c ≠ x → H12 c = some o := fun c o hc h1 h2 => k12 c o (e011 _ _ hc) h1 h2
    have hS12 := kd _ _ hS (ne_of hS hA (fun z => nomatch z)) (ne_of hS hx (fun z => nomatch z))
    have hC12 := kd _ _ hC (ne_of hC hA (fun z => nomatch z)) (ne_of hC hx (fun z => nomatch z))
    have hP12 := kd _ _ hPL (ne_of hPL hA (fun z => nomatch z)) (ne_of hPL hx (fun z => nomatch z))
    have hQ12 := kd _ _ hQL (ne_of hQL hA (fun z => nomatch z)) (ne_of hQL hx (fun z => nomatch z))
    have hCD12 := k12 _ _ hCD11 (ne_of hCD11 hA11 (fun z => nomatch z)) (ne_of hCD11 hx11 (fun z => nomatch z))
    refine ⟨.ref x, s11.v (i := 0) rfl, x, _, dx, _, .ref S, rfl, hx12, T.c_Transaction, T.n_Transaction_store, rfl, S, dS, _, rfl, hS12, rfl, .ref x, s11.v (i := 0) rfl, x, _, dx, _, .ref A, rfl, hx12, T.c_Transaction, T.n_Transaction_owner, rfl, A, _, dA, _, .str nm, rfl, hA12, T.c_Client, T.n_Client_name, rfl, .ref CD, s11.v (i := 1) rfl, .ref b, s11.v (i := 2) rfl, ?_⟩
    refine ⟨S, dS, rule, C, M, PL, QL, nm, CD, b, setW rows, foldW rule (saidW rows), .ref tc, ps, qs, rfl, hS12, hC12, hP12, hQ12, hCD12, hb12, (fun z => by rw [z] at hC; rw [hC] at nCD; cases nCD), nPQ, hpl, by omega, fun H' ct' row qn fr c1 c2 c3 c4 c5 c6 => ?_⟩
    refine q H' ct' row qn E (fun c o hc hn => fr _ _ (kd _ _ hc (fun z => hn (.inr (.inl z))) (fun z => hn (.inl z))) (fun z => hn (.inr (.inr z)))) (fr _ _ hA12 ?_) (fr _ _ (k12 _ _ hE11 nEA nEx) ?_) nE0 c1 c2 c3 c4 c5 c6
    · rintro (z | z | z)
      · exact ne_of hC hA (fun z => nomatch z) z.symm
      · exact ne_of hQL hA (fun z => nomatch z) z.symm
      · exact ne_of hPL hA (fun z => nomatch z) z.symm
    · rintro (z | z | z)
      · rw [z, hC] at nE0; cases nE0
      · rw [z, hQL] at nE0; cases nE0
      · rw [z, hPL] at nE0; cases nE0
end
end KX
set_option maxHeartbeats 4000000
namespace KX
open PySem PySem.Spec PyProof.Rows L2
theorem foldW_nil (rule : Str) : foldW rule [] = [] := by
  unfold foldW
  split
  · rfl
  · split <;> rfl
theorem one_row {z : Str} (hz : z = "listen" ∨ z = "unlisten") : ∃ ro : Row, (∀ (H : Hp) (t : Addr), H t = some (.tup [.str z, .str "a"]) → RowV H (.ref t) ro) ∧ setW [ro] = none ∧ saidW [ro] = [] ∧ wishW [ro] = some z := by
  rcases hz with rfl | rfl
  · exact ⟨.lis, fun H t h => ⟨t, rfl, h⟩, rfl, rfl, rfl⟩
  · exact ⟨.unl, fun H t h => ⟨t, rfl, h⟩, rfl, rfl, rfl⟩
theorem ev_kget {K : PySem.W.Frag} {G : Gm} {ss : List SV} {tk tx : TE} {d : Addr} {z : Str} {x : PyData} {n : Int} (h1 : EvD K G tk ss (.str z)) (h2 : EvD K G tx ss x) (hn : ∃ u, PySem.W.nsIn K d z = some (some u) ∧ RelV (.int n) u) : EvD K G (tKGet2 K d (tC (.ref d)) tk tx) ss (.int n) := fun σ H g s Q q =>
  ⟨rfl, h1 σ H g s _ fun v H1 e1 a1 => by
    cases a1
    refine h2 σ H1 (G.mono _ _ g e1) (s.mono e1.tp) _ fun v2 H2 e2 _ => ?_
    obtain ⟨u, hu, r⟩ := hn
    exact ⟨z, u, _, rfl, hu, r, q _ H2 (e1.trans e2) (.int _)⟩⟩
section
variable {P : Program} {w : World} {K : PySem.W.Frag} {mg : Str → Option Value} {base : Heap} {p : Addr}
theorem sc_do_step : FnScope ["work", "step"] ["work", "step"] (defScope s_do_step) := ⟨rfl, rfl, rfl, by decide +kernel, rfl, by decide +kernel, by decide +kernel⟩
theorem ok_do_step (T : Tx w K mg) : FnN P w K mg base 5 a_do_step (fun vs H Q => ∃ x t z dx S A SD bg RL ML rs, vs = [.ref x, .ref t] ∧ H t = some (.tup [.str z, .str "a"]) ∧ (z = "listen" ∨ z = "unlisten") ∧ H x = some (.ins a_Transaction dx (trF S A SD bg RL ML true)) ∧ H RL = some (.lst rs) ∧ rs.length ≤ 900 ∧
    ∀ u H', Fr (· = RL) H H' → H u = none → H' u = some (.tup [.str z, .str "a"]) → H' RL = some (.lst (rs ++ [.ref u])) → Q .non H') := by
  obtain ⟨fd, F⟩ := T.F_do_step
  obtain ⟨es, n, D⟩ := T.tab
  refine F.okN rfl sc_do_step (fun _ _ _ _ _ _ us hl => match us, hl with | [_, _], _ => rfl) (fun vs H Q h => ?_) (fun A outer s H vs Q hr h => ⟨_, (pss_cons (ps_if (PW.pt (pw_or (pt_not (pt_val (pe_callB call_isi (by rfl) T.z_isinstance (by decide +kernel) (pa_cons (pv 1) (pa_cons (pe_ty (n := "tuple") T.z_tuple (by decide +kernel)) pa_nil))))) (pw_or (pt_cmpR op_eq (pe_callB call_len (by rfl) T.z_len PySem.boot_len (pa_cons (pv 1) pa_nil)) pe_int (nomark _)) (pw_or1 (pt_not (pt_val (pe_callB call_isi (by rfl) T.z_isinstance (by decide +kernel) (pa_cons (pe_ix ix_tup (pv 1) pe_int (fun _ _ => rfl)) (pa_cons (pe_ty (n := "str") T.z_str (by decide +kernel)) pa_nil))))))))) (pss_one ps_never) pss_nil) (pss_cons (ps_if (pt_cmpR op_ne (pe_kget2 D (pe_gr T.g_LENGTHS) (pe_ix ix_tup (pv 1) pe_int (fun _ _ => rfl)) pe_int ⟨rfl, by rfl, rfl, rfl⟩) (pe_callB call_len (by rfl) T.z_len PySem.boot_len (pa_cons (pv 1) pa_nil)) (nomark _)) (pss_one ps_never) pss_nil) (pss_one (ps_if (pt_cmpR op_eq (pe_ix ix_tup (pv 1) pe_int (fun _ _ => rfl)) pe_str (nomark _)) (pss_one ps_never) (pss_one (ps_if (pt_cmpR op_eq (pe_ix ix_tup (pv 1) pe_int (fun _ _ => rfl)) pe_str (nomark _)) (pss_one ps_never) (pss_one (ps_if (pt_cmpR op_eq (pe_ix ix_tup (pv 1) pe_int (fun _ _ => rfl)) pe_str (nomark _)) (pss_one (ps_expr (pe_mt (ok_Transaction_listen T) (hr.mono (by decide)) T.c_Transaction T.me_Transaction_listen (pv 0) (pa_cons (pe_ix ix_tup (pv 1) pe_int (fun _ _ => rfl)) pa_nil)))) (pss_one (ps_expr (pe_mt (ok_Transaction_unlisten T) (hr.mono (by decide)) T.c_Transaction T.me_Transaction_unlisten (pv 0) (pa_cons (pe_ix ix_tup (pv 1) pe_int (fun _ _ => rfl)) pa_nil)))))))))))), ?_⟩)
  · obtain ⟨x, t, z, dx, S, A, SD, bg, RL, ML, rs, rfl, _⟩ := h
    rfl
  obtain ⟨x, t, z, dx, S, A, SD, bg, RL, ML, rs, rfl, ht, hz, hx, hRL, hl, q⟩ := h
  have s0 : DS K H (L2.start ["work", "step"] [.ref x, .ref t]) [.v (.ref x), .d (.tuple [.str z, .str "a"])] := .cons (s := .v _) rfl (.cons (s := .d _) ⟨_, rfl, .tup ht (.cons (.str _) (.cons (.str _) .nil))⟩ .nil)
  have hk : ∃ u, PySem.W.nsIn K a_LENGTHS z = some (some u) ∧ RelV (V.int 2) u := by
    rcases hz with rfl | rfl
    · exact He.valsB_ok T.lits (q := ("listen", .int 2)) (by simp)
    · exact He.valsB_ok T.lits (q := ("unlisten", .int 2)) (by simp)
  have hns : ¬ z = ("set" : Str) := by rcases hz with rfl | rfl <;> decide +kernel
  have hny : ¬ z = ("say" : Str) := by rcases hz with rfl | rfl <;> decide +kernel
  refine StD.go (G := gS H) ?_ (Same.refl H) s0
  have ix0 : EvD K (gS H) (tOp (rIxT K) (tVar 1) (tC (.int 0))) [.v (.ref x), .d (.tuple [.str z, .str "a"])] (.str z) := ev_ix (ev_var rfl) ev_int rfl
  have ix1 : EvD K (gS H) (tOp (rIxT K) (tVar 1) (tC (.int 1))) [.v (.ref x), .d (.tuple [.str z, .str "a"])] (.str "a") := ev_ix (ev_var rfl) ev_int rfl
  refine q_not (evt_oF (evt_nF (evt_test (ev_isi (ev_var rfl) kb_tup_tup))) (evt_oF (evt_to (evt_test (ev_eqi (ev_len rfl (ev_var rfl)) ev_int)) rfl) (evt_nF (evt_test (ev_isi ix0 kb_str_str))))) ?_
  refine q_not (evt_to (evt_test (ev_nei (ev_kget ix0 ev_int hk) (ev_len rfl (ev_var rfl)))) rfl) ?_
  refine s_if (evt_test (ev_eqs ix0 ev_str)) (fun h => absurd (of_decide_eq_true h) hns) fun _ => ?_
  refine s_if (evt_test (ev_eqs ix0 ev_str)) (fun h => absurd (of_decide_eq_true h) hny) fun _ => ?_
  refine s_if (evt_test (ev_eqs ix0 ev_str)) (fun h σ H1 e1 s1 => ?_) fun h σ H1 e1 s1 => ?_
  · have e1 : Same H H1 := e1
    have hz1 : z = ("listen" : Str) := of_decide_eq_true h
    subst hz1
    refine ⟨.ref x, s1.v (i := 0) rfl, x, dx, _, rfl, e1 _ _ hx, rfl, ix1 σ H1 e1 s1 _ fun v H2 e2 d => ?_⟩
    cases d
    have e12 := e1.trans e2
    exact ⟨x, dx, S, A, SD, bg, RL, ML, rs, rfl, e12 _ _ hx, e12 _ _ hRL, hl, fun u H' fr hu h1 h2 => q u H' (fun b o hb hn => fr b o (e12 _ _ hb) hn) (e12.free hu) h1 h2⟩
  · have e1 : Same H H1 := e1
    have hz1 : z = ("unlisten" : Str) := by
      rcases hz with hz | hz
      · exact absurd hz (of_decide_eq_false h)
      · exact hz
    subst hz1
    refine ⟨.ref x, s1.v (i := 0) rfl, x, dx, _, rfl, e1 _ _ hx, rfl, ix1 σ H1 e1 s1 _ fun v H2 e2 d => ?_⟩
    cases d
    have e12 := e1.trans e2
    exact ⟨x, dx, S, A, SD, bg, RL, ML, rs, rfl, e12 _ _ hx, e12 _ _ hRL, hl, fun u H' fr hu h1 h2 => q u H' (fun b o hb hn => fr b o (e12 _ _ hb) hn) (e12.free hu) h1 h2⟩
theorem sc_Sender_run : FnScope ["self", "steps", "work", "step"] ["self", "steps"] (defScope s_Sender_run) := ⟨rfl, rfl, rfl, by decide +kernel, rfl, by decide +kernel, by decide +kernel⟩
theorem ok_Sender_run (T : Tx w K mg) : FnN P w K mg base 7 m_Sender_run (fun vs H Q => ∃ A t z dA S nm D st pos dS rule C M PL QL B dB nm2 wk2 D2 pos2 kvs tc w0 n0 ps qs, vs = [.ref A, .ref t] ∧ H t = some (.tup [.str z, .str "a"]) ∧ (z = "listen" ∨ z = "unlisten") ∧
    H A = some (.ins a_Client dA (cliF S nm .non D (posV pos))) ∧ H S = some (.ins a_Store dS (stF rule C M PL QL)) ∧ rule ∈ rules ∧ H D = some (.dK (oneI st)) ∧ H B = some (.ins a_Client dB (cliF S nm2 wk2 D2 (posV pos2))) ∧ nm ≠ nm2 ∧
    H M = some (.dK kvs) ∧ (kvs = [(.inr nm, .ref A), (.inr nm2, .ref B)] ∨ kvs = [(.inr nm2, .ref B), (.inr nm, .ref A)]) ∧ H C = some (.dK [(.inr "a", .ref tc)]) ∧ H tc = some (.tup [.str w0, .int n0]) ∧ H PL = some (.lst ps) ∧ H QL = some (.lst qs) ∧ PL ≠ QL ∧ ps.length ≤ 900 ∧ qs.length ≤ 190 ∧
    ∀ H' row D', Fr (fun b => b = A ∨ b = C ∨ b = QL ∨ b = PL) H H' → H' A = some (.ins a_Client dA (cliF S nm .non D' (posV (behP (some z) st pos qs.length)))) → H' D' = some (.dK (oneI (behS (some z) st qs.length))) → H D' = none →
      H' C = some (.dK [(.inr "a", .ref tc)]) → H' QL = some (.lst qs) → H' PL = some (.lst (ps ++ [row])) → Q (.int ((ps.length + 1 : Nat) : Int)) H') := by
  obtain ⟨fd, F⟩ := T.F_Sender_run
  refine FnN.imp (F.okStar (k := 6) (sp := fun vs H Q => ∃ A r t z dA S nm D st pos dS rule C M PL QL B dB nm2 wk2 D2 pos2 kvs tc w0 n0 ps qs, vs = [.ref A, .ref r] ∧ H r = some (.tup [.ref t]) ∧ H t = some (.tup [.str z, .str "a"]) ∧ (z = "listen" ∨ z = "unlisten") ∧
    H A = some (.ins a_Client dA (cliF S nm .non D (posV pos))) ∧ H S = some (.ins a_Store dS (stF rule C M PL QL)) ∧ rule ∈ rules ∧ H D = some (.dK (oneI st)) ∧ H B = some (.ins a_Client dB (cliF S nm2 wk2 D2 (posV pos2))) ∧ nm ≠ nm2 ∧
    H M = some (.dK kvs) ∧ (kvs = [(.inr nm, .ref A), (.inr nm2, .ref B)] ∨ kvs = [(.inr nm2, .ref B), (.inr nm, .ref A)]) ∧ H C = some (.dK [(.inr "a", .ref tc)]) ∧ H tc = some (.tup [.str w0, .int n0]) ∧ H PL = some (.lst ps) ∧ H QL = some (.lst qs) ∧ PL ≠ QL ∧ ps.length ≤ 900 ∧ qs.length ≤ 190 ∧
    ∀ H' row D', Fr (fun b => b = A ∨ b = C ∨ b = QL ∨ b = PL) H H' → H' A = some (.ins a_Client dA (cliF S nm .non D' (posV (behP (some z) st pos qs.length)))) → H' D' = some (.dK (oneI (behS (some z) st qs.length))) → H D' = none →
      H' C = some (.dK [(.inr "a", .ref tc)]) → H' QL = some (.lst qs) → H' PL = some (.lst (ps ++ [row])) → Q (.int ((ps.length + 1 : Nat) : Int)) H') (ps := ["self"]) (pv := "steps") rfl sc_Sender_run (fun kV doc pm an cdv ct => StX.bind_star1 (B := fun l => bindArgs (PySem.W.fnOf d_Sender_run.name d_Sender_run.qual (defArgs d_Sender_run.st) (defBody d_Sender_run.st) (defScope d_Sender_run.st) .none kV doc pm an cdv ct) ⟨l, []⟩) (fun _ => rfl) (fun _ _ _ => rfl)) (fun A outer s H vs Q hr h => ⟨_, (pss_cons (ps_set (i := 2) sc_Sender_run.nd rfl (Or.inl rfl) (pe_mt0 (ok_Sender_begin T) (hr.mono (by decide)) T.c_Client T.me_Client_begin (pv 0))) (pss_one (ps_try_only (tb := fun W => tSeq (tFor (iTup K (tVar 1)) (gName 3) (tDrop (tCl _ (tCons (tVar 2) (tCons (tVar 3) tNil))))) (tRet (tMt a_Transaction "commit" _ (tVar 2) tNil))) rfl rfl ⟨rfl, by decide, .inl T.g_NewsError⟩ takes0 (fun W pn xe tk po => by exact (pss_cons (ps_for po rfl (pi_tup (pv 1)) (pg_name (i := 3) sc_Sender_run.nd rfl (Or.inl rfl)) (pss_one (ps_expr (pe_cl (ok_do_step T) (hr.mono (by decide)) T.kp_do_step T.g_do_step (pa_cons (pv 2) (pa_cons (pv 3) pa_nil)))))) (pss_one (ps_ret (pe_mt0 (ok_Transaction_commit T) (hr.mono (by decide)) T.c_Transaction T.me_Transaction_commit (pv 2)))))) (fun a oe cls d pn _ _ => (pss_cons ps_never (pss_one ps_never)))))), ?_⟩)) ?_
  · obtain ⟨A, r, t, z, dA, S, nm, D, st, pos, dS, rule, C, M, PL, QL, B, dB, nm2, wk2, D2, pos2, kvs, tc, w0, n0, ps, qs, rfl, hr1, ht, hz, hA, hS, hru, hD, hB, nn, hM, hkv, hC, htc, hPL, hQL, nPQ, hpl, hql, q⟩ := h
    obtain ⟨ro, hro, hset, hsaid, hwish⟩ := one_row hz
    have s0 : DS K H (L2.start ["self", "steps", "work", "step"] [.ref A, .ref r]) [.v (.ref A), .v (.ref r), .no, .no] := .cons (s := .v _) rfl (.cons (s := .v _) rfl (DS.nos 2))
    refine ⟨.ref A, rfl, A, dA, _, rfl, hA, rfl, A, dA, S, nm, D, posV pos, dS, rule, C, M, PL, QL, _, ps, rfl, hA, hS, hC, hPL, fun x dx SD RL ML H1 fr hA1 hx hSD hRL hML nx nSD nRL nML nRM => ?_⟩
    have k1 : ∀ b o, H b = some o → b ≠ A → H1 b = some o := fun b o hb hn => fr b o hb hn
    have tp1 : Tp K H H1 := fun b xs hb => fr b _ hb (ne_of hb hA (fun z => nomatch z))
    have s1 := (s0.mono tp1).set (i := 2) (s := .v (.ref x)) (v := .ref x) rfl
    have hr2 := k1 _ _ hr1 (ne_of hr1 hA (fun z => nomatch z))
    have ht1 := k1 _ _ ht (ne_of ht hA (fun z => nomatch z))
    have nRA : RL ≠ A := fun z => by rw [z, hA] at nRL; cases nRL
    refine ⟨.ref r, rfl, r, rfl, ⟨_, SqT.of hr2⟩, ?_⟩
    refine for_it (walk_tup (K := K) (a := r) (xs := [.ref t])) (fun j σ' H' => Fr (· = RL) H1 H' ∧ DS K H' σ' [.v (.ref A), .v (.ref r), .v (.ref x), .no] ∧ ((j = 0 ∧ H' RL = some (.lst [])) ∨ (j = 1 ∧ ∃ u, H' u = some (.tup [.str z, .str "a"]) ∧ H' RL = some (.lst [.ref u])))) ⟨fun b o h _ => h, s1, .inl ⟨rfl, hRL⟩⟩ (fun j σ' H' _ p => SqT.of (p.1 _ _ hr2 (ne_of hr2 hRL (fun z => nomatch z)))) (fun j xv σ' H' H'' hj ⟨f2, s', hc⟩ y => ?_) (fun σ' H2 ⟨f2, s', hc⟩ => ?_)
    · obtain ⟨rfl, hxv⟩ := y
      obtain rfl : j = 0 := Nat.lt_one_iff.mp hj
      cases hxv
      rcases hc with ⟨_, hR⟩ | ⟨h, _⟩
      · have s2 := s'.set (i := 3) (s := .v (.ref t)) (v := .ref t) rfl
        refine ⟨.ref x, s2.v (i := 2) rfl, .ref t, s2.v (i := 3) rfl, x, t, z, dx, S, A, SD, _, RL, ML, [], rfl, f2 _ _ ht1 (ne_of ht1 hRL (fun z => nomatch z)), hz, f2 _ _ hx (ne_of hx hRL (fun z => nomatch z)), hR, Nat.zero_le _, fun u H' f3 hu h1 h2 => ?_⟩
        refine ⟨fun b o hb hn => f3 b o (f2 b o hb hn) hn, (s2.mono fun b xs hb => f3 b _ hb (ne_of hb hR (fun z => nomatch z))).wk ⟨.inr rfl, .inr rfl, .inr rfl, .inl rfl, trivial⟩, .inr ⟨rfl, u, h1, h2⟩⟩
      · cases h
    · rcases hc with ⟨h, _⟩ | ⟨_, u, hu, hR⟩
      · cases h
      have k2 : ∀ b o, H b = some o → b ≠ A → H2 b = some o := fun b o hb hn => f2 b o (k1 b o hb hn) (fun z => by rw [z, nRL] at hb; cases hb)
      have hA2 := f2 _ _ hA1 nRA.symm
      have hx2 := f2 _ _ hx (ne_of hx hRL (fun z => nomatch z))
      have nAB : A ≠ B := fun z => by
        rw [z, hB] at hA
        have e := (Option.some.inj hA)
        injection e with _ _ e3
        injection e3 with _ e4
        injection e4 with e5 _
        injection e5 with _ e6
        exact nn (V.str.inj e6).symm
      have hfl : (foldW rule (saidW [ro])) = [] := by rw [hsaid]; exact foldW_nil rule
      refine ⟨.ref x, s'.v (i := 2) rfl, x, dx, _, rfl, hx2, rfl, x, dx, S, A, SD, _, RL, ML, dS, rule, C, M, PL, QL, [.ref u], [ro], dA, nm, .ref x, D, st, pos, B, dB, nm2, wk2, D2, pos2, kvs, tc, w0, n0, ps, qs, rfl, hx2, k2 _ _ hS (ne_of hS hA (fun z => nomatch z)), hru, hR, .cons (hro H2 u hu) .nil, by simp, by rw [hsaid]; simp, hA2, k2 _ _ hD (ne_of hD hA (fun z => nomatch z)), k2 _ _ hB nAB.symm, nn, k2 _ _ hM (ne_of hM hA (fun z => nomatch z)), hkv, k2 _ _ hC (ne_of hC hA (fun z => nomatch z)), k2 _ _ htc (ne_of htc hA (fun z => nomatch z)), .inl hset, k2 _ _ hPL (ne_of hPL hA (fun z => nomatch z)), k2 _ _ hQL (ne_of hQL hA (fun z => nomatch z)), nPQ, hpl, by rw [hfl]; exact hql, fun H' ct' row qn D' f3 c1 c2 c3 c4 c5 c6 c7 c8 c9 => ?_⟩
      rw [hfl] at c8
      cases c8
      rw [c5 hset] at c4
      rw [List.append_nil] at c7
      rw [hwish] at c1 c2
      refine q H' row D' (fun b o hb hn => f3 b o (k2 b o hb fun z => hn (.inl z)) ?_) c1 c2 ?_ c4 c7 c9
      · rintro (z | z | z | z | z)
        · rw [z, nx] at hb; cases hb
        · exact hn (.inl z)
        · exact hn (.inr (.inl z))
        · exact hn (.inr (.inr (.inl z)))
        · exact hn (.inr (.inr (.inr z)))
      · cases hD' : H D' with
        | none => rfl
        | some o =>
          by_cases hz2 : D' = A
          · rw [hz2, hA2] at c3; cases c3
          · rw [k2 _ _ hD' hz2] at c3; cases c3
  · intro vs H Q h
    obtain ⟨A, t, z, dA, S, nm, D, st, pos, dS, rule, C, M, PL, QL, B, dB, nm2, wk2, D2, pos2, kvs, tc, w0, n0, ps, qs, rfl, ht, hz, hA, hS, hru, hD, hB, nn, hM, hkv, hC, htc, hPL, hQL, nPQ, hpl, hql, q⟩ := h
    refine ⟨[.ref A], [.ref t], rfl, rfl, show 1 ≤ sizeLine by decide, fun r hr1 => ?_⟩
    have e := Same.new (o := HO.tup [.ref t]) hr1
    exact ⟨A, r, t, z, dA, S, nm, D, st, pos, dS, rule, C, M, PL, QL, B, dB, nm2, wk2, D2, pos2, kvs, tc, w0, n0, ps, qs, rfl, upd_same, e _ _ ht, hz, e _ _ hA, e _ _ hS, hru, e _ _ hD, e _ _ hB, nn, e _ _ hM, hkv, e _ _ hC, e _ _ htc, e _ _ hPL, e _ _ hQL, nPQ, hpl, hql, fun H' row D' fr h1 h2 h3 => q H' row D' (fun b o hb hn => fr b o (e _ _ hb) hn) h1 h2 (e.free h3)⟩
end
end KX
set_option maxHeartbeats 4000000
namespace KX
open PySem PySem.Spec PyProof.Rows L2 StX
/-! ### Store(rule, room=.., a=..): a new dict holds what is named -/
theorem bind_store (kV doc pm : Value) (an : Option Addr) (cdv ct : Value) (u0 u1 r v : Value) : bindArgs (PySem.W.fnOf d_Store_D_init_D.name d_Store_D_init_D.qual (defArgs d_Store_D_init_D.st) (defBody d_Store_D_init_D.st) (defScope d_Store_D_init_D.st) .none kV doc pm an cdv ct) ⟨[u0, u1], [("room", r), ("a", v)]⟩ = (alloc { cls := .type "dict", data := .dict #[] } >>= fun d => ((forIn ([("a", v)] : List (Str × Value)) PUnit.unit fun (x : Str × Value) (_ : PUnit) => (nsSet d x.1 x.2 >>= fun _ => pure (ForInStep.yield PUnit.unit))) >>= fun _ => pure ([("self", u0), ("rule", u1), ("room", r), ("cells", .ref d)] : List (Str × Value)))) := rfl
section
variable {P : Program} {w : World} {K : PySem.W.Frag} {mg : Str → Option Value} {base : Heap} {A : Around} {outer : List Env} {s : Shared} {H : Hp}
theorem env0_any {h' : Heap} {t : Nat} {u : HO} (e0 : Env0 P w K mg base A outer s H) (kp : ∀ b x, s.heap.get? b = some x → h'.get? b = some x) (sz : s.heap.objs.size ≤ h'.objs.size) (new : ObjOk P w (upd H s.heap.objs.size u) h' s.heap.objs.size u) :
    Env0 P w K mg base A outer { s with heap := h', toks := t } (upd H s.heap.objs.size u) := by
  refine ⟨e0.frames, e0.mod, fun b x e => ⟨kp b x (e0.bs b x e).1, ?_⟩, Nat.le_trans e0.bsz sz, Heap.FunFrames.of_keeps (fun b x e _ => ⟨x, kp b x e, rfl⟩) e0.funs, fun b hb => ?_, e0.hok.laid kp (Nat.le_refl _) new, e0.bare⟩
  · rw [upd_ne (Nat.ne_of_lt (Heap.lt_size (e0.bs b x e).1))]
    exact (e0.bs b x e).2
  · obtain ⟨_, x, hx, _⟩ := e0.funs.mem hb
    rw [upd_ne (Nat.ne_of_lt (Heap.lt_size hx))]
    exact e0.frf b hb
/-- one text key set in a new dict -/
theorem set_one {E : Value → Shared → Prop} {v : Value} {Q : Unit → Shared → Prop}
    (h : ∀ (h' : Heap) (tk : Nat), (∀ b x, s.heap.get? b = some x → h'.get? b = some x) → s.heap.objs.size ≤ h'.objs.size → h'.DictOf (mixKind P w) s.heap.objs.size [(.inr "a", v)] → Q () { s with heap := h', toks := tk }) :
    wpAny (model P w) A (nsSet s.heap.objs.size "a" v) Q E { s with heap := s.heap.push ({ cls := .type "dict", data := .dict #[] } : Obj) } := by
  have ho : (s.heap.push ({ cls := .type "dict", data := .dict #[] } : Obj)).get? s.heap.objs.size = some ({ cls := .type "dict", data := .dict #[] } : Obj) := Heap.get?_push_size _ rfl
  unfold nsSet strHash
  refine wpAny_bind (wpAny_bind (wpAny_askSetting (wpAny_pure ?_)))
  refine wpAny_bind (wpAny_mkText ?_)
  refine wpAny_bind (wpAny_loadPart ho ?_)
  refine wpAny_updatePart ho ?_
  have hu := Heap.get?_update_self (Obj.putName "a" (hashStr w "a") (.str "a" s.toks) v) ho rfl
  refine h _ _ (fun b x e => ?_) ?_ ⟨_, _, _, hu, ⟨rfl, rfl, rfl⟩, rfl, fun e he => ?_, .cons ?_ rfl .nil, by simp⟩
  · rw [Heap.get?_update_ne _ _ _ _ (Nat.ne_of_lt (Heap.lt_size e))]
    exact Heap.get?_push_of_some _ e
  · rw [Heap.size_update, Heap.size_push]
    exact Nat.le_succ _
  · have e1 : e = (⟨hashStr w "a", .str "a" s.toks, v⟩ : DictEntry) := by simpa using he
    rw [e1]
    exact ⟨.inr "a", kV_is (k := .inr "a") ⟨s.toks, rfl⟩, rfl⟩
  · exact kV_is (k := .inr "a") ⟨s.toks, rfl⟩
end
/-- a def with keywords beside, called: what is asked of it -/
structure FnSt (P : Program) (w : World) (K : PySem.W.Frag) (mg : Str → Option Value) (base : Heap) (k : Nat) (f : Addr) (sp : SpN) : Prop where
  run : ∀ {A : Around} {outer : List Env} {s : Shared} {H : Hp} {v0 v1 vr vv : V} {u0 u1 ur uv : Value} {Q : VK}, Room k A → Env0 P w K mg base A outer s H → RelV v0 u0 → RelV v1 u1 → RelV vr ur → RelV vv uv →
    (∀ d, H d = none → sp [v0, v1, vr, .ref d] (upd H d (.dK [(.inr "a", vv)])) Q) → codeAny (model P w) A (.call (.ref f) ⟨[u0, u1], [("room", ur), ("a", uv)]⟩) (CR CX0 outer P w H s Q E0) s
section
variable {P : Program} {w : World} {K : PySem.W.Frag} {mg : Str → Option Value} {base : Heap} {A : Around} {outer : List Env} {s : Shared} {H : Hp}
/-- the def that takes them -/
theorem FunC.okStore {k : Nat} {N : List Str} {fd : FuncData} (F : FunC K d_Store_D_init_D fd) (S : FnScope N ["self", "rule", "room", "cells"] (defScope d_Store_D_init_D.st)) {sp : SpN}
    (hbody : ∀ (A : Around) (outer : List Env) (s : Shared) (H : Hp) (vs : List V) (Q : VK), Room k (A.deeper (envOfC d_Store_D_init_D.qual (defScope d_Store_D_init_D.st) s.heap.objs.size d_Store_D_init_D.at_ (.ref d_Store_D_init_D.code))) → sp vs H Q →
      ∃ t, PSs (bcx P w K mg base N d_Store_D_init_D A outer s H) (defBody d_Store_D_init_D.st) t ∧ t { nx := fun _ H' => Q .non H', rt := Q } (start N vs) H) :
    FnSt P w K mg base (k + 1) d_Store_D_init_D.at_ sp := by
  refine ⟨fun {A outer s H v0 v1 vr vv u0 u1 ur uv Q} hr e0 r0 r1 rr rv q => ?_⟩
  obtain ⟨od, kV, doc, pm, an, ct, osl, rfl, lk, hcd⟩ := F.ex
  refine run_bnd lk hcd S hr e0 (G := fun xs H2 => ∃ d, H d = none ∧ xs = [v0, v1, vr, .ref d] ∧ H2 = upd H d (.dK [(.inr "a", vv)])) (fun A' Ex Q' h => ?_) fun s2 H2 xs ⟨d, hd, ex, eH⟩ hr' => ?_
  · have hn : H s.heap.objs.size = none := e0.hok.fresh (Nat.le_refl _)
    show wpAny _ A' (bindArgs (PySem.W.fnOf d_Store_D_init_D.name d_Store_D_init_D.qual (defArgs d_Store_D_init_D.st) (defBody d_Store_D_init_D.st) (defScope d_Store_D_init_D.st) .none kV doc pm an (.ref d_Store_D_init_D.code) ct) ⟨[u0, u1], [("room", ur), ("a", uv)]⟩) _ _ _
    rw [bind_store]
    refine wpAny_bind (wpAny_alloc (wpAny_bind ?_))
    show wpAny _ _ ((nsSet s.heap.objs.size "a" uv >>= fun _ => pure (ForInStep.yield PUnit.unit)) >>= _) _ _ _
    refine wpAny_bind (wpAny_bind (set_one fun h' tk kp sz dd => wpAny_pure (wpAny_pure (wpAny_pure ?_))))
    have hb : (s.heap.objs.size == sysModules) = false := beq_eq_false_iff_ne.mpr (Ne.symm (Nat.ne_of_lt (env0_big e0)))
    have new : ObjOk P w (upd H s.heap.objs.size (.dK [(.inr "a", vv)])) h' s.heap.objs.size (.dK [(.inr "a", vv)]) := ⟨Nat.le_trans (Nat.le_refl 1) (by decide), hb, _, .cons ⟨rfl, rv⟩ .nil, dd⟩
    have un : Un (frs outer) [] H (upd H s.heap.objs.size (.dK [(.inr "a", vv)])) s.heap h' := Un.laid kp (Nat.le_refl _) hn
    exact h _ _ [v0, v1, vr, .ref s.heap.objs.size] [u0, u1, ur, .ref s.heap.objs.size] (env0_any e0 kp sz new) un rfl (fun e s' z => z) (.cons r0 (.cons r1 (.cons rr (.cons rfl .nil)))) rfl ⟨_, hn, rfl, rfl⟩
  · subst ex eH
    obtain ⟨t, h, z⟩ := hbody A outer s2 _ _ Q hr' (q d hd)
    exact ⟨t, PSs.nox ⟨h.run⟩, z⟩
end
def tMkSt (C : Addr) (sp : SpN) (t tk : TA) : TE := fun σ H Q => t σ H fun vs H1 => tk σ H1 fun zs H2 => ∃ v1 vr vv, vs = [v1] ∧ zs = [vr, vv] ∧ ∀ x dx, H2 x = none → H2 dx = none → dx ≠ x → ∀ d, upd (upd H2 dx (.own x)) x (.ins C dx []) d = none →
  sp [.ref x, v1, vr, .ref d] (upd (upd (upd H2 dx (.own x)) x (.ins C dx [])) d (.dK [(.inr "a", vv)])) (fun v H3 => v = .non ∧ Q (.ref x) H3)
theorem pe_mkSt {X : Cx} {k : Nat} {f C : Addr} {sp : SpN} {x : Str} {p pos : Pos} {e : Expr} {es : List Expr} {kws : List Keyword} {t tk : TA} (M : Mk X.K C f) (F : FnSt X.prog X.w X.K X.mg X.base k f sp) (hr : Room (k + 1) X.A) (hm : X.mg x = some (.ref C)) (ha : PA X (e :: es) t) (hkw : PK X kws tk) (hg : Gl X x := by rfl)
    (hall : (backToKw pos (keywordEach kws X.env)).all (·.1.isSome) = true := by rfl) (hks : (backToKw pos (keywordEach kws X.env)).filterMap (·.1) = (["room", "a"] : List Str) := by rfl) (hdb : (x == ("__debug__" : Str)) = false := by decide)
    (he : starEach (e :: es) X.env = (false, eval e X.env) :: starEach es X.env := by rfl) (hpl : ((backTo pos (starEach (e :: es) X.env)).any (·.1) || (backToKw pos (keywordEach kws X.env)).any (·.1.isNone)) = false := by rfl) :
    PE X (.Call (.Name x p) (e :: es) kws pos) (tMkSt C sp t tk) := by
  refine ⟨fun pins s σ H Q I h => ?_⟩
  refine wpAny_Call_Name_kw (ld_glob I hg hm ?_ hdb)
  refine PySem.W.callWith_KW (h₀ := X.base) I.ok.mod.kin M.kp hall (thn (ha.run pos pins s σ H _ I h) fun us s1 ⟨vs, H1, I1, r, q⟩ => ?_) hpl he
  refine thn (hkw.run pos pins s1 σ H1 _ I1 q) fun ws s2 ⟨zs, H2, I2, rz, v1, vr, vv, ev, ez, q2⟩ => ⟨I2.kIn, ?_⟩
  rw [hks]
  subst ev ez
  cases r with
  | cons r1 r =>
    cases r
    cases rz with
    | cons rr rz =>
      cases rz with
      | cons rv rz =>
        cases rz
        have hq := q2 (s2.heap.objs.size + 1) s2.heap.objs.size (I2.hok.fresh (Nat.le_succ _)) (I2.hok.fresh (Nat.le_refl _)) (Nat.ne_of_lt (Nat.lt_succ_self _))
        have I3 := Inv.made (C := C) I2
        refine wpAny_call (make_map (f := f) I2.kIn M.makes M.init (beq_iff_eq.mp M.fn) (codeAny_mono (F.run (hr.make C _ _) (I3.env0.make C _ _) (v0 := .ref (s2.heap.objs.size + 1)) rfl r1 rr rv hq) fun r s' hq' => ?_))
        cases r with
        | error e => exact False.elim hq'
        | ok fl =>
          cases fl with
          | ret u =>
            obtain ⟨v, H', I4, rv, ev, q3⟩ := I3.after hq'
            subst ev
            exact ⟨rv, ⟨V.ref (s2.heap.objs.size + 1), H', I4, rfl, q3⟩⟩
          | next => exact False.elim hq'
          | brk => exact False.elim hq'
          | cont => exact False.elim hq'
end KX
set_option maxHeartbeats 4000000
namespace KX
open PySem PySem.Spec PyProof.Rows L2
theorem all_one {K : PySem.W.Frag} {σ : L2.St} {H : Hp} {Q : VK} {wi : TI} {j : Nat} {R : List PyData → PyData → Prop} {x : V} {d : PyData} {CD : Addr} {u : HO} (hσ : j < σ.length) (hCD : H CD = some u) (mu : Mut (some u))
    (hw : ∀ (od : Obj) (Rr : It → Hp → Prop), (∀ J, Walk J 1 (fun H' => H' CD = some (.frz od u)) (fun _ Hh y H' => H' = Hh ∧ y = x) → Rr J (upd H CD (.frz od u))) → wi σ (upd H CD (.frz od u)) Rr) (hd : ∀ H', DT K H' x d) (hR : R [d] (.bool true)) (q : ∀ H', Same H H' → Q (.bl true) H') :
    tCB (rAll K) (tCons (tLockE (tLc wi (gName j) tYes (tCl (spD K R) (tCons (tVar j) tNil)) [j])) tNil) σ H Q := by
  refine ⟨CD, u, hCD, mu, fun od => hw od _ fun J wk D hD => ?_⟩
  refine lc_it wk (fun i H' => Same (upd H CD (.frz od u)) H' ∧ ((i = 0 ∧ H' D = some (.lst [])) ∨ (i = 1 ∧ H' D = some (.lst [.bl true])))) ⟨Same.new hD, .inl ⟨rfl, upd_same⟩⟩ (fun i H' _ p => p.1 _ _ upd_same) (fun i xv H' H'' hi ⟨e, hc⟩ y => ?_) (fun H' ⟨e, hc⟩ => ?_)
  · obtain ⟨rfl, rfl⟩ := y
    obtain rfl : i = 0 := Nat.lt_one_iff.mp hi
    refine ⟨wipe_set, (?_ : (_ : Prop))⟩
    refine ⟨xv, List.getElem?_set_self (by rw [wipe_length]; exact hσ), [d], _, .cons (hd _) .nil, hR, fun v H3 e3 dv => ?_⟩
    cases dv
    rcases hc with ⟨_, hL⟩ | ⟨h, _⟩
    · exact ⟨[], e3 _ _ hL, Nat.lt_of_lt_of_le (by decide : 0 < 2) (show 2 ≤ sizeLine by decide), KX.Same.upd (e.trans e3) hD, .inr ⟨rfl, upd_same⟩⟩
    · cases h
  · rcases hc with ⟨h, _⟩ | ⟨_, hL⟩
    · cases h
    · refine ⟨e _ _ upd_same, D, [true], rfl, SqL.of ?_, q _ (lock_back hCD e)⟩
      have nD : D ≠ CD := fun z => by rw [z, upd_same] at hD; cases hD
      exact (upd_ne nD).trans hL
section
variable {P : Program} {w : World} {K : PySem.W.Frag} {mg : Str → Option Value} {base : Heap} {p : Addr}
theorem sc_Store_present : FnScope ["self", "cell"] ["self", "cell"] (defScope s_Store_present) := ⟨rfl, rfl, rfl, by decide +kernel, rfl, by decide +kernel, by decide +kernel⟩
theorem ok_Store_present (T : Tx w K mg) : FnN P w K mg base 1 m_Store_present (fun vs H Q => ∃ S dS rule C M PL QL tc w0 n0, vs = [.ref S, .str "a"] ∧ H S = some (.ins a_Store dS (stF rule C M PL QL)) ∧ H C = some (.dK [(.inr "a", .ref tc)]) ∧ H tc = some (.tup [.str w0, .int n0]) ∧ Q (.str w0) H) := by
  obtain ⟨fd, F⟩ := T.F_Store_present
  refine F.okN rfl sc_Store_present (fun _ _ _ _ _ _ us hl => match us, hl with | [_, _], _ => rfl) (fun vs H Q h => ?_) (fun A outer s H vs Q hr h => ⟨_, (pss_cons (ps_if (PW.pt (pw_or (pt_not (pt_val (pe_callB call_isi (by rfl) T.z_isinstance (by decide +kernel) (pa_cons (pv 1) (pa_cons (pe_ty (n := "str") T.z_str (by decide +kernel)) pa_nil))))) (pw_or1 (pt_cmp (pc_dnotin (hu_of hr) (pv 1) (pe_fld (pv 0) rfl)))))) (pss_one ps_never) pss_nil) (pss_one (ps_ret (pe_ix ix_tup (pe_dget (hu_of hr) (pe_fld (pv 0) rfl) (pv 1) (fun _ _ => rfl)) pe_int (fun _ _ => rfl))))), ?_⟩)
  · obtain ⟨S, dS, rule, C, M, PL, QL, tc, w0, n0, rfl, _⟩ := h
    rfl
  obtain ⟨S, dS, rule, C, M, PL, QL, tc, w0, n0, rfl, hS, hC, htc, q⟩ := h
  have hg := DGet.k (k := .inr "a") hC
  refine ⟨.str "a", rfl, .str "a", .ty "str", .type "str", .type "str", true, rfl, .ty _, .base (.str _), kit_ty kb_str_str, true, rfl, iteF ⟨.str "a", rfl, .ref S, rfl, S, _, dS, _, .ref C, rfl, hS, T.c_Store, T.n_Store_cells, rfl, C, _, rfl, hg, _, rfl, ?_⟩⟩
  rw [valV_pos rfl] at hg ⊢
  exact iteF ⟨.ref S, rfl, S, _, dS, _, .ref C, rfl, hS, T.c_Store, T.n_Store_cells, rfl, .str "a", rfl, C, .ref tc, rfl, hg, tc, _, 0, _, rfl, rfl, SqT.of htc, rfl, q⟩
theorem sc_Store_client : FnScope ["self", "name"] ["self", "name"] (defScope s_Store_client) := ⟨rfl, rfl, rfl, by decide +kernel, rfl, by decide +kernel, by decide +kernel⟩
theorem ok_Store_client (T : Tx w K mg) (Pf : PF P) : FnN P w K mg base 4 m_Store_client (fun vs H Q => ∃ S dS rule C M PL QL nm kvs, vs = [.ref S, .str nm] ∧ nameB nm ∧ H S = some (.ins a_Store dS (stF rule C M PL QL)) ∧ H M = some (.dK kvs) ∧ valV kvs (.inr nm) = none ∧ kvs.length ≤ 5 ∧
    ∀ A dA D H', Fr (· = M) H H' → H' M = some (.dK (kvs ++ [(.inr nm, .ref A)])) → H' A = some (.ins a_Client dA (cliF S nm .non D .non)) → H' D = some (.dK []) → H A = none → H D = none → Q (.ref A) H') := by
  obtain ⟨fd, F⟩ := T.F_Store_client
  refine F.okN rfl sc_Store_client (fun _ _ _ _ _ _ us hl => match us, hl with | [_, _], _ => rfl) (fun vs H Q h => ?_) (fun A outer s H vs Q hr h => ⟨_, (pss_cons (ps_expr (pe_cl (ok_need_name T) (hr.mono (by decide)) T.kp_need_name T.g_need_name (pa_cons (pv 1) pa_nil))) (pss_cons (ps_if (pt_cmp (pc_din (hu_of hr) (pv 1) (pe_fld (pv 0) rfl))) (pss_one ps_never) pss_nil) (pss_cons (ps_dput (hu_of hr) (pe_fld (pv 0) rfl) (pv 1) (pe_mk (ok_Listener_D_init_D T Pf) (hr.mono (by decide)) T.mk_Client T.g_Client (pa_cons (pv 0) (pa_cons (pv 1) pa_nil))) rfl) (pss_one (ps_ret (pe_dget (hu_of hr) (pe_fld (pv 0) rfl) (pv 1) (fun _ _ => rfl))))))), ?_⟩)
  · obtain ⟨S, dS, rule, C, M, PL, QL, nm, kvs, rfl, _⟩ := h
    rfl
  obtain ⟨S, dS, rule, C, M, PL, QL, nm, kvs, rfl, hnm, hS, hM, hno, hl, q⟩ := h
  refine ⟨.str nm, rfl, [.str nm], .cons (.str nm) .nil, ⟨nm, rfl, hnm⟩, fun H1 e1 => ?_⟩
  have hM1 := e1 _ _ hM
  refine ⟨.str nm, rfl, .ref S, rfl, S, _, dS, _, .ref M, rfl, e1 _ _ hS, T.c_Store, T.n_Store_members, rfl, M, _, rfl, DGet.k (k := .inr nm) hM1, _, rfl, ?_⟩
  rw [hno]
  refine iteF ⟨.ref S, rfl, .str nm, rfl, fun A dA hA hdA ne => ?_⟩
  have e2 := Same.new (o := HO.own A) hdA
  have hA2 : upd H1 dA (.own A) A = none := (upd_ne ne.symm).trans hA
  have e3 := e2.trans (Same.new (o := HO.ins a_Client dA []) hA2)
  refine ⟨A, dA, S, nm, rfl, upd_same, fun D H' fr h1 h2 h3 => ⟨rfl, ?_⟩⟩
  have k1 : ∀ b o, H b = some o → H' b = some o := fun b o hb => fr _ _ (e3 _ _ (e1 _ _ hb)) (fun z => by rw [z] at hb; rw [e1 _ _ hb] at hA; cases hA)
  have hM2 := k1 _ _ hM
  have hD1 : H D = none := e1.free (e3.free h3)
  refine ⟨.ref S, rfl, S, _, dS, _, .ref M, rfl, k1 _ _ hS, T.c_Store, T.n_Store_members, rfl, .str nm, rfl, M, _, rfl, DPut.k (k := .inr nm) hM2 (Nat.lt_of_le_of_lt hl (small1000 (by decide))), ?_⟩
  rw [putK_new _ hno]
  have hg := DGet.k (k := .inr nm) (upd_same (H := H') (a := M) (o := .dK (kvs ++ [((.inr nm : L2.Key), .ref A)])))
  have hv : valV (kvs ++ [((.inr nm : L2.Key), V.ref A)]) (.inr nm) = some (.ref A) := by
    have h := valV_put kvs (.inr nm : L2.Key) (.inr nm : L2.Key) (.ref A)
    rw [putK_new _ hno, if_pos rfl] at h
    exact h
  rw [hv] at hg
  refine ⟨.ref S, rfl, S, _, dS, _, .ref M, rfl, (upd_ne (ne_of (k1 _ _ hS) hM2 (fun z => nomatch z))).trans (k1 _ _ hS), T.c_Store, T.n_Store_members, rfl, .str nm, rfl, M, .ref A, rfl, hg, ?_⟩
  exact q A dA D _ (fun b o hb hn => (upd_ne hn).trans (k1 b o hb)) upd_same ((upd_ne (ne_of h1 hM2 (fun z => nomatch z))).trans h1) ((upd_ne (fun z => by rw [z, hM] at hD1; cases hD1)).trans h2) (e1.free hA) hD1
theorem sc_Store_D_init_D : FnScope ["self", "rule", "room", "cells", "cell", "word"] ["self", "rule", "room", "cells"] (defScope s_Store_D_init_D) := ⟨rfl, rfl, rfl, by decide +kernel, rfl, by decide +kernel, by decide +kernel⟩
theorem ok_Store_init (T : Tx w K mg) : FnSt P w K mg base 4 m_Store___init__ (fun vs H Q => ∃ x dx rule CD z, vs = [.ref x, .str rule, .int 200, .ref CD] ∧ H x = some (.ins a_Store dx []) ∧ H CD = some (.dK [(.inr "a", .str z)]) ∧ rule ∈ rules ∧ wordB z ∧
    ∀ C M PL QL tc H', Fr (· = x) H H' → H' x = some (.ins a_Store dx (stF rule C M PL QL)) → H' C = some (.dK [(.inr "a", .ref tc)]) → H' tc = some (.tup [.str z, .int 0]) → H' M = some (.dK []) → H' PL = some (.lst []) → H' QL = some (.lst []) →
      H C = none → H tc = none → H M = none → H PL = none → H QL = none → C ≠ M → PL ≠ QL → Q .non H') := by
  obtain ⟨fd, F⟩ := T.F_Store_D_init_D
  refine F.okStore (k := 3) sc_Store_D_init_D (fun A outer s H vs Q hr h => ⟨_, (pss_cons (ps_expr (pe_cl (ok_need_rule T) (hr.mono (by decide)) T.kp_need_rule T.g_need_rule (pa_cons (pv 1) pa_nil))) (pss_cons (ps_if (pt_not (pt_val (pe_cl (ok_is_between T) (hr.mono (by decide)) T.kp_is_between T.g_is_between (pa_cons (pv 2) (pa_cons pe_int (pa_cons (pe_ci T.i_MOST_ROOM) pa_nil)))))) (pss_one ps_never) pss_nil) (pss_cons (ps_if (PW.pt (pw_or (pt_cmpR op_gt (pe_callB call_lenD (by rfl) T.z_len PySem.boot_len (pa_cons (pv 3) pa_nil)) (pe_ci T.i_MOST_CELLS) (nomark _)) (pw_or1 (pt_not (pt_val (pe_callB (cr_all (by rfl)) (by rfl) T.z_all (by decide +kernel) (pa_cons (pe_lock (pe_lc (own := [("cell", 4)]) (by rfl) sc_Store_D_init_D.nd (pi_keys (pv 3)) (blkOk_by (N := ["self", "rule", "room", "cells", "cell", "word"]) (sc := defScope s_Store_D_init_D) (by decide +kernel)) (fun _ _ _ _ _ => by exact (pg_name (i := 4) sc_Store_D_init_D.nd rfl (Or.inl rfl))) (fun _ _ _ _ _ => pts_nil) (fun _ _ _ _ _ => (pe_cl (ok_is_name T) (hr.mono (by decide)) T.kp_is_name T.g_is_name (pa_cons (pv 4) pa_nil))))) pa_nil))))))) (pss_one ps_never) pss_nil) (pss_cons (ps_if (pt_not (pt_val (pe_callB (cr_all (by rfl)) (by rfl) T.z_all (by decide +kernel) (pa_cons (pe_lock (pe_lc (own := [("word", 5)]) (by rfl) sc_Store_D_init_D.nd (pi_values (pv 3)) (blkOk_by (N := ["self", "rule", "room", "cells", "cell", "word"]) (sc := defScope s_Store_D_init_D) (by decide +kernel)) (fun _ _ _ _ _ => by exact (pg_name (i := 5) sc_Store_D_init_D.nd rfl (Or.inl rfl))) (fun _ _ _ _ _ => pts_nil) (fun _ _ _ _ _ => (pe_cl (ok_is_word T) (hr.mono (by decide)) T.kp_is_word T.g_is_word (pa_cons (pv 5) pa_nil))))) pa_nil)))) (pss_one ps_never) pss_nil) (pss_cons (ps_fld (pv 0) (pv 1) rfl) (pss_cons (ps_fld (pv 0) (pv 2) rfl) (pss_cons (ps_fld (pv 0) (pe_lock (pe_dc (own := [("cell", 4), ("word", 5)]) (g := gTup K 2 (gCons (gName 4) (gCons (gName 5) gNil))) (by rfl) sc_Store_D_init_D.nd (pi_items (pv 3)) (blkOk_by (N := ["self", "rule", "room", "cells", "cell", "word"]) (sc := defScope s_Store_D_init_D) (by decide +kernel)) (fun _ _ _ _ _ => by exact (pg_tup rfl (pgs_cons (pg_name (i := 4) sc_Store_D_init_D.nd rfl (Or.inl rfl)) (pgs_cons (pg_name (i := 5) sc_Store_D_init_D.nd rfl (Or.inl rfl)) pgs_nil)))) (fun _ _ _ _ _ => pts_nil) (fun _ _ _ _ _ => (pv 4)) (fun _ _ _ _ _ => (pe_tup (pa_cons (pv 5) (pa_cons pe_int pa_nil)))))) rfl) (pss_cons (ps_fld (pv 0) pe_dnewK rfl) (pss_cons (ps_fld (pv 0) (pe_lst pa_nil) rfl) (pss_one (ps_fld (pv 0) (pe_lst pa_nil) rfl))))))))))), ?_⟩)
  obtain ⟨x, dx, rule, CD, z, rfl, hx, hCD, hru, hz, q⟩ := h
  refine ⟨.str rule, rfl, [.str rule], .cons (.str rule) .nil, ⟨rule, rfl, hru⟩, fun H1 e1 => ?_⟩
  refine ⟨.int 200, rfl, [.int 200, .int 1, .int 200], _, .cons (.int _) (.cons (.int _) (.cons (.int _) .nil)), ⟨200, 1, 200, rfl, rfl⟩, fun v H2 e2 d => ?_⟩
  cases d
  refine ⟨_, rfl, iteF ?_⟩
  have e12 := e1.trans e2
  have hCD2 := e12 _ _ hCD
  refine ⟨.ref CD, rfl, CD, _, rfl, hCD2, _, _, rfl, rfl, _, rfl, iteF ?_⟩
  refine all_one (CD := CD) (x := .str "a") (d := .str "a") (by show 4 < 6; decide) hCD2 trivial (fun od Rr r => ⟨.ref CD, rfl, CD, od, rfl, .inl ⟨_, upd_same, r _ (walk_keys.mono (fun _ h => h) fun i H x H' hi _ y => ?_)⟩⟩) (fun _ => .str _) ⟨"a", rfl, nameB_a, rfl⟩ fun H3 e3 => ⟨true, rfl, iteF ?_⟩
  · obtain ⟨e, k, v, hk, rfl⟩ := y
    obtain rfl : i = 0 := Nat.lt_one_iff.mp hi
    cases hk
    exact ⟨e, rfl⟩
  have e13 := e12.trans e3
  have hCD3 := e13 _ _ hCD
  refine all_one (CD := CD) (x := .str z) (d := .str z) (by show 5 < 6; decide) hCD3 trivial (fun od Rr r => ⟨.ref CD, rfl, CD, od, _, rfl, upd_same, r _ (walk_values.mono (fun _ h => h) fun i H x H' hi _ y => ?_)⟩) (fun _ => .str _) ⟨z, rfl, hz, rfl⟩ fun H4 e4 => ⟨true, rfl, iteF ?_⟩
  · obtain ⟨e, k, hk⟩ := y
    obtain rfl : i = 0 := Nat.lt_one_iff.mp hi
    cases hk
    exact ⟨e, rfl⟩
  have e14 := e13.trans e4
  have hx4 := e14 _ _ hx
  refine ⟨.str rule, rfl, .ref x, rfl, x, _, dx, [], rfl, hx4, T.c_Store, T.n_Store_rule, by decide, .int 200, rfl, .ref x, rfl, x, _, dx, _, rfl, upd_same, T.c_Store, T.n_Store_most, Nat.le_of_ble_eq_true rfl, ?_⟩
  show tSeq _ _ _ _ _
  rw [upd_upd]
  generalize hH5 : upd H4 x (.ins a_Store dx (putF "most" (.int 200) (putF "rule" (.str rule) []))) = H5
  have k5 : ∀ b o, H b = some o → b ≠ x → H5 b = some o := fun b o hb hn => by rw [← hH5]; exact (upd_ne hn).trans (e14 _ _ hb)
  have hx5 : H5 x = some (.ins a_Store dx [("rule", .str rule), ("most", .int 200)]) := by rw [← hH5]; exact upd_same
  have f5 : ∀ b, H5 b = none → H b = none := fun b hb => by
    cases h : H b with
    | none => rfl
    | some o =>
      by_cases hz : b = x
      · rw [hz, hx5] at hb; cases hb
      · rw [k5 _ _ h hz] at hb; cases hb
  have hCD5 := k5 _ _ hCD (ne_of hCD hx (fun z => nomatch z))
  refine ⟨CD, _, hCD5, trivial, fun od => ⟨.ref CD, rfl, CD, od, _, rfl, upd_same, fun C hC => ?_⟩⟩
  have hx5l : upd H5 CD (.frz od (.dK [(.inr "a", .str z)])) x = some (.ins a_Store dx [("rule", .str rule), ("most", .int 200)]) := lock_in hCD5 hx5 (fun z => nomatch z)
  refine dc_it walk_items (fun i H' => Same (upd H5 CD (.frz od (.dK [(.inr "a", .str z)]))) H' ∧ ((i = 0 ∧ H' C = some (.dK [])) ∨ (i = 1 ∧ ∃ tc, H' C = some (.dK [(.inr "a", .ref tc)]) ∧ H' tc = some (.tup [.str z, .int 0]) ∧ H5 tc = none))) ⟨Same.new hC, .inl ⟨rfl, upd_same⟩⟩ (fun i H' _ p => p.1 _ _ upd_same) (fun i xv H' H'' hi ⟨e, hc⟩ y => ?_) (fun H' ⟨e, hc⟩ => ?_)
  · obtain ⟨T0, a, b, rfl, hT, rfl, ha, hb⟩ := y
    obtain rfl : i = 0 := Nat.lt_one_iff.mp hi
    cases ha
    cases hb
    have sn := Same.new (o := HO.tup [kV (.inr "a"), .str z]) hT
    have e := e.trans sn
    refine ⟨T0, _, rfl, SqT.of upd_same, rfl, _, _, rfl, _, _, rfl, rfl, rfl, (?_ : (_ : Prop))⟩
    rcases hc with ⟨_, hC0⟩ | ⟨h, _⟩
    · refine ⟨.str "a", rfl, .str z, rfl, show 2 ≤ sizeLine by decide, fun tc htc => ?_⟩
      have sn2 := Same.new (o := HO.tup [.str z, .int 0]) htc
      have hC1 := sn2 _ _ (sn _ _ hC0)
      refine ⟨[], .inr "a", rfl, hC1, one_room (Nat.zero_le 1), KX.Same.upd (e.trans sn2) hC, .inr ⟨rfl, tc, upd_same, (upd_ne (ne_of upd_same hC1 (fun z => nomatch z))).trans upd_same, lock_free (e.free htc)⟩⟩
    · cases h
  · rcases hc with ⟨h, _⟩ | ⟨_, tc, hC1, htc, ntc⟩
    · cases h
    refine ⟨e _ _ upd_same, ?_⟩
    have eb := lock_back hCD5 e
    have nC5 : H5 C = none := lock_free hC
    have nCD : C ≠ CD := fun z => by rw [z, hCD5] at nC5; cases nC5
    have ntD : tc ≠ CD := fun z => by rw [z, hCD5] at ntc; cases ntc
    have hC2 : upd H' CD (.dK [(.inr "a", .str z)]) C = some (.dK [(.inr "a", .ref tc)]) := (upd_ne nCD).trans hC1
    have htc2 : upd H' CD (.dK [(.inr "a", .str z)]) tc = some (.tup [.str z, .int 0]) := (upd_ne ntD).trans htc
    generalize upd H' CD (.dK [(.inr "a", .str z)]) = H6 at eb hC2 htc2 ⊢
    have hx6 := eb _ _ hx5
    refine ⟨.ref x, rfl, x, _, dx, _, rfl, hx6, T.c_Store, T.n_Store_cells, Nat.le_of_ble_eq_true rfl, fun M hM => ?_⟩
    have nxM : x ≠ M := fun z => by rw [← z, upd_same] at hM; cases hM
    refine ⟨.ref x, rfl, x, _, dx, _, rfl, (upd_ne nxM).trans upd_same, T.c_Store, T.n_Store_members, Nat.le_of_ble_eq_true rfl, Nat.zero_le _, fun PL hPL => ?_⟩
    have nxP : x ≠ PL := fun z => by rw [← z, upd_same] at hPL; cases hPL
    refine ⟨.ref x, rfl, x, _, dx, _, rfl, (upd_ne nxP).trans upd_same, T.c_Store, T.n_Store_past, Nat.le_of_ble_eq_true rfl, Nat.zero_le _, fun QL hQL => ?_⟩
    have nxQ : x ≠ QL := fun z => by rw [← z, upd_same] at hQL; cases hQL
    refine ⟨.ref x, rfl, x, _, dx, _, rfl, (upd_ne nxQ).trans upd_same, T.c_Store, T.n_Store_queue, Nat.le_of_ble_eq_true rfl, ?_⟩
    -- what is new
    have fM : H6 M = none := (upd_ne nxM.symm).symm.trans hM
    have fP1 := (upd_ne nxP.symm).symm.trans hPL
    have nMP : M ≠ PL := fun z => by rw [← z, upd_same] at fP1; cases fP1
    have fP : H6 PL = none := (upd_ne nxP.symm).symm.trans ((upd_ne nMP.symm).symm.trans fP1)
    have fQ1 := (upd_ne nxQ.symm).symm.trans hQL
    have nPQ : PL ≠ QL := fun z => by rw [← z, upd_same] at fQ1; cases fQ1
    have fQ2 := (upd_ne nxQ.symm).symm.trans ((upd_ne nPQ.symm).symm.trans fQ1)
    have nMQ : M ≠ QL := fun z => by rw [← z, upd_same] at fQ2; cases fQ2
    have fQ : H6 QL = none := (upd_ne nxQ.symm).symm.trans ((upd_ne nMQ.symm).symm.trans fQ2)
    have nCM : C ≠ M := fun z => by rw [← z, hC2] at fM; cases fM
    have nCx : C ≠ x := fun z => by rw [z, hx5] at nC5; cases nC5
    have ntx : tc ≠ x := fun z => by rw [z, hx5] at ntc; cases ntc
    have off : ∀ b, b ≠ x → b ≠ M → b ≠ PL → b ≠ QL → ∀ o1 o2 o3 o4 o5 o6 o7, upd (upd (upd (upd (upd (upd (upd H6 x o1) M o2) x o3) PL o4) x o5) QL o6) x o7 b = H6 b := fun b h1 h2 h3 h4 o1 o2 o3 o4 o5 o6 o7 => (upd_ne h1).trans ((upd_ne h4).trans ((upd_ne h1).trans ((upd_ne h3).trans ((upd_ne h1).trans ((upd_ne h2).trans (upd_ne h1))))))
    refine q C M PL QL tc _ (fun b o hb hn => ?_) upd_same ?_ ?_ ?_ ?_ ?_ (f5 _ nC5) (f5 _ ntc) (f5 _ (eb.free fM)) (f5 _ (eb.free fP)) (f5 _ (eb.free fQ)) nCM nPQ
    · have h6 := eb _ _ (k5 _ _ hb hn)
      exact (off b hn (fun z => by rw [z, fM] at h6; cases h6) (fun z => by rw [z, fP] at h6; cases h6) (fun z => by rw [z, fQ] at h6; cases h6) _ _ _ _ _ _ _).trans h6
    · exact (off C nCx nCM (fun z => by rw [z, fP] at hC2; cases hC2) (fun z => by rw [z, fQ] at hC2; cases hC2) _ _ _ _ _ _ _).trans hC2
    · exact (off tc ntx (fun z => by rw [z, fM] at htc2; cases htc2) (fun z => by rw [z, fP] at htc2; cases htc2) (fun z => by rw [z, fQ] at htc2; cases htc2) _ _ _ _ _ _ _).trans htc2
    · exact (upd_ne nxM.symm).trans ((upd_ne nMQ).trans ((upd_ne nxM.symm).trans ((upd_ne nMP).trans ((upd_ne nxM.symm).trans upd_same))))
    · exact (upd_ne nxP.symm).trans ((upd_ne nPQ).trans ((upd_ne nxP.symm).trans upd_same))
    · exact (upd_ne nxQ.symm).trans upd_same
end
end KX
set_option maxHeartbeats 4000000
namespace KX
open PySem PySem.Spec PyProof.Rows L2
def kpF (A : Addr) (way : Str) (wk : V) (num : Int) (LG : Addr) : List (Str × V) := [("guest", .ref A), ("cell", .str "a"), ("way", .str way), ("work", wk), ("number", .int num), ("log", .ref LG)]
def heldV (log : List Str) : V := match log.getLast? with
  | none => .non
  | some z => .str z
/-- the copy behind some notices -/
def updP (way : Str) (cw : Str) (cn : Nat) (log : List Str) (num : Nat) (es : List (Nat × Str)) : List Str × Nat :=
  if way = "reread" then (if es.isEmpty then (log, num) else (log ++ [cw], cn)) else es.foldl (fun p e => if way = "take" ∨ p.2 ≤ e.1 then (p.1 ++ [e.2], e.1) else p) (log, num)
theorem big_size {n : Nat} (h : n ≤ 200000) : n < sizeLine := by
  rw [sizeLine_eq]
  omega
section
variable {P : Program} {w : World} {K : PySem.W.Frag} {mg : Str → Option Value} {base : Heap} {p : Addr}
theorem sc_Keeper_held : FnScope ["self"] ["self"] (defScope s_Keeper_held) := ⟨rfl, rfl, rfl, by decide +kernel, rfl, by decide +kernel, by decide +kernel⟩
theorem ok_Keeper_held (T : Tx w K mg) : FnN P w K mg base 1 m_Keeper_held (fun vs H Q => ∃ k dk A way wk num LG log, vs = [.ref k] ∧ H k = some (.ins a_Keeper dk (kpF A way wk num LG)) ∧ H LG = some (.lst (log.map .str)) ∧ Q (heldV log) H) := by
  obtain ⟨fd, F⟩ := T.F_Keeper_held
  refine F.okN rfl sc_Keeper_held (fun _ _ _ _ _ _ us hl => match us, hl with | [_], _ => rfl) (fun vs H Q h => ?_) (fun A outer s H vs Q hr h => ⟨_, (pss_one (ps_ret (pe_ifExp (pt_cmpR op_gt (pe_callB call_len_seq (by rfl) T.z_len PySem.boot_len (pa_cons (pe_fld (pv 0) rfl) pa_nil)) pe_int (nomark _)) (pe_ix ix_list (pe_fld (pv 0) rfl) (pe_un un_neg pe_int) (fun _ _ => rfl)) pe_non))), ?_⟩)
  · obtain ⟨k, dk, A, way, wk, num, LG, log, rfl, _⟩ := h
    rfl
  obtain ⟨k, dk, A, way, wk, num, LG, log, rfl, hk, hL, q⟩ := h
  refine ⟨.ref k, rfl, k, _, dk, _, .ref LG, rfl, hk, T.c_Keeper, T.n_Keeper_log, rfl, LG, _, rfl, .inl (SqL.of hL), _, _, rfl, rfl, _, rfl, ?_⟩
  rw [List.length_map]
  cases hl : log.getLast? with
  | none =>
    have e : log = [] := List.getLast?_eq_none_iff.mp hl
    subst e
    exact iteF q
  | some z =>
    have hne : log ≠ [] := fun e => by rw [e] at hl; cases hl
    have hpos : 0 < log.length := List.length_pos_iff.mpr hne
    rw [decide_eq_true (show (0 : Int) < (log.length : Nat) by omega)]
    refine iteT ⟨.ref k, rfl, k, _, dk, _, .ref LG, rfl, hk, T.c_Keeper, T.n_Keeper_log, rfl, 1, rfl, LG, _, -1, .str z, rfl, rfl, SqL.of hL, ?_, ?_⟩
    · have e : log = log.dropLast ++ [z] := by
        rw [List.getLast?_eq_some_iff] at hl
        obtain ⟨ys, rfl⟩ := hl
        rw [List.dropLast_concat]
      rw [e, List.map_append]
      exact atI_last _ _
    · have e : heldV log = .str z := by unfold heldV; rw [hl]
      rw [e] at q
      exact q
theorem sc_Keeper_keep : FnScope ["self", "cells", "word", "number"] ["self", "cells"] (defScope s_Keeper_keep) := ⟨rfl, rfl, rfl, by decide +kernel, rfl, by decide +kernel, by decide +kernel⟩
theorem ok_Keeper_keep (T : Tx w K mg) : FnN P w K mg base 1 m_Keeper_keep (fun vs H Q => ∃ k dk A way wk num LG log c t w0 n0, vs = [.ref k, .ref c] ∧ H k = some (.ins a_Keeper dk (kpF A way wk num LG)) ∧ H LG = some (.lst (log.map .str)) ∧ log.length ≤ 100000 ∧ H c = some (.dK [(.inr "a", .ref t)]) ∧ H t = some (.tup [.str w0, .int n0]) ∧
    ∀ H', Fr (fun b => b = k ∨ b = LG) H H' → H' k = some (.ins a_Keeper dk (kpF A way wk n0 LG)) → H' LG = some (.lst ((log ++ [w0]).map .str)) → Q .non H') := by
  obtain ⟨fd, F⟩ := T.F_Keeper_keep
  refine F.okN rfl sc_Keeper_keep (fun _ _ _ _ _ _ us hl => match us, hl with | [_, _], _ => rfl) (fun vs H Q h => ?_) (fun A outer s H vs Q hr h => ⟨_, (pss_cons (ps_asg (pe_dget (hu_of hr) (pv 1) (pe_fld (pv 0) rfl) (fun _ _ => rfl)) (pg_tup rfl (pgs_cons (pg_name (i := 2) sc_Keeper_keep.nd rfl (Or.inl rfl)) (pgs_cons (pg_name (i := 3) sc_Keeper_keep.nd rfl (Or.inl rfl)) pgs_nil)))) (pss_cons (ps_expr (pe_bm PySem.F.plainAttrs_list PySem.F.slot_list_append PySem.F.type_list_append mt_append (pe_fld (pv 0) rfl) (pa_cons (pv 2) pa_nil))) (pss_one (ps_fld (pv 0) (pv 3) rfl)))), ?_⟩)
  · obtain ⟨k, dk, A, way, wk, num, LG, log, c, t, w0, n0, rfl, _⟩ := h
    rfl
  obtain ⟨k, dk, A, way, wk, num, LG, log, c, t, w0, n0, rfl, hk, hL, hl, hc, ht, q⟩ := h
  have hg := DGet.k (k := .inr "a") hc
  rw [valV_pos rfl] at hg
  have nkL : k ≠ LG := ne_of hk hL (fun z => nomatch z)
  refine ⟨.ref c, rfl, .ref k, rfl, k, _, dk, _, .str "a", rfl, hk, T.c_Keeper, T.n_Keeper_cell, rfl, c, .ref t, rfl, hg, t, _, rfl, SqT.of ht, rfl, _, _, rfl, _, _, rfl, rfl, ?_⟩
  refine ⟨.ref k, rfl, k, _, dk, _, .ref LG, rfl, hk, T.c_Keeper, T.n_Keeper_log, rfl, .inl ⟨rfl, _, SqL.of hL⟩, .str w0, rfl, LG, _, .str w0, rfl, rfl, hL, big_size (by rw [List.length_map]; omega), ?_⟩
  refine ⟨.int n0, rfl, .ref k, rfl, k, _, dk, _, rfl, (upd_ne nkL).trans hk, T.c_Keeper, T.n_Keeper_number, Nat.le_of_ble_eq_true rfl, ?_⟩
  refine q _ (fun b o hb hn => (upd_ne fun z => hn (.inl z)).trans ((upd_ne fun z => hn (.inr z)).trans hb)) upd_same ((upd_ne nkL.symm).trans ?_)
  rw [upd_same, List.map_append]
  rfl
theorem sc_Keeper_update : FnScope ["self", "some", "number", "notice"] ["self", "some"] (defScope s_Keeper_update) := ⟨rfl, rfl, rfl, by decide +kernel, rfl, by decide +kernel, by decide +kernel⟩
theorem ok_Keeper_update (T : Tx w K mg) : FnN P w K mg base 2 m_Keeper_update (fun vs H Q => ∃ k dk A way wk num LG log L qs ents dA S nm wk2 D pos dS rule C M PL QL t w0 n0, vs = [.ref k, .ref L] ∧ H k = some (.ins a_Keeper dk (kpF A way wk ((num : Nat) : Int) LG)) ∧ H LG = some (.lst (log.map .str)) ∧ log.length + qs.length ≤ 100000 ∧ H L = some (.lst qs) ∧ Paired (QV H) qs ents ∧ L ≠ LG ∧
    H A = some (.ins a_Client dA (cliF S nm wk2 D pos)) ∧ H S = some (.ins a_Store dS (stF rule C M PL QL)) ∧ H C = some (.dK [(.inr "a", .ref t)]) ∧ H t = some (.tup [.str w0, .int ((n0 : Nat) : Int)]) ∧
    ∀ H', Fr (fun b => b = k ∨ b = LG) H H' → H' k = some (.ins a_Keeper dk (kpF A way wk (((updP way w0 n0 log num ents).2 : Nat) : Int) LG)) → H' LG = some (.lst ((updP way w0 n0 log num ents).1.map .str)) → Q .non H') := by
  obtain ⟨fd, F⟩ := T.F_Keeper_update
  refine F.okN rfl sc_Keeper_update (fun _ _ _ _ _ _ us hl => match us, hl with | [_, _], _ => rfl) (fun vs H Q h => ?_) (fun A outer s H vs Q hr h => ⟨_, (pss_cons (ps_if (pt_cmpR op_eq (pe_fld (pv 0) rfl) pe_str (nomark _)) (pss_cons (ps_if (pt_cmpR op_gt (pe_callB call_len_seq (by rfl) T.z_len PySem.boot_len (pa_cons (pv 1) pa_nil)) pe_int (nomark _)) (pss_one (ps_expr (pe_mt (ok_Keeper_keep T) (hr.mono (by decide)) T.c_Keeper T.me_Keeper_keep (pv 0) (pa_cons (pe_fld (pe_fld (pe_fld (pv 0) rfl) rfl) rfl) pa_nil)))) pss_nil) (pss_one ps_retN)) pss_nil) (pss_one (ps_for PassesOwn.never rfl (pi_list (pv 1)) (pg_tup rfl (pgs_cons (pg_name (i := 2) sc_Keeper_update.nd rfl (Or.inl rfl)) (pgs_cons (pg_name (i := 3) sc_Keeper_update.nd rfl (Or.inl rfl)) pgs_nil))) (pss_one (ps_if (PW.pt (pw_or (pt_cmpR op_eq (pe_fld (pv 0) rfl) pe_str (nomark _)) (pw_or1 (pt_cmpR op_ge (pv 2) (pe_fld (pv 0) rfl) (nomark _))))) (pss_cons (ps_expr (pe_bm PySem.F.plainAttrs_list PySem.F.slot_list_append PySem.F.type_list_append mt_append (pe_fld (pv 0) rfl) (pa_cons (pe_fld (pv 3) rfl) pa_nil))) (pss_one (ps_fld (pv 0) (pv 2) rfl))) pss_nil))))), ?_⟩)
  · obtain ⟨k, dk, A, way, wk, num, LG, log, L, qs, ents, dA, S, nm, wk2, D, pos, dS, rule, C, M, PL, QL, t, w0, n0, rfl, _⟩ := h
    rfl
  obtain ⟨k, dk, A, way, wk, num, LG, log, L, qs, ents, dA, S, nm, wk2, D, pos, dS, rule, C, M, PL, QL, t, w0, n0, rfl, hk, hL, hl, hQ, hq, nL, hA, hS, hC, ht, q⟩ := h
  have s0 : DS K H (L2.start ["self", "some", "number", "notice"] [.ref k, .ref L]) [.v (.ref k), .v (.ref L), .no, .no] := .cons (s := .v _) rfl (.cons (s := .v _) rfl (DS.nos 2))
  have nkL : k ≠ LG := ne_of hk hL (fun z => nomatch z)
  have hlen := Paired.length hq
  refine ⟨.ref k, rfl, k, _, dk, _, .str way, rfl, hk, T.c_Keeper, T.n_Keeper_way, rfl, rfl, _, rfl, ?_⟩
  by_cases hw : way = "reread"
  · subst hw
    refine iteT ⟨.ref L, rfl, L, _, rfl, .inl (SqL.of hQ), _, _, rfl, rfl, _, rfl, ?_⟩
    unfold updP at q
    rw [if_pos rfl] at q
    cases ents with
    | nil =>
      cases hq
      refine iteF (q H (fun b o hb _ => hb) hk hL)
    | cons e es =>
      rw [decide_eq_true (show (0 : Int) < (qs.length : Nat) by rw [hlen]; simp only [List.length_cons]; omega)]
      refine iteT ⟨.ref k, rfl, k, dk, _, rfl, hk, rfl, .ref k, rfl, k, _, dk, _, .ref A, rfl, hk, T.c_Keeper, T.n_Keeper_guest, rfl, A, _, dA, _, .ref S, rfl, hA, T.c_Client, T.n_Client_store, rfl, S, _, dS, _, .ref C, rfl, hS, T.c_Store, T.n_Store_cells, rfl, k, dk, A, "reread", wk, _, LG, log, C, t, w0, _, rfl, hk, hL, by omega, hC, ht, fun H' fr h1 h2 => q H' fr h1 h2⟩
  · have hwd : decide (V.str way = V.str "reread") = false := decide_eq_false fun z => hw (V.str.inj z)
    rw [hwd]
    unfold updP at q
    rw [if_neg hw] at q
    refine iteF ⟨.ref L, rfl, L, rfl, ⟨_, SqL.of hQ⟩, ?_⟩
    refine for_it (walk_list (K := K) (a := L) (xs := qs)) (fun j σ' H' => Fr (fun b => b = k ∨ b = LG) H H' ∧ DS K H' σ' [.v (.ref k), .v (.ref L), .no, .no] ∧ ∃ p : List Str × Nat, p = (ents.take j).foldl (fun p e => if way = "take" ∨ p.2 ≤ e.1 then (p.1 ++ [e.2], e.1) else p) (log, num) ∧ p.1.length ≤ log.length + j ∧ H' k = some (.ins a_Keeper dk (kpF A way wk ((p.2 : Nat) : Int) LG)) ∧ H' LG = some (.lst (p.1.map .str)))
      ⟨fun b o h _ => h, s0, (log, num), rfl, Nat.le_refl _, hk, hL⟩ (fun j σ' H' _ p => SqL.of (p.1 _ _ hQ fun z => z.elim (ne_of hQ hk (fun z => nomatch z)) nL)) (fun j xv σ' H' H'' hj ⟨fr, s', p, ep, pl, hk', hL'⟩ y => ?_) (fun σ' H' ⟨fr, s', p, ep, pl, hk', hL'⟩ => ?_)
    · obtain ⟨rfl, hxv⟩ := y
      obtain ⟨en, hen, tt, n, rfl, htt, hn⟩ := pairedR hq hxv
      have tk : (ents.take (j + 1)).foldl (fun p e => if way = "take" ∨ p.2 ≤ e.1 then (p.1 ++ [e.2], e.1) else p) (log, num) = if way = "take" ∨ p.2 ≤ en.1 then (p.1 ++ [en.2], en.1) else p := by
        rw [List.take_add_one, hen, List.foldl_append, ← ep]
        rfl
      have nn : ∀ {b : Addr} {o : HO}, H b = some o → (∀ C2 d f, o ≠ .ins C2 d f) → (∀ l, o ≠ .lst l) → ¬ (b = k ∨ b = LG) := fun hb h1 h2 z => z.elim (fun z => by rw [z, hk] at hb; exact h1 _ _ _ (Option.some.inj hb).symm) (fun z => by rw [z, hL] at hb; exact h2 _ (Option.some.inj hb).symm)
      have htt' := fr _ _ htt (nn htt (fun _ _ _ z => nomatch z) (fun _ z => nomatch z))
      obtain ⟨dn, hn⟩ := hn
      have hn' := fr _ _ hn (fun z => z.elim (fun z => by rw [z, hk] at hn; cases hn) (fun z => by rw [z, hL] at hn; cases hn))
      have s2 := (s'.set (i := 2) (s := .v (.int ((en.1 : Nat) : Int))) (v := .int ((en.1 : Nat) : Int)) rfl).set (i := 3) (s := .v (.ref n)) (v := .ref n) rfl
      have sw : ∀ {H3}, Tp K H'' H3 → DS K H3 _ [.v (.ref k), .v (.ref L), .no, .no] := fun e => (s2.mono e).wk ⟨.inr rfl, .inr rfl, .inl rfl, .inl rfl, trivial⟩
      refine ⟨tt, _, rfl, SqT.of htt', rfl, _, _, rfl, _, _, rfl, rfl, ?_⟩
      have go : (way = "take" ∨ p.2 ≤ en.1) → tSeq (tDrop (tBM K "list" rAppend (tFld K (tVar 0) "log") (tCons (tFld K (tVar 3) "word") tNil))) (sFld K (tVar 0) (tVar 2) "number") { nx := fun σ' H' => Fr (fun b => b = k ∨ b = LG) H H' ∧ DS K H' σ' [.v (.ref k), .v (.ref L), .no, .no] ∧ ∃ p : List Str × Nat, p = (ents.take (j + 1)).foldl (fun p e => if way = "take" ∨ p.2 ≤ e.1 then (p.1 ++ [e.2], e.1) else p) (log, num) ∧ p.1.length ≤ log.length + (j + 1) ∧ H' k = some (.ins a_Keeper dk (kpF A way wk ((p.2 : Nat) : Int) LG)) ∧ H' LG = some (.lst (p.1.map .str)), rt := Q } ((σ'.set 2 (some (.int ((en.1 : Nat) : Int)))).set 3 (some (.ref n))) H'' := fun hc => by
        refine ⟨.ref k, s2.v (i := 0) rfl, k, _, dk, _, .ref LG, rfl, hk', T.c_Keeper, T.n_Keeper_log, rfl, .inl ⟨rfl, _, SqL.of hL'⟩, .ref n, s2.v (i := 3) rfl, n, _, dn, _, .str en.2, rfl, hn', T.c_Notice, T.n_Notice_word, rfl, LG, _, .str en.2, rfl, rfl, hL', big_size (by rw [List.length_map]; omega), ?_⟩
        have hk2 := (upd_ne (o := .lst (p.1.map V.str ++ [.str en.2])) nkL).trans hk'
        refine ⟨.int ((en.1 : Nat) : Int), s2.v (i := 2) rfl, .ref k, s2.v (i := 0) rfl, k, _, dk, _, rfl, hk2, T.c_Keeper, T.n_Keeper_number, Nat.le_of_ble_eq_true rfl, ?_⟩
        refine ⟨fun b o hb hn => (upd_ne fun z => hn (.inl z)).trans ((upd_ne fun z => hn (.inr z)).trans (fr b o hb hn)), sw ((Tp.upd hL' rfl).trans (Tp.upd hk2 rfl)), (p.1 ++ [en.2], en.1), by rw [tk, if_pos hc], by rw [List.length_append, List.length_singleton]; omega, upd_same, (upd_ne nkL.symm).trans ?_⟩
        rw [upd_same, List.map_append]
        rfl
      refine ⟨.ref k, s2.v (i := 0) rfl, k, _, dk, _, .str way, rfl, hk', T.c_Keeper, T.n_Keeper_way, rfl, rfl, _, rfl, ?_⟩
      by_cases ht1 : way = "take"
      · rw [decide_eq_true (congrArg V.str ht1)]
        exact iteT (iteT (go (.inl ht1)))
      · have htd : decide (V.str way = V.str "take") = false := decide_eq_false fun z => ht1 (V.str.inj z)
        rw [htd]
        refine iteF ⟨.int ((en.1 : Nat) : Int), s2.v (i := 2) rfl, .ref k, s2.v (i := 0) rfl, k, _, dk, _, .int ((p.2 : Nat) : Int), rfl, hk', T.c_Keeper, T.n_Keeper_number, rfl, _, _, rfl, rfl, _, rfl, ?_⟩
        by_cases ht2 : p.2 ≤ en.1
        · rw [decide_eq_true (show ((p.2 : Nat) : Int) ≤ (en.1 : Nat) by omega)]
          exact iteT (go (.inr ht2))
        · rw [decide_eq_false (show ¬ ((p.2 : Nat) : Int) ≤ (en.1 : Nat) by omega)]
          exact iteF ⟨fr, sw Tp.refl, p, by rw [tk, if_neg (fun z => z.elim ht1 ht2)], by omega, hk', hL'⟩
    · rw [hlen, List.take_length] at ep
      rw [← ep] at q
      exact q H' fr hk' hL'
end
end KX
set_option maxHeartbeats 4000000
namespace KX
open PySem PySem.Spec PyProof.Rows L2
/-! ### the store, its two clients and the keeper, by plain data -/
structure Ads where
  S : Addr
  dS : Addr
  C : Addr
  M : Addr
  PL : Addr
  QL : Addr
  A : Addr
  dA : Addr
  B : Addr
  dB : Addr
  k : Addr
  dk : Addr
  LG : Addr
  rule : Str
  way : Str
structure KS where
  w0 : Str
  n0 : Nat
  np : Nat
  ents : List (Nat × Str)
  st : Option Nat
  pos : Option Nat
  tr : Option (Str × Nat × List Row)
  log : List Str
  num : Nat
/-- ann's open transaction -/
def TrH (a : Ads) (N : Addr → Prop) (H : Hp) : Option (Str × Nat × List Row) → V → Prop
  | none, wk => wk = .non
  | some (w, n, rows), wk => ∃ x dx SD ts bg RL ML rs, wk = .ref x ∧ H x = some (.ins a_Transaction dx (trF a.S a.A SD bg RL ML true)) ∧ H SD = some (.dK [(.inr "a", .ref ts)]) ∧ H ts = some (.tup [.str w, .int ((n : Nat) : Int)]) ∧ H RL = some (.lst rs) ∧ Paired (RowV H) rs rows ∧
    SD ≠ a.C ∧ RL ≠ a.PL ∧ RL ≠ a.QL ∧ RL ≠ a.LG ∧ ¬ N x ∧ ¬ N RL ∧ (∀ r ∈ rows, r = .lis ∨ r = .unl)
structure KH (a : Ads) (s : KS) (tc D DB : Addr) (ps qs : List V) (wk : V) (N : Addr → Prop) (H : Hp) : Prop where
  hN : ∀ b, N b → H b ≠ none
  hS : H a.S = some (.ins a_Store a.dS (stF a.rule a.C a.M a.PL a.QL))
  hC : H a.C = some (.dK [(.inr "a", .ref tc)])
  htc : H tc = some (.tup [.str s.w0, .int ((s.n0 : Nat) : Int)])
  hM : H a.M = some (.dK [(.inr "ann", .ref a.A), (.inr "bob", .ref a.B)])
  hPL : H a.PL = some (.lst ps)
  hQL : H a.QL = some (.lst qs)
  hq : Paired (QV H) qs s.ents
  hA : H a.A = some (.ins a_Client a.dA (cliF a.S "ann" wk D (posV s.pos)))
  hD : H D = some (.dK (oneI s.st))
  hB : H a.B = some (.ins a_Client a.dB (cliF a.S "bob" .non DB (posV none)))
  hDB : H DB = some (.dK (oneI none))
  hk : H a.k = some (.ins a_Keeper a.dk (kpF a.A a.way wk ((s.num : Nat) : Int) a.LG))
  hL : H a.LG = some (.lst (s.log.map .str))
  tr : TrH a N H s.tr wk
  lps : ps.length = s.np
  nPQ : a.PL ≠ a.QL
  nPL : a.PL ≠ a.LG
  nQL : a.QL ≠ a.LG
  nAB : a.A ≠ a.B
  no : ¬ N a.A ∧ ¬ N a.B ∧ ¬ N a.C ∧ ¬ N a.QL ∧ ¬ N a.PL ∧ ¬ N a.k ∧ ¬ N a.LG
def FrN (N : Addr → Prop) (H H' : Hp) : Prop := ∀ b o, N b → H b = some o → H' b = some o
theorem FrN.trans {N : Addr → Prop} {H H1 H2 : Hp} (x : FrN N H H1) (y : FrN N H1 H2) : FrN N H H2 := fun b o n h => y b o n (x b o n h)
def Imm (o : HO) : Prop := (∃ xs, o = .tup xs) ∨ ∃ dx f, o = .ins a_Notice dx f
theorem QV.imm {H H' : Hp} (k : ∀ b o, H b = some o → Imm o → H' b = some o) {v : V} {e : Nat × Str} (h : QV H v e) : QV H' v e := by
  obtain ⟨t, n, h1, h2, d, h3⟩ := h
  exact ⟨t, n, h1, k _ _ h2 (.inl ⟨_, rfl⟩), d, k _ _ h3 (.inr ⟨_, _, rfl⟩)⟩
theorem RowV.imm {H H' : Hp} (k : ∀ b o, H b = some o → Imm o → H' b = some o) {v : V} {r : Row} (h : RowV H v r) : RowV H' v r := by
  cases r with
  | set z => obtain ⟨t, h1, h2⟩ := h; exact ⟨t, h1, k _ _ h2 (.inl ⟨_, rfl⟩)⟩
  | say z => obtain ⟨t, n, h1, h2, d, h3⟩ := h; exact ⟨t, n, h1, k _ _ h2 (.inl ⟨_, rfl⟩), d, k _ _ h3 (.inr ⟨_, _, rfl⟩)⟩
  | lis => obtain ⟨t, h1, h2⟩ := h; exact ⟨t, h1, k _ _ h2 (.inl ⟨_, rfl⟩)⟩
  | unl => obtain ⟨t, h1, h2⟩ := h; exact ⟨t, h1, k _ _ h2 (.inl ⟨_, rfl⟩)⟩
/-- ours: what the operations change -/
def Ours (a : Ads) (H : Hp) (b : Addr) : Prop := b = a.A ∨ b = a.B ∨ b = a.C ∨ b = a.QL ∨ b = a.PL ∨ b = a.k ∨ b = a.LG ∨ (∃ dx f, H b = some (.ins a_Transaction dx f)) ∨ (∃ l, H b = some (.lst l) ∧ b ≠ a.PL ∧ b ≠ a.QL ∧ b ≠ a.LG)
section
variable {a : Ads} {s s' : KS} {tc D DB tc' D' DB' : Addr} {ps qs ps' qs' : List V} {wk wk' : V} {N M : Addr → Prop} {H H' : Hp}
theorem KH.imm (h : KH a s tc D DB ps qs wk N H) (fr : Fr M H H') (hm : ∀ b, M b → Ours a H b) : ∀ b o, H b = some o → Imm o → H' b = some o := fun b o hb hi => by
  refine fr b o hb fun hM => ?_
  have hA := h.hA
  have hB := h.hB
  have hC := h.hC
  have hQ := h.hQL
  have hP := h.hPL
  have hk := h.hk
  have hL := h.hL
  rcases hi with ⟨xs, rfl⟩ | ⟨dx, f, rfl⟩ <;> rcases hm b hM with e | e | e | e | e | e | e | ⟨d2, f2, e⟩ | ⟨l, e, _⟩ <;> grind
theorem KH.go (h : KH a s tc D DB ps qs wk N H) (fr : Fr M H H') (hm : ∀ b, M b → Ours a H b) (hmN : ∀ b, M b → ¬ N b)
    (hC' : H' a.C = some (.dK [(.inr "a", .ref tc')])) (htc' : H' tc' = some (.tup [.str s'.w0, .int ((s'.n0 : Nat) : Int)])) (hP' : H' a.PL = some (.lst ps')) (hQ' : H' a.QL = some (.lst qs')) (hq' : Paired (QV H') qs' s'.ents)
    (hA' : H' a.A = some (.ins a_Client a.dA (cliF a.S "ann" wk' D' (posV s'.pos)))) (hD' : H' D' = some (.dK (oneI s'.st))) (hB' : H' a.B = some (.ins a_Client a.dB (cliF a.S "bob" .non DB' (posV none)))) (hDB' : H' DB' = some (.dK (oneI none)))
    (hk' : H' a.k = some (.ins a_Keeper a.dk (kpF a.A a.way wk' ((s'.num : Nat) : Int) a.LG))) (hL' : H' a.LG = some (.lst (s'.log.map .str))) (tr' : TrH a N H' s'.tr wk') (lps' : ps'.length = s'.np) : KH a s' tc' D' DB' ps' qs' wk' N H' ∧ FrN N H H' := by
  have fn : FrN N H H' := fun b o hn hb => fr b o hb fun hM => hmN b hM hn
  refine ⟨⟨fun b hb => ?_, fr _ _ h.hS fun hM => ?_, hC', htc', fr _ _ h.hM fun hM => ?_, hP', hQ', hq', hA', hD', hB', hDB', hk', hL', tr', lps', h.nPQ, h.nPL, h.nQL, h.nAB, h.no⟩, fn⟩
  · cases hh : H b with
    | none => exact absurd hh (h.hN b hb)
    | some o =>
      rw [fn b o hb hh]
      exact fun z => nomatch z
  · have hS := h.hS
    have hA := h.hA
    have hB := h.hB
    have hC := h.hC
    have hQ := h.hQL
    have hP := h.hPL
    have hk := h.hk
    have hL := h.hL
    rcases hm _ hM with e | e | e | e | e | e | e | ⟨d2, f2, e⟩ | ⟨l, e, _⟩ <;> grind
  · have hMm := h.hM
    have hA := h.hA
    have hB := h.hB
    have hC := h.hC
    have hQ := h.hQL
    have hP := h.hPL
    have hk := h.hk
    have hL := h.hL
    rcases hm _ hM with e | e | e | e | e | e | e | ⟨d2, f2, e⟩ | ⟨l, e, _⟩ <;> grind
theorem KH.keepT (h : KH a s tc D DB ps qs wk N H) (fr : Fr M H H') (hm : ∀ b, M b → b = a.A ∨ b = a.B ∨ b = a.C ∨ b = a.QL ∨ b = a.PL ∨ b = a.k ∨ b = a.LG) : TrH a N H' s.tr wk := by
  have im := h.imm fr fun b hb => by
    rcases hm b hb with e | e | e | e | e | e | e
    · exact .inl e
    · exact .inr (.inl e)
    · exact .inr (.inr (.inl e))
    · exact .inr (.inr (.inr (.inl e)))
    · exact .inr (.inr (.inr (.inr (.inl e))))
    · exact .inr (.inr (.inr (.inr (.inr (.inl e)))))
    · exact .inr (.inr (.inr (.inr (.inr (.inr (.inl e))))))
  have ht := h.tr
  cases hs : s.tr with
  | none => rw [hs] at ht; exact ht
  | some t =>
    rw [hs] at ht
    obtain ⟨w, n, rows⟩ := t
    obtain ⟨x, dx, SD, ts, bg, RL, ML, rs, e1, hx, hSD, hts, hRL, hr, n1, n2, n3, n4, n5, n6, n7⟩ := ht
    have fr : ∀ b o, H b = some o → ¬ M b → H' b = some o := fr
    have hA := h.hA
    have hB := h.hB
    have hC := h.hC
    have hQ := h.hQL
    have hP := h.hPL
    have hk := h.hk
    have hL := h.hL
    refine ⟨x, dx, SD, ts, bg, RL, ML, rs, e1, fr _ _ hx fun hM => ?_, fr _ _ hSD fun hM => ?_, im _ _ hts (.inl ⟨_, rfl⟩), fr _ _ hRL fun hM => ?_, Paired.mapP hr fun _ _ h => RowV.imm im h, n1, n2, n3, n4, n5, n6, n7⟩
    · rcases hm _ hM with e | e | e | e | e | e | e <;> grind
    · rcases hm _ hM with e | e | e | e | e | e | e <;> grind
    · rcases hm _ hM with e | e | e | e | e | e | e <;> grind
theorem KH.same (h : KH a s tc D DB ps qs wk N H) (e : Same H H') : KH a s tc D DB ps qs wk N H' ∧ FrN N H H' :=
  h.go (M := fun _ => False) (fun b o hb _ => e b o hb) (fun _ z => z.elim) (fun _ z => z.elim) (e _ _ h.hC) (e _ _ h.htc) (e _ _ h.hPL) (e _ _ h.hQL) (Paired.mapP h.hq fun _ _ q => q.mono e) (e _ _ h.hA) (e _ _ h.hD) (e _ _ h.hB) (e _ _ h.hDB) (e _ _ h.hk) (e _ _ h.hL) (h.keepT (M := fun _ => False) (fun b o hb _ => e b o hb) (fun _ z => z.elim)) h.lps
/-- where a transaction of ann's ends, and the keeper's work with it -/
theorem KH.opEndX {Xp : Addr → Prop} {st' pos' : Option Nat} {np' : Nat} (h : KH a s tc D DB ps qs wk N H) (hx : ∀ b, Xp b → ∃ dx f, H b = some (.ins a_Transaction dx f)) (nx : ∀ b, Xp b → ¬ N b)
    (f3 : ∀ b o, H b = some o → ¬ (Xp b ∨ b = a.A ∨ b = a.C ∨ b = a.QL ∨ b = a.PL ∨ b = a.k) → H' b = some o)
    (hC' : H' a.C = some (.dK [(.inr "a", .ref tc)])) (hP' : H' a.PL = some (.lst ps')) (hQ' : H' a.QL = some (.lst qs)) (hA' : H' a.A = some (.ins a_Client a.dA (cliF a.S "ann" .non D' (posV pos')))) (hD' : H' D' = some (.dK (oneI st')))
    (hk' : H' a.k = some (.ins a_Keeper a.dk (kpF a.A a.way .non ((s.num : Nat) : Int) a.LG))) (lps' : ps'.length = np') : KH a { s with st := st', pos := pos', np := np', tr := none } tc D' DB ps' qs .non N H' ∧ FrN N H H' := by
  have hm : ∀ b, (Xp b ∨ b = a.A ∨ b = a.C ∨ b = a.QL ∨ b = a.PL ∨ b = a.k) → Ours a H b := fun b hb => by
    unfold Ours
    rcases hb with hb | hb
    · exact .inr (.inr (.inr (.inr (.inr (.inr (.inr (.inl (hx _ hb))))))))
    · clear f3
      grind
  have im := h.imm (M := fun b => Xp b ∨ b = a.A ∨ b = a.C ∨ b = a.QL ∨ b = a.PL ∨ b = a.k) f3 hm
  have nk : ∀ b o, H b = some o → b = a.B ∨ b = DB ∨ b = a.LG → ¬ (Xp b ∨ b = a.A ∨ b = a.C ∨ b = a.QL ∨ b = a.PL ∨ b = a.k) := fun b o hb hc => by
    have hA := h.hA
    have hC := h.hC
    have hQ := h.hQL
    have hP := h.hPL
    have hB := h.hB
    have hDB : H DB = some (.dK []) := h.hDB
    have hk := h.hk
    have hL := h.hL
    have n1 := h.nAB
    have n2 := h.nPL
    have n3 := h.nQL
    clear f3 im hm
    rcases hc with rfl | rfl | rfl <;> rintro (e | e | e | e | e | e)
    all_goals first | (obtain ⟨d2, f2, e⟩ := hx _ e; clear hx; grind) | (clear hx; grind)
  exact h.go (M := fun b => Xp b ∨ b = a.A ∨ b = a.C ∨ b = a.QL ∨ b = a.PL ∨ b = a.k) f3 hm (fun b hb => hb.elim (nx b) fun hb => by have := h.no; clear f3 im hm nk hx; rcases hb with rfl | rfl | rfl | rfl | rfl <;> grind) hC' (im _ _ h.htc (.inl ⟨_, rfl⟩)) hP' hQ' (Paired.mapP h.hq fun _ _ q => q.imm im) hA' hD' (f3 _ _ h.hB (nk _ _ h.hB (.inl rfl))) (f3 _ _ h.hDB (nk _ _ h.hDB (.inr (.inl rfl)))) hk' (f3 _ _ h.hL (nk _ _ h.hL (.inr (.inr rfl)))) rfl lps'
theorem KH.opEnd {x dx : Addr} {f : List (Str × V)} {st' pos' : Option Nat} {np' : Nat} (h : KH a s tc D DB ps qs wk N H) (hx : H x = some (.ins a_Transaction dx f)) (nx : ¬ N x)
    (f3 : ∀ b o, H b = some o → ¬ (b = x ∨ b = a.A ∨ b = a.C ∨ b = a.QL ∨ b = a.PL ∨ b = a.k) → H' b = some o)
    (hC' : H' a.C = some (.dK [(.inr "a", .ref tc)])) (hP' : H' a.PL = some (.lst ps')) (hQ' : H' a.QL = some (.lst qs)) (hA' : H' a.A = some (.ins a_Client a.dA (cliF a.S "ann" .non D' (posV pos')))) (hD' : H' D' = some (.dK (oneI st')))
    (hk' : H' a.k = some (.ins a_Keeper a.dk (kpF a.A a.way .non ((s.num : Nat) : Int) a.LG))) (lps' : ps'.length = np') : KH a { s with st := st', pos := pos', np := np', tr := none } tc D' DB ps' qs .non N H' ∧ FrN N H H' :=
  h.opEndX (Xp := fun b => b = x) (fun b hb => ⟨dx, f, by rw [hb]; exact hx⟩) (fun b hb => by rw [hb]; exact nx) f3 hC' hP' hQ' hA' hD' hk' lps'
/-- where the keeper copies -/
theorem KH.opLog {log' : List Str} {num' : Nat} (h : KH a s tc D DB ps qs wk N H) (f3 : ∀ b o, H b = some o → ¬ (b = a.k ∨ b = a.LG) → H' b = some o)
    (hk' : H' a.k = some (.ins a_Keeper a.dk (kpF a.A a.way wk ((num' : Nat) : Int) a.LG))) (hL' : H' a.LG = some (.lst (log'.map .str))) : KH a { s with log := log', num := num' } tc D DB ps qs wk N H' ∧ FrN N H H' := by
  have hk := h.hk
  have hL := h.hL
  have hm : ∀ b, (b = a.k ∨ b = a.LG) → Ours a H b := fun b hb => hb.elim (fun e => .inr (.inr (.inr (.inr (.inr (.inl e)))))) fun e => .inr (.inr (.inr (.inr (.inr (.inr (.inl e))))))
  have im := h.imm (M := fun b => b = a.k ∨ b = a.LG) f3 hm
  have nd : ∀ {b : Addr} {kv : List (L2.Key × V)}, H b = some (.dK kv) → ¬ (b = a.k ∨ b = a.LG) := fun hb z => z.elim (fun z => by rw [z, hk] at hb; cases hb) (fun z => by rw [z, hL] at hb; cases hb)
  have nl : ∀ {b : Addr} {l : List V}, H b = some (.lst l) → b ≠ a.LG → ¬ (b = a.k ∨ b = a.LG) := fun hb hn z => z.elim (fun z => by rw [z, hk] at hb; cases hb) hn
  have nc : ∀ {b dx : Addr} {f : List (Str × V)}, H b = some (.ins a_Client dx f) → ¬ (b = a.k ∨ b = a.LG) := fun hb z => z.elim (fun z => by rw [z, hk] at hb; cases hb) (fun z => by rw [z, hL] at hb; cases hb)
  exact h.go (M := fun b => b = a.k ∨ b = a.LG) f3 hm (fun b hb => by have := h.no; clear f3 im hm; grind) (f3 _ _ h.hC (nd h.hC)) (im _ _ h.htc (.inl ⟨_, rfl⟩)) (f3 _ _ h.hPL (nl h.hPL h.nPL)) (f3 _ _ h.hQL (nl h.hQL h.nQL)) (Paired.mapP h.hq fun _ _ q => q.imm im) (f3 _ _ h.hA (nc h.hA)) (f3 _ _ h.hD (nd h.hD)) (f3 _ _ h.hB (nc h.hB)) (f3 _ _ h.hDB (nd h.hDB)) hk' hL'
    (h.keepT (M := fun b => b = a.k ∨ b = a.LG) f3 (fun b hb => hb.elim (fun e => .inr (.inr (.inr (.inr (.inr (.inl e)))))) fun e => .inr (.inr (.inr (.inr (.inr (.inr e))))))) h.lps
end
end KX
set_option maxHeartbeats 4000000
namespace KX
open PySem PySem.Spec PyProof.Rows L2
def KS.keep (s : KS) (w : Str) (n : Nat) : KS := { s with log := s.log ++ [w], num := n }
def KS.upd (way : Str) (s : KS) (es : List (Nat × Str)) : KS := { s with log := (updP way s.w0 s.n0 s.log s.num es).1, num := (updP way s.w0 s.n0 s.log s.num es).2 }
def KS.alone (way z : Str) (s : KS) : KS :=
  if z = "begin" then { s with tr := some (s.w0, s.n0, []) }
  else if z = "listen" ∨ z = "unlisten" then { s with st := behS (some z) s.st s.ents.length, pos := behP (some z) s.st s.pos s.ents.length, np := s.np + 1 }
  else if z = "receive" then ({ s with pos := recP s.pos s.ents.length } : KS).upd way (recL s.st s.pos s.ents)
  else s
def KS.within (z : Str) (s : KS) (t : Str × Nat × List Row) : KS :=
  if z = "listen" then { s with tr := some (t.1, t.2.1, t.2.2 ++ [.lis]) }
  else if z = "unlisten" then { s with tr := some (t.1, t.2.1, t.2.2 ++ [.unl]) }
  else if z = "commit" then { s with st := behS (wishW t.2.2) s.st s.ents.length, pos := behP (wishW t.2.2) s.st s.pos s.ents.length, np := s.np + 1, tr := none }
  else if z = "rollback" then { s with tr := none }
  else s
def KS.step (way z : Str) (s : KS) : KS :=
  if z = "disconnect" then { s with st := none, pos := none, tr := none }
  else if z = "read" then (match s.tr with | none => s.keep s.w0 s.n0 | some t => s.keep t.1 t.2.1)
  else match s.tr with
  | none => s.alone way z
  | some t => s.within z t
structure Bd (s : KS) : Prop where
  np : s.np ≤ 800
  ents : s.ents.length ≤ 190
  log : s.log.length ≤ 90000
  rows : ∀ t, s.tr = some t → t.2.2.length ≤ 800
theorem same_imm {H H' : Hp} (e : Same H H') : ∀ b o, H b = some o → Imm o → H' b = some o := fun b o h _ => e b o h
theorem paired_drop {α β : Type} {G : α → β → Prop} : ∀ {l : List α} {m : List β} (n : Nat), Paired G l m → Paired G (l.drop n) (m.drop n)
  | _, _, 0, h => h
  | _, _, _ + 1, .nil => .nil
  | _, _, n + 1, .cons _ t => paired_drop n t
theorem paired_recL {G : V → (Nat × Str) → Prop} {st pos : Option Nat} {l : List V} {m : List (Nat × Str)} (h : Paired G l m) : Paired G (recL st pos l) (recL st pos m) := by
  cases pos with
  | none => exact .nil
  | some p =>
    show Paired G (l.drop (recM st p l.length)) (m.drop (recM st p m.length))
    rw [Paired.length h]
    exact paired_drop _ h
theorem rows_lu {rows : List Row} (h : ∀ r ∈ rows, r = .lis ∨ r = .unl) : setW rows = none ∧ saidW rows = [] := by
  constructor
  · unfold setW
    have key : ∀ (l : List Row) (o : Option Str), (∀ r ∈ l, r = .lis ∨ r = .unl) → l.foldl (fun o r => match r with | .set z => some z | _ => o) o = o := fun l => by
      induction l with
      | nil => intro o _; rfl
      | cons r l ih =>
        intro o hl
        rcases hl r List.mem_cons_self with rfl | rfl
        · exact ih o fun r hr => hl r (List.mem_cons_of_mem _ hr)
        · exact ih o fun r hr => hl r (List.mem_cons_of_mem _ hr)
    exact key rows none h
  · unfold saidW
    rw [List.filterMap_eq_nil_iff]
    intro r hr
    rcases h r hr with rfl | rfl <;> rfl
section
variable {P : Program} {w : World} {K : PySem.W.Frag} {mg : Str → Option Value} {base : Heap} {p : Addr}
theorem sc_Keeper_alone : FnScope ["self", "step"] ["self", "step"] (defScope s_Keeper_alone) := ⟨rfl, rfl, rfl, by decide +kernel, rfl, by decide +kernel, by decide +kernel⟩
theorem ok_Keeper_alone (T : Tx w K mg) : FnN P w K mg base 8 m_Keeper_alone (fun vs H Q => ∃ a s tc D DB ps qs N z, vs = [.ref a.k, .str z] ∧ KH a s tc D DB ps qs .non N H ∧ s.tr = none ∧ Bd s ∧ a.rule ∈ rules ∧
    ∀ H' tc' D' ps' qs' wk', KH a (s.alone a.way z) tc' D' DB ps' qs' wk' N H' → FrN N H H' → Q .non H') := by
  obtain ⟨fd, F⟩ := T.F_Keeper_alone
  refine F.okN rfl sc_Keeper_alone (fun _ _ _ _ _ _ us hl => match us, hl with | [_, _], _ => rfl) (fun vs H Q h => ?_) (fun A outer s H vs Q hr h => ⟨_, (pss_one (ps_if (pt_cmpR op_eq (pv 1) pe_str (nomark _)) (pss_one (ps_fld (pv 0) (pe_mt0 (ok_Sender_begin T) (hr.mono (by decide)) T.c_Client T.me_Client_begin (pe_fld (pv 0) rfl)) rfl)) (pss_one (ps_if (pt_cmpR op_in_seq (pv 1) (pe_tup (pa_cons pe_str (pa_cons pe_str pa_nil))) rfl) (pss_one (ps_expr (pe_mt (ok_Sender_run T) (hr.mono (by decide)) T.c_Client T.me_Client_run (pe_fld (pv 0) rfl) (pa_cons (pe_tup (pa_cons (pv 1) (pa_cons (pe_fld (pv 0) rfl) pa_nil))) pa_nil)))) (pss_one (ps_if (pt_cmpR op_eq (pv 1) pe_str (nomark _)) (pss_one (ps_expr (pe_mt (ok_Keeper_update T) (hr.mono (by decide)) T.c_Keeper T.me_Keeper_update (pv 0) (pa_cons (pe_mt0 (ok_Listener_receive T) (hr.mono (by decide)) T.c_Client T.me_Client_receive (pe_fld (pv 0) rfl)) pa_nil)))) pss_nil)))))), ?_⟩)
  · obtain ⟨a, s, tc, D, DB, ps, qs, N, z, rfl, _⟩ := h
    rfl
  obtain ⟨a, s, tc, D, DB, ps, qs, N, z, rfl, h, htr, bd, hru, q⟩ := h
  have s0 : DS K H (L2.start ["self", "step"] [.ref a.k, .str z]) [.v (.ref a.k), .d (.str z)] := .cons (s := .v _) rfl (.cons (s := .d _) ⟨_, rfl, .str _⟩ .nil)
  refine StD.go (G := gS H) ?_ (Same.refl H) s0
  refine s_if (evt_test (ev_eqs (ev_var rfl) ev_str)) (fun hz σ H1 e1 s1 => ?_) fun hz => ?_
  · have e1 : Same H H1 := e1
    obtain ⟨h1, f1⟩ := h.same e1
    have hz : z = "begin" := of_decide_eq_true hz
    refine ⟨.ref a.k, s1.v (i := 0) rfl, a.k, _, a.dk, _, .ref a.A, rfl, h1.hk, T.c_Keeper, T.n_Keeper_guest, rfl, a.A, a.dA, _, rfl, h1.hA, rfl, a.A, a.dA, a.S, "ann", D, posV s.pos, a.dS, a.rule, a.C, a.M, a.PL, a.QL, _, ps, rfl, h1.hA, h1.hS, h1.hC, h1.hPL, fun x dx SD RL ML H2 fr hA2 hx hSD hRL hML nx nSD nRL nML nRM => ?_⟩
    have hk2 := fr _ _ h1.hk (ne_of h1.hk h1.hA (fun z => nomatch z))
    refine ⟨.ref a.k, s1.v (i := 0) rfl, a.k, _, a.dk, _, rfl, hk2, T.c_Keeper, T.n_Keeper_work, Nat.le_of_ble_eq_true rfl, ?_⟩
    generalize hH3 : upd H2 a.k (.ins a_Keeper a.dk (putF "work" (.ref x) (kpF a.A a.way .non ((s.num : Nat) : Int) a.LG))) = H3
    have hk3 : H3 a.k = some (.ins a_Keeper a.dk (kpF a.A a.way (.ref x) ((s.num : Nat) : Int) a.LG)) := by rw [← hH3]; exact upd_same
    have o3 : ∀ b o, H2 b = some o → b ≠ a.k → H3 b = some o := fun b o hb hn => by rw [← hH3]; exact (upd_ne hn).trans hb
    have f3 : ∀ b o, H1 b = some o → ¬ (b = a.A ∨ b = a.k) → H3 b = some o := fun b o hb hn => o3 b o (fr b o hb fun z => hn (.inl z)) fun z => hn (.inr z)
    have hC := h1.hC
    have hA := h1.hA
    have hk := h1.hk
    have hD := h1.hD
    have hB := h1.hB
    have hDB := h1.hDB
    have hP := h1.hPL
    have hQ := h1.hQL
    have hL := h1.hL
    have htc := h1.htc
    have nAB := h1.nAB
    have hm : ∀ b, (b = a.A ∨ b = a.k) → Ours a H1 b := fun b hb => by unfold Ours; grind
    have im := h1.imm (M := fun b => b = a.A ∨ b = a.k) f3 hm
    obtain ⟨k3, g3⟩ := h1.go (M := fun b => b = a.A ∨ b = a.k) (s' := { s with tr := some (s.w0, s.n0, []) }) (tc' := tc) (D' := D) (DB' := DB) (ps' := ps) (qs' := qs) (wk' := .ref x) f3 hm (fun b hb => by have := h1.no; grind) (by grind) (im _ _ htc (.inl ⟨_, rfl⟩)) (by grind) (by grind) (Paired.mapP h1.hq fun _ _ q => q.imm im) (by grind) (by grind) (by grind) (by grind) hk3 (by grind)
      ⟨x, dx, SD, tc, (ps.length : Nat), RL, ML, [], rfl, by grind, by grind, im _ _ htc (.inl ⟨_, rfl⟩), by grind, .nil, by grind, by grind, by grind, by grind, fun z => h1.hN _ z nx, fun z => h1.hN _ z nRL, fun _ z => nomatch z⟩ h1.lps
    refine q H3 tc D ps qs (.ref x) ?_ (f1.trans g3)
    unfold KS.alone
    rw [if_pos hz]
    exact k3
  refine s_if (b := decide (z ∈ (["listen", "unlisten"] : List Str))) (evt_test (ev_inS _ (ev_var rfl) (ev_tup (eva_cons ev_str (eva_cons ev_str eva_nil))))) (fun hz2 σ H1 e1 s1 => ?_) fun hz2 => ?_
  · have e1 : Same H H1 := e1
    obtain ⟨h1, f1⟩ := h.same e1
    have hz1 : ¬ z = "begin" := of_decide_eq_false hz
    have hz3 : z = "listen" ∨ z = "unlisten" := by
      have hm := of_decide_eq_true hz2
      rcases List.mem_cons.mp hm with e | e
      · exact .inl e
      · exact .inr (by simpa using e)
    have hlq := Paired.length h1.hq
    have hbe := bd.ents
    have hbn := bd.np
    have hlp := h1.lps
    refine ⟨.ref a.k, s1.v (i := 0) rfl, a.k, _, a.dk, _, .ref a.A, rfl, h1.hk, T.c_Keeper, T.n_Keeper_guest, rfl, a.A, a.dA, _, rfl, h1.hA, rfl, .str z, s1.d1 (i := 1) rfl, .ref a.k, s1.v (i := 0) rfl, a.k, _, a.dk, _, .str "a", rfl, h1.hk, T.c_Keeper, T.n_Keeper_cell, rfl, show 2 ≤ sizeLine by decide, fun t ht => ?_⟩
    have e2 := Same.new (o := HO.tup [.str z, .str "a"]) ht
    obtain ⟨h2, f2⟩ := h1.same e2
    refine ⟨a.A, t, z, a.dA, a.S, "ann", D, s.st, s.pos, a.dS, a.rule, a.C, a.M, a.PL, a.QL, a.B, a.dB, "bob", .non, DB, none, _, tc, s.w0, _, ps, qs, rfl, upd_same, hz3, h2.hA, h2.hS, hru, h2.hD, h2.hB, by decide +kernel, h2.hM, .inl rfl, h2.hC, h2.htc, h2.hPL, h2.hQL, h2.nPQ, by omega, by omega, fun H3 row D' fr c1 c2 c3 c4 c5 c6 => ?_⟩
    have fr : ∀ b o, upd H1 t (.tup [.str z, .str "a"]) b = some o → ¬ (b = a.A ∨ b = a.C ∨ b = a.QL ∨ b = a.PL) → H3 b = some o := fr
    have hm : ∀ b, (b = a.A ∨ b = a.C ∨ b = a.QL ∨ b = a.PL) → Ours a (upd H1 t (.tup [.str z, .str "a"])) b := fun b hb => by unfold Ours; grind
    have im := h2.imm (M := fun b => b = a.A ∨ b = a.C ∨ b = a.QL ∨ b = a.PL) fr hm
    rw [hlq] at c1 c2
    have hA := h2.hA
    have hC := h2.hC
    have hQ := h2.hQL
    have hP := h2.hPL
    have hB := h2.hB
    have hDB := h2.hDB
    have hk := h2.hk
    have hL := h2.hL
    have nAB := h2.nAB
    have n1 := h2.nPL
    have n2 := h2.nQL
    obtain ⟨k3, g3⟩ := h2.go (M := fun b => b = a.A ∨ b = a.C ∨ b = a.QL ∨ b = a.PL) (s' := { s with st := behS (some z) s.st s.ents.length, pos := behP (some z) s.st s.pos s.ents.length, np := s.np + 1 }) (tc' := tc) (D' := D') (DB' := DB) (ps' := ps ++ [row]) (qs' := qs) (wk' := .non) fr hm (fun b hb => by have := h2.no; grind) c4 (im _ _ h2.htc (.inl ⟨_, rfl⟩)) c6 c5 (Paired.mapP h2.hq fun _ _ q => q.imm im) c1 c2 (by grind) (by grind) (by grind) (by grind)
      (h2.keepT (M := fun b => b = a.A ∨ b = a.C ∨ b = a.QL ∨ b = a.PL) fr (by grind)) (by rw [List.length_append, List.length_singleton, hlp])
    refine q H3 tc D' (ps ++ [row]) qs .non ?_ (f1.trans (f2.trans g3))
    unfold KS.alone
    rw [if_neg hz1, if_pos hz3]
    exact k3
  refine s_if (evt_test (ev_eqs (ev_var rfl) ev_str)) (fun hz3 σ H1 e1 s1 => ?_) fun hz3 σ H1 e1 s1 => ?_
  · have e1 : Same H H1 := e1
    obtain ⟨h1, f1⟩ := h.same e1
    have hz1 : ¬ z = "begin" := of_decide_eq_false hz
    have hz2 : ¬ (z = "listen" ∨ z = "unlisten") := fun h => (of_decide_eq_false hz2) (by rcases h with e | e <;> simp [e])
    have hz3 : z = "receive" := of_decide_eq_true hz3
    have hlq := Paired.length h1.hq
    have hbe := bd.ents
    have hbl := bd.log
    have hrl : (recL s.st s.pos qs).length ≤ qs.length := by
      unfold recL
      split
      · exact Nat.zero_le _
      · rw [List.length_drop]; omega
    have hA := h1.hA
    have hC := h1.hC
    have hQ := h1.hQL
    have hP := h1.hPL
    have hB := h1.hB
    have hD := h1.hD
    have hDB := h1.hDB
    have hk := h1.hk
    have hL := h1.hL
    have hS := h1.hS
    have nAB := h1.nAB
    have n1 := h1.nPL
    have n2 := h1.nQL
    refine ⟨.ref a.k, s1.v (i := 0) rfl, a.k, a.dk, _, rfl, h1.hk, rfl, .ref a.k, s1.v (i := 0) rfl, a.k, _, a.dk, _, .ref a.A, rfl, h1.hk, T.c_Keeper, T.n_Keeper_guest, rfl, a.A, a.dA, _, rfl, h1.hA, rfl, a.A, a.dA, a.S, "ann", D, s.st, s.pos, a.dS, a.rule, a.C, a.M, a.PL, a.QL, qs, s.ents, rfl, h1.hA, h1.hD, h1.hS, h1.hQL, h1.hq, by omega, fun L H2 fr nL hL2 hA2 => ?_⟩
    have fr : ∀ b o, H1 b = some o → ¬ b = a.A → H2 b = some o := fr
    have im2 := h1.imm (M := fun b => b = a.A) fr (fun b hb => .inl hb)
    refine ⟨a.k, a.dk, a.A, a.way, .non, s.num, a.LG, s.log, L, recL s.st s.pos qs, recL s.st s.pos s.ents, a.dA, a.S, "ann", .non, D, posV (recP s.pos qs.length), a.dS, a.rule, a.C, a.M, a.PL, a.QL, tc, s.w0, s.n0, rfl, by grind, by grind, by omega, hL2, Paired.mapP (paired_recL h1.hq) fun _ _ q => q.imm im2, by grind, hA2, by grind, by grind, im2 _ _ h1.htc (.inl ⟨_, rfl⟩), fun H3 fr3 hk3 hL3 => ?_⟩
    have fr3 : ∀ b o, H2 b = some o → ¬ (b = a.k ∨ b = a.LG) → H3 b = some o := fr3
    have f13 : ∀ b o, H1 b = some o → ¬ (b = a.A ∨ b = a.k ∨ b = a.LG) → H3 b = some o := by grind
    have hm : ∀ b, (b = a.A ∨ b = a.k ∨ b = a.LG) → Ours a H1 b := fun b hb => by unfold Ours; grind
    have im := h1.imm (M := fun b => b = a.A ∨ b = a.k ∨ b = a.LG) f13 hm
    rw [hlq] at hA2
    obtain ⟨k3, g3⟩ := h1.go (M := fun b => b = a.A ∨ b = a.k ∨ b = a.LG) (s' := ({ s with pos := recP s.pos s.ents.length } : KS).upd a.way (recL s.st s.pos s.ents)) (tc' := tc) (D' := D) (DB' := DB) (ps' := ps) (qs' := qs) (wk' := .non) f13 hm (fun b hb => by have := h1.no; grind) (by grind) (im _ _ h1.htc (.inl ⟨_, rfl⟩)) (by grind) (by grind) (Paired.mapP h1.hq fun _ _ q => q.imm im) (fr3 _ _ hA2 (by grind)) (by show H3 D = some (.dK (oneI s.st)); grind) (by grind) (by grind) hk3 hL3
      (h1.keepT (M := fun b => b = a.A ∨ b = a.k ∨ b = a.LG) f13 (by grind)) h1.lps
    refine q H3 tc D ps qs .non ?_ (f1.trans g3)
    unfold KS.alone
    rw [if_neg hz1, if_neg hz2, if_pos hz3]
    exact k3
  · have e1 : Same H H1 := e1
    obtain ⟨h1, f1⟩ := h.same e1
    have hz1 : ¬ z = "begin" := of_decide_eq_false hz
    have hz2 : ¬ (z = "listen" ∨ z = "unlisten") := fun h => (of_decide_eq_false hz2) (by rcases h with e | e <;> simp [e])
    refine q H1 tc D ps qs .non ?_ f1
    unfold KS.alone
    rw [if_neg hz1, if_neg hz2, if_neg (of_decide_eq_false hz3)]
    exact h1
theorem sc_Keeper_within : FnScope ["self", "step"] ["self", "step"] (defScope s_Keeper_within) := ⟨rfl, rfl, rfl, by decide +kernel, rfl, by decide +kernel, by decide +kernel⟩
theorem ok_Keeper_within (T : Tx w K mg) : FnN P w K mg base 8 m_Keeper_within (fun vs H Q => ∃ a s tc D DB ps qs wk N z t, vs = [.ref a.k, .str z] ∧ KH a s tc D DB ps qs wk N H ∧ s.tr = some t ∧ Bd s ∧ a.rule ∈ rules ∧
    ∀ H' tc' D' ps' qs' wk', KH a (s.within z t) tc' D' DB ps' qs' wk' N H' → FrN N H H' → Q .non H') := by
  obtain ⟨fd, F⟩ := T.F_Keeper_within
  refine F.okN rfl sc_Keeper_within (fun _ _ _ _ _ _ us hl => match us, hl with | [_, _], _ => rfl) (fun vs H Q h => ?_) (fun A outer s H vs Q hr h => ⟨_, (pss_one (ps_if (pt_cmpR op_eq (pv 1) pe_str (nomark _)) (pss_one (ps_expr (pe_mt (ok_Transaction_listen T) (hr.mono (by decide)) T.c_Transaction T.me_Transaction_listen (pe_fld (pv 0) rfl) (pa_cons (pe_fld (pv 0) rfl) pa_nil)))) (pss_one (ps_if (pt_cmpR op_eq (pv 1) pe_str (nomark _)) (pss_one (ps_expr (pe_mt (ok_Transaction_unlisten T) (hr.mono (by decide)) T.c_Transaction T.me_Transaction_unlisten (pe_fld (pv 0) rfl) (pa_cons (pe_fld (pv 0) rfl) pa_nil)))) (pss_one (ps_if (pt_cmpR op_eq (pv 1) pe_str (nomark _)) (pss_cons (ps_expr (pe_mt0 (ok_Transaction_commit T) (hr.mono (by decide)) T.c_Transaction T.me_Transaction_commit (pe_fld (pv 0) rfl))) (pss_one (ps_fld (pv 0) pe_non rfl))) (pss_one (ps_if (pt_cmpR op_eq (pv 1) pe_str (nomark _)) (pss_cons (ps_expr (pe_mt0 (ok_Transaction_rollback T) (hr.mono (by decide)) T.c_Transaction T.me_Transaction_rollback (pe_fld (pv 0) rfl))) (pss_one (ps_fld (pv 0) pe_non rfl))) pss_nil)))))))), ?_⟩)
  · obtain ⟨a, s, tc, D, DB, ps, qs, wk, N, z, t, rfl, _⟩ := h
    rfl
  obtain ⟨a, s, tc, D, DB, ps, qs, wk, N, z, t, rfl, h, htr, bd, hru, q⟩ := h
  have s0 : DS K H (L2.start ["self", "step"] [.ref a.k, .str z]) [.v (.ref a.k), .d (.str z)] := .cons (s := .v _) rfl (.cons (s := .d _) ⟨_, rfl, .str _⟩ .nil)
  refine StD.go (G := gS H) ?_ (Same.refl H) s0
  refine s_if (evt_test (ev_eqs (ev_var rfl) ev_str)) (fun hz σ H1 e1 s1 => ?_) fun hzn => ?_
  · have e1 : Same H H1 := e1
    obtain ⟨h1, f1⟩ := h.same e1
    have ht := h1.tr
    rw [htr] at ht
    have hbr := bd.rows _ htr
    obtain ⟨w, n, rows⟩ := t
    obtain ⟨x, dx, SD, ts, bg, RL, ML, rs, ew, hx, hSD, hts, hRL, hr2, n1, n2, n3, n4, n5, n6, n7⟩ := ht
    subst ew
    have hrl := Paired.length hr2
    have hz : z = "listen" := of_decide_eq_true hz
    have hbr2 : rows.length ≤ 800 := hbr
    refine ⟨.ref a.k, s1.v (i := 0) rfl, a.k, _, a.dk, _, .ref x, rfl, h1.hk, T.c_Keeper, T.n_Keeper_work, rfl, x, dx, _, rfl, hx, rfl, .ref a.k, s1.v (i := 0) rfl, a.k, _, a.dk, _, .str "a", rfl, h1.hk, T.c_Keeper, T.n_Keeper_cell, rfl, x, dx, a.S, a.A, SD, bg, RL, ML, rs, rfl, hx, hRL, by omega, fun u H2 fr hu hu2 hR2 => ?_⟩
    have fr : ∀ b o, H1 b = some o → ¬ b = RL → H2 b = some o := fr
    have hm : ∀ b, b = RL → Ours a H1 b := fun b hb => by
      subst hb
      exact .inr (.inr (.inr (.inr (.inr (.inr (.inr (.inr ⟨_, hRL, n2, n3, n4⟩)))))))
    have im := h1.imm (M := fun b => b = RL) fr hm
    have hA := h1.hA
    have hC := h1.hC
    have hQ := h1.hQL
    have hP := h1.hPL
    have hB := h1.hB
    have hD := h1.hD
    have hDB := h1.hDB
    have hk := h1.hk
    have hL := h1.hL
    obtain ⟨k3, g3⟩ := h1.go (M := fun b => b = RL) (s' := { s with tr := some (w, n, rows ++ [.lis]) }) (tc' := tc) (D' := D) (DB' := DB) (ps' := ps) (qs' := qs) (wk' := .ref x) fr hm (fun b hb => by rw [hb]; exact n6) (by grind) (im _ _ h1.htc (.inl ⟨_, rfl⟩)) (by grind) (by grind) (Paired.mapP h1.hq fun _ _ q => q.imm im) (by grind) (by grind) (by grind) (by grind) (by grind) (by grind)
      ⟨x, dx, SD, ts, bg, RL, ML, rs ++ [.ref u], rfl, by grind, by grind, im _ _ hts (.inl ⟨_, rfl⟩), hR2, Paired.snoc (Paired.mapP hr2 fun _ _ h => RowV.imm im h) ⟨u, rfl, hu2⟩, n1, n2, n3, n4, n5, n6, fun r hr => by
        rcases List.mem_append.mp hr with hr | hr
        · exact n7 r hr
        · rw [show r = _ by simpa using hr]; exact .inl rfl⟩ h1.lps
    refine q H2 tc D ps qs (.ref x) ?_ (f1.trans g3)
    unfold KS.within
    rw [if_pos hz]
    exact k3
  refine s_if (evt_test (ev_eqs (ev_var rfl) ev_str)) (fun hz2 σ H1 e1 s1 => ?_) fun hzn2 => ?_
  · have e1 : Same H H1 := e1
    obtain ⟨h1, f1⟩ := h.same e1
    have ht := h1.tr
    rw [htr] at ht
    have hbr := bd.rows _ htr
    obtain ⟨w, n, rows⟩ := t
    obtain ⟨x, dx, SD, ts, bg, RL, ML, rs, ew, hx, hSD, hts, hRL, hr2, n1, n2, n3, n4, n5, n6, n7⟩ := ht
    subst ew
    have hrl := Paired.length hr2
    have hz : z = "unlisten" := of_decide_eq_true hz2
    have hbr2 : rows.length ≤ 800 := hbr
    refine ⟨.ref a.k, s1.v (i := 0) rfl, a.k, _, a.dk, _, .ref x, rfl, h1.hk, T.c_Keeper, T.n_Keeper_work, rfl, x, dx, _, rfl, hx, rfl, .ref a.k, s1.v (i := 0) rfl, a.k, _, a.dk, _, .str "a", rfl, h1.hk, T.c_Keeper, T.n_Keeper_cell, rfl, x, dx, a.S, a.A, SD, bg, RL, ML, rs, rfl, hx, hRL, by omega, fun u H2 fr hu hu2 hR2 => ?_⟩
    have fr : ∀ b o, H1 b = some o → ¬ b = RL → H2 b = some o := fr
    have hm : ∀ b, b = RL → Ours a H1 b := fun b hb => by
      subst hb
      exact .inr (.inr (.inr (.inr (.inr (.inr (.inr (.inr ⟨_, hRL, n2, n3, n4⟩)))))))
    have im := h1.imm (M := fun b => b = RL) fr hm
    have hA := h1.hA
    have hC := h1.hC
    have hQ := h1.hQL
    have hP := h1.hPL
    have hB := h1.hB
    have hD := h1.hD
    have hDB := h1.hDB
    have hk := h1.hk
    have hL := h1.hL
    obtain ⟨k3, g3⟩ := h1.go (M := fun b => b = RL) (s' := { s with tr := some (w, n, rows ++ [.unl]) }) (tc' := tc) (D' := D) (DB' := DB) (ps' := ps) (qs' := qs) (wk' := .ref x) fr hm (fun b hb => by rw [hb]; exact n6) (by grind) (im _ _ h1.htc (.inl ⟨_, rfl⟩)) (by grind) (by grind) (Paired.mapP h1.hq fun _ _ q => q.imm im) (by grind) (by grind) (by grind) (by grind) (by grind) (by grind)
      ⟨x, dx, SD, ts, bg, RL, ML, rs ++ [.ref u], rfl, by grind, by grind, im _ _ hts (.inl ⟨_, rfl⟩), hR2, Paired.snoc (Paired.mapP hr2 fun _ _ h => RowV.imm im h) ⟨u, rfl, hu2⟩, n1, n2, n3, n4, n5, n6, fun r hr => by
        rcases List.mem_append.mp hr with hr | hr
        · exact n7 r hr
        · rw [show r = _ by simpa using hr]; exact .inr rfl⟩ h1.lps
    refine q H2 tc D ps qs (.ref x) ?_ (f1.trans g3)
    unfold KS.within
    rw [if_neg (of_decide_eq_false hzn), if_pos hz]
    exact k3
  refine s_if (evt_test (ev_eqs (ev_var rfl) ev_str)) (fun hz3 σ H1 e1 s1 => ?_) fun hzn3 => ?_
  · have e1 : Same H H1 := e1
    obtain ⟨h1, f1⟩ := h.same e1
    have ht := h1.tr
    rw [htr] at ht
    have hbr := bd.rows _ htr
    have hlq := Paired.length h1.hq
    have hbe := bd.ents
    have hbn := bd.np
    have hlp := h1.lps
    obtain ⟨w, n, rows⟩ := t
    obtain ⟨x, dx, SD, ts, bg, RL, ML, rs, ew, hx, hSD, hts, hRL, hr2, n1, n2, n3, n4, n5, n6, n7⟩ := ht
    subst ew
    have hbr2 : rows.length ≤ 800 := hbr
    have hz : z = "commit" := of_decide_eq_true hz3
    obtain ⟨hset, hsaid⟩ := rows_lu n7
    have hfl : foldW a.rule (saidW rows) = [] := by rw [hsaid]; exact foldW_nil _
    refine ⟨.ref a.k, s1.v (i := 0) rfl, a.k, _, a.dk, _, .ref x, rfl, h1.hk, T.c_Keeper, T.n_Keeper_work, rfl, x, dx, _, rfl, hx, rfl, x, dx, a.S, a.A, SD, bg, RL, ML, a.dS, a.rule, a.C, a.M, a.PL, a.QL, rs, rows, a.dA, "ann", .ref x, D, s.st, s.pos, a.B, a.dB, "bob", .non, DB, none, _, tc, s.w0, _, ps, qs, rfl, hx, h1.hS, hru, hRL, hr2, by omega, by rw [hsaid]; simp, h1.hA, h1.hD, h1.hB, by decide +kernel, h1.hM, .inl rfl, h1.hC, h1.htc, .inl hset, h1.hPL, h1.hQL, h1.nPQ, by omega, by rw [hfl]; show qs.length + 0 ≤ 190; omega, fun H2 ct' row qn D' fr c1 c2 c3 c4 c5 c6 c7 c8 c9 => ?_⟩
    rw [hfl] at c8
    cases c8
    rw [c5 hset] at c4
    rw [List.append_nil] at c7
    rw [hlq] at c1 c2
    have fr : ∀ b o, H1 b = some o → ¬ (b = x ∨ b = a.A ∨ b = a.C ∨ b = a.QL ∨ b = a.PL) → H2 b = some o := fr
    have hk := h1.hk
    have nkx : a.k ≠ x := ne_of hk hx (fun z => by cases z)
    have nkA : a.k ≠ a.A := ne_of hk h1.hA (fun z => by cases z)
    have nkC : a.k ≠ a.C := ne_of hk h1.hC (fun z => nomatch z)
    have nkQ : a.k ≠ a.QL := ne_of hk h1.hQL (fun z => nomatch z)
    have nkP : a.k ≠ a.PL := ne_of hk h1.hPL (fun z => nomatch z)
    have nD : D' ≠ a.k := fun z => by rw [z, hk] at c3; cases c3
    have hk2 := fr _ _ hk (fun z => z.elim nkx fun z => z.elim nkA fun z => z.elim nkC fun z => z.elim nkQ nkP)
    refine ⟨.ref a.k, s1.v (i := 0) rfl, a.k, _, a.dk, _, rfl, hk2, T.c_Keeper, T.n_Keeper_work, Nat.le_of_ble_eq_true rfl, ?_⟩
    generalize hH3 : upd H2 a.k (.ins a_Keeper a.dk (putF "work" .non (kpF a.A a.way (.ref x) ((s.num : Nat) : Int) a.LG))) = H3
    have hk3 : H3 a.k = some (.ins a_Keeper a.dk (kpF a.A a.way .non ((s.num : Nat) : Int) a.LG)) := by rw [← hH3]; exact upd_same
    have o3 : ∀ b o, H2 b = some o → b ≠ a.k → H3 b = some o := fun b o hb hn => by rw [← hH3]; exact (upd_ne hn).trans hb
    have f3 : ∀ b o, H1 b = some o → ¬ (b = x ∨ b = a.A ∨ b = a.C ∨ b = a.QL ∨ b = a.PL ∨ b = a.k) → H3 b = some o := fun b o hb hn => o3 b o (fr b o hb fun z => hn (z.elim .inl fun z => .inr (z.elim .inl fun z => .inr (z.elim .inl fun z => .inr (z.elim .inl fun z => .inr (.inl z)))))) fun z => hn (.inr (.inr (.inr (.inr (.inr z)))))
    obtain ⟨k3, g3⟩ := h1.opEnd (np' := s.np + 1) hx n5 f3 (o3 _ _ c4 nkC.symm) (o3 _ _ c9 nkP.symm) (o3 _ _ c7 nkQ.symm) (o3 _ _ c1 nkA.symm) (o3 _ _ c2 nD) hk3 (by rw [List.length_append, List.length_singleton, hlp])
    refine q H3 tc D' (ps ++ [row]) qs .non ?_ (f1.trans g3)
    unfold KS.within
    rw [if_neg (of_decide_eq_false hzn), if_neg (of_decide_eq_false hzn2), if_pos hz]
    exact k3
  refine s_if (evt_test (ev_eqs (ev_var rfl) ev_str)) (fun hz4 σ H1 e1 s1 => ?_) fun hzn4 σ H1 e1 s1 => ?_
  · have e1 : Same H H1 := e1
    obtain ⟨h1, f1⟩ := h.same e1
    have ht := h1.tr
    rw [htr] at ht
    obtain ⟨w, n, rows⟩ := t
    obtain ⟨x, dx, SD, ts, bg, RL, ML, rs, ew, hx, hSD, hts, hRL, hr2, n1, n2, n3, n4, n5, n6, n7⟩ := ht
    subst ew
    have hz : z = "rollback" := of_decide_eq_true hz4
    refine ⟨.ref a.k, s1.v (i := 0) rfl, a.k, _, a.dk, _, .ref x, rfl, h1.hk, T.c_Keeper, T.n_Keeper_work, rfl, x, dx, _, rfl, hx, rfl, x, dx, a.S, a.A, SD, bg, RL, ML, a.dA, a.S, "ann", .ref x, D, posV s.pos, rfl, hx, h1.hA, ?_⟩
    have hA := h1.hA
    have hC := h1.hC
    have hQ := h1.hQL
    have hP := h1.hPL
    have hB := h1.hB
    have hD := h1.hD
    have hDB := h1.hDB
    have hk := h1.hk
    have hL := h1.hL
    have nAB := h1.nAB
    generalize hH2 : upd (upd H1 x _) a.A _ = H2
    have fr : ∀ b o, H1 b = some o → ¬ (b = x ∨ b = a.A) → H2 b = some o := fun b o hb hn => by
      rw [← hH2]
      exact (upd_ne fun z => hn (.inr z)).trans ((upd_ne fun z => hn (.inl z)).trans hb)
    have hA2 : H2 a.A = some (.ins a_Client a.dA (cliF a.S "ann" .non D (posV s.pos))) := by rw [← hH2]; exact upd_same
    have nkx : a.k ≠ x := ne_of hk hx (fun z => by cases z)
    have nkA : a.k ≠ a.A := ne_of hk hA (fun z => by cases z)
    have nkC : a.k ≠ a.C := ne_of hk hC (fun z => nomatch z)
    have nkQ : a.k ≠ a.QL := ne_of hk hQ (fun z => nomatch z)
    have nkP : a.k ≠ a.PL := ne_of hk hP (fun z => nomatch z)
    have hk2 := fr _ _ hk (fun z => z.elim nkx nkA)
    refine ⟨.ref a.k, s1.v (i := 0) rfl, a.k, _, a.dk, _, rfl, hk2, T.c_Keeper, T.n_Keeper_work, Nat.le_of_ble_eq_true rfl, ?_⟩
    generalize hH3 : upd H2 a.k (.ins a_Keeper a.dk (putF "work" .non (kpF a.A a.way (.ref x) ((s.num : Nat) : Int) a.LG))) = H3
    have hk3 : H3 a.k = some (.ins a_Keeper a.dk (kpF a.A a.way .non ((s.num : Nat) : Int) a.LG)) := by rw [← hH3]; exact upd_same
    have o3 : ∀ b o, H2 b = some o → b ≠ a.k → H3 b = some o := fun b o hb hn => by rw [← hH3]; exact (upd_ne hn).trans hb
    have ox : ∀ b o, H1 b = some o → (∀ C2 d f, o ≠ .ins C2 d f) → H3 b = some o := fun b o hb ho => o3 b o (fr b o hb fun z => z.elim (fun z => by rw [z, hx] at hb; exact ho _ _ _ (Option.some.inj hb).symm) (fun z => by rw [z, hA] at hb; exact ho _ _ _ (Option.some.inj hb).symm)) (fun z => by rw [z, hk] at hb; exact ho _ _ _ (Option.some.inj hb).symm)
    have f3 : ∀ b o, H1 b = some o → ¬ (b = x ∨ b = a.A ∨ b = a.C ∨ b = a.QL ∨ b = a.PL ∨ b = a.k) → H3 b = some o := fun b o hb hn => o3 b o (fr b o hb fun z => hn (z.elim .inl fun z => .inr (.inl z))) fun z => hn (.inr (.inr (.inr (.inr (.inr z)))))
    obtain ⟨k3, g3⟩ := h1.opEnd (st' := s.st) (pos' := s.pos) (np' := s.np) hx n5 f3 (ox _ _ hC (fun _ _ _ z => nomatch z)) (ox _ _ hP (fun _ _ _ z => nomatch z)) (ox _ _ hQ (fun _ _ _ z => nomatch z)) (o3 _ _ hA2 nkA.symm) (ox _ _ hD (fun _ _ _ z => nomatch z)) hk3 h1.lps
    refine q H3 tc D ps qs .non ?_ (f1.trans g3)
    unfold KS.within
    rw [if_neg (of_decide_eq_false hzn), if_neg (of_decide_eq_false hzn2), if_neg (of_decide_eq_false hzn3), if_pos hz]
    exact k3
  · have e1 : Same H H1 := e1
    obtain ⟨h1, f1⟩ := h.same e1
    refine q H1 tc D ps qs wk ?_ f1
    unfold KS.within
    rw [if_neg (of_decide_eq_false hzn), if_neg (of_decide_eq_false hzn2), if_neg (of_decide_eq_false hzn3), if_neg (of_decide_eq_false hzn4)]
    exact h1
end
end KX
set_option maxHeartbeats 4000000
namespace KX
open PySem PySem.Spec PyProof.Rows L2
section
variable {P : Program} {w : World} {K : PySem.W.Frag} {mg : Str → Option Value} {base : Heap} {p : Addr}
theorem sc_Keeper_D_init_D : FnScope ["self", "client", "cell", "way"] ["self", "client", "cell", "way"] (defScope s_Keeper_D_init_D) := ⟨rfl, rfl, rfl, by decide +kernel, rfl, by decide +kernel, by decide +kernel⟩
theorem ok_Keeper_D_init_D (T : Tx w K mg) : FnN P w K mg base 2 m_Keeper___init__ (fun vs H Q => ∃ k dk A way dA nm wk D pos S dS rule C M PL QL tc w0 n0, vs = [.ref k, .ref A, .str "a", .str way] ∧ H k = some (.ins a_Keeper dk []) ∧ way ∈ (["take", "newer", "reread"] : List Str) ∧ H A = some (.ins a_Client dA (cliF S nm wk D pos)) ∧ H S = some (.ins a_Store dS (stF rule C M PL QL)) ∧ H C = some (.dK [(.inr "a", .ref tc)]) ∧ H tc = some (.tup [.str w0, .int n0]) ∧
    ∀ LG H', Fr (· = k) H H' → H' k = some (.ins a_Keeper dk (kpF A way .non 0 LG)) → H' LG = some (.lst []) → H LG = none → Q .non H') := by
  obtain ⟨fd, F⟩ := T.F_Keeper_D_init_D
  refine F.okN rfl sc_Keeper_D_init_D (fun _ _ _ _ _ _ us hl => match us, hl with | [_, _, _, _], _ => rfl) (fun vs H Q h => ?_) (fun A outer s H vs Q hr h => ⟨_, (pss_cons (ps_expr (pe_mt (ok_Store_present T) (hr.mono (by decide)) T.c_Store T.me_Store_present (pe_fld (pv 1) rfl) (pa_cons (pv 2) pa_nil))) (pss_cons (ps_if (PW.pt (pw_or (pt_not (pt_val (pe_callB call_isi (by rfl) T.z_isinstance (by decide +kernel) (pa_cons (pv 3) (pa_cons (pe_ty (n := "str") T.z_str (by decide +kernel)) pa_nil))))) (pw_or1 (pt_cmpR op_notIn_seq (pv 3) (pe_gr T.g_UPDATES) rfl)))) (pss_one ps_never) pss_nil) (pss_cons (ps_fld (pv 0) (pv 1) rfl) (pss_cons (ps_fld (pv 0) (pv 2) rfl) (pss_cons (ps_fld (pv 0) (pv 3) rfl) (pss_cons (ps_fld (pv 0) pe_non rfl) (pss_cons (ps_fld (pv 0) pe_int rfl) (pss_one (ps_fld (pv 0) (pe_lst pa_nil) rfl))))))))), ?_⟩)
  · obtain ⟨k, dk, A, way, dA, nm, wk, D, pos, S, dS, rule, C, M, PL, QL, tc, w0, n0, rfl, _⟩ := h
    rfl
  obtain ⟨k, dk, A, way, dA, nm, wk, D, pos, S, dS, rule, C, M, PL, QL, tc, w0, n0, rfl, hk, hway, hA, hS, hC, htc, q⟩ := h
  have s0 : DS K H (L2.start ["self", "client", "cell", "way"] [.ref k, .ref A, .str "a", .str way]) [.v (.ref k), .v (.ref A), .d (.str "a"), .d (.str way)] := .cons (s := .v _) rfl (.cons (s := .v _) rfl (.cons (s := .d _) ⟨_, rfl, .str _⟩ (.cons (s := .d _) ⟨_, rfl, .str _⟩ .nil)))
  refine ⟨.ref A, rfl, A, _, dA, _, .ref S, rfl, hA, T.c_Client, T.n_Client_store, rfl, S, dS, _, rfl, hS, rfl, .str "a", rfl, S, dS, rule, C, M, PL, QL, tc, w0, n0, rfl, hS, hC, htc, ?_⟩
  dsimp only
  refine StD.go (G := gS H) ?_ (Same.refl H) s0
  refine q_not (evt_oF (evt_nF (evt_test (ev_isi (ev_var rfl) kb_str_str))) (evt_test (ev_ninF _ hway (ev_var rfl) T.u_UPDATES))) fun σ H1 e1 s1 => ?_
  have e1 : Same H H1 := e1
  have h1 := e1 _ _ hk
  refine ⟨.ref A, s1.v (i := 1) rfl, .ref k, s1.v (i := 0) rfl, k, _, dk, [], rfl, h1, T.c_Keeper, T.n_Keeper_guest, by decide, .str "a", s1.d1 (i := 2) rfl, .ref k, s1.v (i := 0) rfl, k, _, dk, _, rfl, upd_same, T.c_Keeper, T.n_Keeper_cell, Nat.le_of_ble_eq_true rfl, .str way, s1.d1 (i := 3) rfl, .ref k, s1.v (i := 0) rfl, k, _, dk, _, rfl, upd_same, T.c_Keeper, T.n_Keeper_way, Nat.le_of_ble_eq_true rfl, .ref k, s1.v (i := 0) rfl, k, _, dk, _, rfl, upd_same, T.c_Keeper, T.n_Keeper_work, Nat.le_of_ble_eq_true rfl, .ref k, s1.v (i := 0) rfl, k, _, dk, _, rfl, upd_same, T.c_Keeper, T.n_Keeper_number, Nat.le_of_ble_eq_true rfl, Nat.zero_le _, fun LG hLG => ?_⟩
  simp only [upd_upd] at hLG ⊢
  have nk : k ≠ LG := fun z => by rw [← z, upd_same] at hLG; cases hLG
  refine ⟨.ref k, s1.v (i := 0) rfl, k, _, dk, _, rfl, (upd_ne nk).trans upd_same, T.c_Keeper, T.n_Keeper_log, Nat.le_of_ble_eq_true rfl, ?_⟩
  have hL1 : H1 LG = none := (upd_ne nk.symm).symm.trans hLG
  refine q LG _ (fun b o hb hn => ?_) upd_same ((upd_ne nk.symm).trans upd_same) (e1.free hL1)
  exact (upd_ne hn).trans ((upd_ne (fun z => by rw [z] at hb; rw [e1 _ _ hb] at hL1; cases hL1)).trans ((upd_ne hn).trans (e1 _ _ hb)))
theorem sc_Keeper_D_call_D : FnScope ["self", "step"] ["self", "step"] (defScope s_Keeper_D_call_D) := ⟨rfl, rfl, rfl, by decide +kernel, rfl, by decide +kernel, by decide +kernel⟩
theorem ok_Keeper_call (T : Tx w K mg) : FnN P w K mg base 9 m_Keeper___call__ (fun vs H Q => ∃ a s tc D DB ps qs wk N z, vs = [.ref a.k, .str z] ∧ KH a s tc D DB ps qs wk N H ∧ Bd s ∧ a.rule ∈ rules ∧ (z ∈ msteps ∨ z = "other") ∧
    ∀ v H' tc' D' ps' qs' wk', KH a (s.step a.way z) tc' D' DB ps' qs' wk' N H' → FrN N H H' → Q v H') := by
  obtain ⟨fd, F⟩ := T.F_Keeper_D_call_D
  refine F.okN rfl sc_Keeper_D_call_D (fun _ _ _ _ _ _ us hl => match us, hl with | [_, _], _ => rfl) (fun vs H Q h => ?_) (fun A outer s H vs Q hr h => ⟨_, (pss_cons (ps_if (PW.pt (pw_and (pt_not (pt_val (pe_cl (ok_is_mirror_step T) (hr.mono (by decide)) T.kp_is_mirror_step T.g_is_mirror_step (pa_cons (pv 1) pa_nil)))) (pw_and1 (pt_cmpR op_ne (pv 1) pe_str (nomark _))))) (pss_one ps_never) pss_nil) (pss_cons (ps_if (pt_cmpR op_eq (pv 1) pe_str (nomark _)) (pss_cons (ps_expr (pe_mt0 (ok_Listener_disconnect T) (hr.mono (by decide)) T.c_Client T.me_Client_disconnect (pe_fld (pv 0) rfl))) (pss_one (ps_fld (pv 0) pe_non rfl))) (pss_one (ps_if (pt_cmpR op_eq (pv 1) (pe_cs T.t_READ) (nomark _)) (pss_one (ps_expr (pe_mt (ok_Keeper_keep T) (hr.mono (by decide)) T.c_Keeper T.me_Keeper_keep (pv 0) (pa_cons (pe_ifExp (pt_cmpR op_isN (pe_fld (pv 0) rfl) pe_non (nomark _)) (pe_fld (pe_fld (pe_fld (pv 0) rfl) rfl) rfl) (pe_fld (pe_fld (pv 0) rfl) rfl)) pa_nil)))) (pss_one (ps_if (pt_cmpR op_isN (pe_fld (pv 0) rfl) pe_non (nomark _)) (pss_one (ps_expr (pe_mt (ok_Keeper_alone T) (hr.mono (by decide)) T.c_Keeper T.me_Keeper_alone (pv 0) (pa_cons (pv 1) pa_nil)))) (pss_one (ps_expr (pe_mt (ok_Keeper_within T) (hr.mono (by decide)) T.c_Keeper T.me_Keeper_within (pv 0) (pa_cons (pv 1) pa_nil))))))))) (pss_one (ps_ret (pe_pr (ok_Keeper_held T) (hr.mono (by decide)) T.c_Keeper T.p_Keeper_held (pv 0) rfl))))), ?_⟩)
  · obtain ⟨a, s, tc, D, DB, ps, qs, wk, N, z, rfl, _⟩ := h
    rfl
  obtain ⟨a, s, tc, D, DB, ps, qs, wk, N, z, rfl, h, bd, hru, hz, q⟩ := h
  have s0 : DS K H (L2.start ["self", "step"] [.ref a.k, .str z]) [.v (.ref a.k), .d (.str z)] := .cons (s := .v _) rfl (.cons (s := .d _) ⟨_, rfl, .str _⟩ .nil)
  refine StD.go (G := gS H) ?_ (Same.refl H) s0
  refine q_not (evt_to (evt_and (evt_not (evt_test (ev_cl (eva_cons (ev_var rfl) eva_nil) ⟨z, rfl, rfl⟩))) fun _ => evt_test (ev_nes (ev_var rfl) ev_str)) ?_) fun σ H1 e1 s1 => ?_
  · rcases hz with hz | hz
    · rw [decide_eq_true hz]; rfl
    · rw [decide_eq_true hz]
      cases decide (z ∈ msteps) <;> rfl
  have e1 : Same H H1 := e1
  obtain ⟨h1, f1⟩ := h.same e1
  refine seq_key (fun σ' H' => σ'[0]? = some (some (V.ref a.k)) ∧ ∃ tc' D' ps' qs' wk', KH a (s.step a.way z) tc' D' DB ps' qs' wk' N H' ∧ FrN N H H') (fun nx hnx => ?_) (fun σ' H' p => ?_)
  rotate_left
  · obtain ⟨s', tc', D', ps', qs', wk', h', f'⟩ := p
    exact ⟨.ref a.k, s', a.k, a.dk, _, rfl, h'.hk, a.k, a.dk, a.A, a.way, wk', _, a.LG, _, rfl, h'.hk, h'.hL, q _ H' tc' D' ps' qs' wk' h' f'⟩
  refine StD.go (G := gS H1) ?_ (Same.refl H1) s1
  refine s_if (evt_test (ev_eqs (ev_var rfl) ev_str)) (fun hd σ2 H2 e2 s2 => ?_) fun hnd => ?_
  · have e2 : Same H1 H2 := e2
    obtain ⟨h2, f2⟩ := h1.same e2
    have hd : z = "disconnect" := of_decide_eq_true hd
    have hst : s.step a.way z = { s with st := none, pos := none, np := s.np, tr := none } := by unfold KS.step; rw [if_pos hd]
    have hxs : wk = .non ∨ ∃ x dx S2 SD bg RL ML, wk = .ref x ∧ H2 x = some (.ins a_Transaction dx (trF S2 a.A SD bg RL ML true)) ∧ ¬ N x := by
      have ht := h2.tr
      cases hs : s.tr with
      | none => rw [hs] at ht; exact .inl ht
      | some t =>
        rw [hs] at ht
        obtain ⟨x, dx, SD, ts, bg, RL, ML, rs, ew, hx, _, _, _, _, _, _, _, _, n5, _⟩ := ht
        exact .inr ⟨x, dx, a.S, SD, bg, RL, ML, ew, hx, n5⟩
    refine ⟨.ref a.k, s2.v (i := 0) rfl, a.k, _, a.dk, _, .ref a.A, rfl, h2.hk, T.c_Keeper, T.n_Keeper_guest, rfl, a.A, a.dA, _, rfl, h2.hA, rfl, a.A, a.dA, a.S, "ann", wk, D, posV s.pos, rfl, h2.hA, ?_, fun D' H3 fr hA3 nD hD3 => ?_⟩
    · rcases hxs with e | ⟨x, dx, S2, SD, bg, RL, ML, e, hx, _⟩
      · exact .inl e
      · exact .inr ⟨x, dx, S2, SD, bg, RL, ML, e, hx⟩
    have hk := h2.hk
    have hA := h2.hA
    have nwk : ∀ b o, H2 b = some o → wk = .ref b → ∃ dx f, o = .ins a_Transaction dx f := fun b o hb hw => by
      rcases hxs with e | ⟨x, dx, S2, SD, bg, RL, ML, e, hx, _⟩
      · rw [e] at hw; cases hw
      · rw [e] at hw
        cases hw
        rw [hx] at hb
        exact ⟨_, _, (Option.some.inj hb).symm⟩
    have nkA : a.k ≠ a.A := ne_of hk hA (fun z => by cases z)
    have hk3 := fr _ _ hk (fun z => z.elim nkA fun z => by obtain ⟨_, _, e⟩ := nwk _ _ hk z; cases e)
    refine ⟨.ref a.k, s2.v (i := 0) rfl, a.k, _, a.dk, _, rfl, hk3, T.c_Keeper, T.n_Keeper_work, Nat.le_of_ble_eq_true rfl, ?_⟩
    generalize hH4 : upd H3 a.k (.ins a_Keeper a.dk (putF "work" .non (kpF a.A a.way wk ((s.num : Nat) : Int) a.LG))) = H4
    have hk4 : H4 a.k = some (.ins a_Keeper a.dk (kpF a.A a.way .non ((s.num : Nat) : Int) a.LG)) := by rw [← hH4]; exact upd_same
    have o4 : ∀ b o, H3 b = some o → b ≠ a.k → H4 b = some o := fun b o hb hn => by rw [← hH4]; exact (upd_ne hn).trans hb
    have fr : ∀ b o, H2 b = some o → ¬ (b = a.A ∨ wk = .ref b) → H3 b = some o := fr
    have ox : ∀ b o, H2 b = some o → (∀ C2 d f, o ≠ .ins C2 d f) → H4 b = some o := fun b o hb ho => o4 b o (fr b o hb fun z => z.elim (fun z => by rw [z, hA] at hb; exact ho _ _ _ (Option.some.inj hb).symm) (fun z => by obtain ⟨_, _, e⟩ := nwk _ _ hb z; exact ho _ _ _ e)) (fun z => by rw [z, hk] at hb; exact ho _ _ _ (Option.some.inj hb).symm)
    have f4 : ∀ b o, H2 b = some o → ¬ (wk = .ref b ∨ b = a.A ∨ b = a.C ∨ b = a.QL ∨ b = a.PL ∨ b = a.k) → H4 b = some o := fun b o hb hn => o4 b o (fr b o hb fun z => hn (z.elim (fun z => .inr (.inl z)) .inl)) fun z => hn (.inr (.inr (.inr (.inr (.inr z)))))
    have nD4 : D' ≠ a.k := fun z => by rw [z, hk] at nD; cases nD
    obtain ⟨k4, g4⟩ := h2.opEndX (Xp := fun b => wk = .ref b) (st' := none) (pos' := none) (np' := s.np) (fun b hb => by
        rcases hxs with e | ⟨x, dx, S2, SD, bg, RL, ML, e, hx, _⟩
        · rw [e] at hb; cases hb
        · rw [e] at hb
          cases hb
          exact ⟨_, _, hx⟩) (fun b hb => by
        rcases hxs with e | ⟨x, dx, S2, SD, bg, RL, ML, e, hx, n⟩
        · rw [e] at hb; cases hb
        · rw [e] at hb
          cases hb
          exact n) f4 (ox _ _ h2.hC (fun _ _ _ z => nomatch z)) (ox _ _ h2.hPL (fun _ _ _ z => nomatch z)) (ox _ _ h2.hQL (fun _ _ _ z => nomatch z)) (o4 _ _ hA3 nkA.symm) (o4 _ _ hD3 nD4) hk4 h2.lps
    refine hnx _ _ ⟨s2.v (i := 0) rfl, tc, D', ps, qs, .non, ?_, f1.trans (f2.trans g4)⟩
    rw [hst]
    exact k4
  have hnd : ¬ z = "disconnect" := of_decide_eq_false hnd
  refine s_if (evt_test (ev_eqs (ev_var rfl) ev_str)) (fun hd σ2 H2 e2 s2 => ?_) fun hnr σ2 H2 e2 s2 => ?_
  · have e2 : Same H1 H2 := e2
    obtain ⟨h2, f2⟩ := h1.same e2
    have hd : z = "read" := of_decide_eq_true hd
    have hbl := bd.log
    refine ⟨.ref a.k, s2.v (i := 0) rfl, a.k, a.dk, _, rfl, h2.hk, rfl, .ref a.k, s2.v (i := 0) rfl, a.k, _, a.dk, _, wk, rfl, h2.hk, T.c_Keeper, T.n_Keeper_work, rfl, rfl, _, rfl, ?_⟩
    have ht := h2.tr
    cases hs : s.tr with
    | none =>
      rw [hs] at ht
      have ht : wk = .non := ht
      subst ht
      have hst : s.step a.way z = { s with log := s.log ++ [s.w0], num := s.n0 } := by unfold KS.step KS.keep; rw [if_neg hnd, if_pos hd, hs]
      refine iteT ⟨.ref a.k, s2.v (i := 0) rfl, a.k, _, a.dk, _, .ref a.A, rfl, h2.hk, T.c_Keeper, T.n_Keeper_guest, rfl, a.A, _, a.dA, _, .ref a.S, rfl, h2.hA, T.c_Client, T.n_Client_store, rfl, a.S, _, a.dS, _, .ref a.C, rfl, h2.hS, T.c_Store, T.n_Store_cells, rfl, a.k, a.dk, a.A, a.way, .non, _, a.LG, s.log, a.C, tc, s.w0, _, rfl, h2.hk, h2.hL, by omega, h2.hC, h2.htc, fun H3 fr hk3 hL3 => ?_⟩
      obtain ⟨k4, g4⟩ := h2.opLog (log' := s.log ++ [s.w0]) (num' := s.n0) fr hk3 hL3
      refine hnx _ _ ⟨s2.v (i := 0) rfl, tc, D, ps, qs, .non, ?_, f1.trans (f2.trans g4)⟩
      rw [hst]
      exact k4
    | some t =>
      rw [hs] at ht
      obtain ⟨w2, n2, rows⟩ := t
      obtain ⟨x, dx, SD, ts, bg, RL, ML, rs, ew, hx, hSD, hts, _⟩ := ht
      subst ew
      have hst : s.step a.way z = { s with log := s.log ++ [w2], num := n2 } := by unfold KS.step KS.keep; rw [if_neg hnd, if_pos hd, hs]
      refine iteF ⟨.ref a.k, s2.v (i := 0) rfl, a.k, _, a.dk, _, .ref x, rfl, h2.hk, T.c_Keeper, T.n_Keeper_work, rfl, x, _, dx, _, .ref SD, rfl, hx, T.c_Transaction, T.n_Transaction_snapshot, rfl, a.k, a.dk, a.A, a.way, .ref x, _, a.LG, s.log, SD, ts, w2, _, rfl, h2.hk, h2.hL, by omega, hSD, hts, fun H3 fr hk3 hL3 => ?_⟩
      obtain ⟨k4, g4⟩ := h2.opLog (log' := s.log ++ [w2]) (num' := n2) fr hk3 hL3
      refine hnx _ _ ⟨s2.v (i := 0) rfl, tc, D, ps, qs, .ref x, ?_, f1.trans (f2.trans g4)⟩
      rw [hst]
      exact k4
  · have e2 : Same H1 H2 := e2
    obtain ⟨h2, f2⟩ := h1.same e2
    have hnr : ¬ z = "read" := of_decide_eq_false hnr
    refine ⟨.ref a.k, s2.v (i := 0) rfl, a.k, _, a.dk, _, wk, rfl, h2.hk, T.c_Keeper, T.n_Keeper_work, rfl, rfl, _, rfl, ?_⟩
    have ht := h2.tr
    cases hs : s.tr with
    | none =>
      rw [hs] at ht
      have ht : wk = .non := ht
      subst ht
      have hst : s.step a.way z = s.alone a.way z := by unfold KS.step; rw [if_neg hnd, if_neg hnr, hs]
      refine iteT ⟨.ref a.k, s2.v (i := 0) rfl, a.k, a.dk, _, rfl, h2.hk, rfl, .str z, s2.d1 (i := 1) rfl, a, s, tc, D, DB, ps, qs, N, z, rfl, h2, hs, bd, hru, fun H3 tc' D' ps' qs' wk' h3 f3 => ?_⟩
      exact hnx _ _ ⟨s2.v (i := 0) rfl, tc', D', ps', qs', wk', by rw [hst]; exact h3, f1.trans (f2.trans f3)⟩
    | some t =>
      have hne : ¬ wk = .non := by
        rw [hs] at ht
        obtain ⟨w2, n2, rows⟩ := t
        obtain ⟨x, dx, SD, ts, bg, RL, ML, rs, ew, _⟩ := ht
        rw [ew]
        exact fun z => nomatch z
      have hst : s.step a.way z = s.within z t := by unfold KS.step; rw [if_neg hnd, if_neg hnr, hs]
      rw [decide_eq_false hne]
      refine iteF ⟨.ref a.k, s2.v (i := 0) rfl, a.k, a.dk, _, rfl, h2.hk, rfl, .str z, s2.d1 (i := 1) rfl, a, s, tc, D, DB, ps, qs, wk, N, z, t, rfl, h2, hs, bd, hru, fun H3 tc' D' ps' qs' wk' h3 f3 => ?_⟩
      exact hnx _ _ ⟨s2.v (i := 0) rfl, tc', D', ps', qs', wk', by rw [hst]; exact h3, f1.trans (f2.trans f3)⟩
end
end KX
set_option maxHeartbeats 4000000
namespace KX
open PySem PySem.Spec PyProof.Rows L2 PySem.Froz
/-! ### sets of texts: what they hold, their growth -/
def TblOk (w : World) (t : SetTable) : Prop := Ris t.place.toList ∧ (w.params.followText "set-order" = true ∨ t.led = true)
theorem TblOk.off {w : World} {t : SetTable} (h : TblOk w t) : TblOk w (if t.plain = true then { t with plain := false } else t) := by
  split <;> exact h
theorem TblOk.new {w : World} {t : SetTable} {es : Array (Int × Value)} {h : Int} {x : Value} (k : TblOk w t) : TblOk w (layNew t es h x).2.1 :=
  ⟨layNew_ris t es h x k.1, k.2.imp id fun z => by rw [layNew_led]; exact z⟩
theorem TblOk.tail {w : World} {t : SetTable} {es : Array (Int × Value)} {ep : Nat} {d : Bool} (k : TblOk w t) : TblOk w (tailTx ep es t d).2.2 := by
  unfold tailTx
  split
  · exact ⟨relayAll_ris _ _ _, k.2.imp id fun z => by rw [relayAll_led]; exact z⟩
  · exact k
/-- the set of the texts l at a -/
def SetS (P : Program) (w : World) (h : Heap) (a : Addr) (l : List Str) : Prop := ∃ D, h.get? a = some (sObj "set" D) ∧ TxOk P w D l ∧ TblOk w D.2.2 ∧ l.Nodup
theorem setS_fresh {h : Heap} (P : Program) (w : World) : SetS P w (h.push { cls := .type "set", dict := none, data := .set #[] 0 (.fresh 0 0 (!w.params.followText "set-order")) }) h.objs.size [] :=
  ⟨(#[], 0, .fresh 0 0 (!w.params.followText "set-order")), Heap.get?_push_size _ rfl, TxOk.nil rfl, ⟨List.Pairwise.nil, by
    show _ ∨ (!w.params.followText "set-order") = true
    cases w.params.followText "set-order"
    · exact .inr rfl
    · exact .inl rfl⟩, List.nodup_nil⟩
def SetSO (P : Program) (w : World) (a : Addr) (l : List Str) : HO := .ext fun h => SetS P w h a l
theorem setSO_new {P : Program} {w : World} {H : Hp} {h : Heap} {a : Addr} {l : List Str} (R : SetS P w h a l) : ObjOk P w H h a (SetSO P w a l) := by
  have ⟨D, ho, _⟩ := R
  exact ⟨R, ⟨_, ho⟩, fun h1 h2 p k => by
    obtain ⟨D, ho, r⟩ := p
    exact ⟨D, k _ ho, r⟩⟩
section
variable {P : Program} {w : World} {A : Around} {E : Value → Shared → Prop} {s : Shared}
theorem addS_hashed {a : Addr} {l : List Str} {k : Str} {u : Tok} {Q : Bool → Shared → Prop} (R : SetS P w s.heap a l) (hb : l.length + 1 < scanBound)
    (hQ : ∀ r h', (∀ b o, b ≠ a → s.heap.get? b = some o → h'.get? b = some o) → SetS P w h' a (if k ∈ l then l else k :: l) → Q r { s with heap := h' }) : wpAny (model P w) A (setAddHashed a (.str k u) (hashStr w k)) Q E s := by
  obtain ⟨D, ho, F, tb, nd⟩ := R
  by_cases hk : k ∈ l
  · rw [if_pos hk] at hQ
    obtain ⟨e, he, hp⟩ := (F.mem k).mp hk
    obtain ⟨es, ep, t⟩ := D
    have hd : (sObj "set" (es, ep, t)).data = .set es ep t := rfl
    have hf : t.fits es.size = true := F.fit
    have hel : ElemsOf (strKind P w) es.toList := F.el
    have hb0 : es.size < scanBound := by
      have hs : es.size = l.length := F.sz
      omega
    have hkey : (strKind P w).is k (.str k u) = true := is_str k u
    unfold setAddHashed setAddHashedIn
    refine wpAny_holding (wpAny_bind (wpAny_setState_of ho hd hf ?_))
    dsimp only
    rw [byScan_of rfl hb0 hel]
    simp only [↓reduceIte]
    unfold setAddByScan
    refine wpAny_bind (wpAny_bind (wpAny_rule (wpAny_bind (wpAny_setScan_of (knd := strKind P w) (k := k) hkey ho hd hf hel ?_))))
    cases hfi : List.findIdx? (fun e => (strKind P w).is k e.2) es.toList with
    | none =>
      have c := List.findIdx?_eq_none_iff.mp hfi e he
      rw [hp] at c
      cases c
    | some j => exact wpAny_pure (wpAny_pure (hQ _ s.heap (fun _ _ _ e => e) ⟨_, ho, F, tb, nd⟩))
  · rw [if_neg hk] at hQ
    refine add_x ho F hk hb (hQ _ _ (fun b o hn e => (Heap.get?_update_other _ _ (Ne.symm hn)).trans e) ⟨_, get_upd _ ho rfl, add_ok u F, ?_, List.nodup_cons.mpr ⟨hk, nd⟩⟩)
    exact TblOk.tail (TblOk.off (TblOk.new tb))
end
section
variable {X : Cx}
theorem addS_ok {pins : List (Addr × Obj)} {σ : L2.St} {H : Hp} {s : Shared} {E : Value → Shared → Prop} {D : Addr} {l : List Str} {k : Str} {u : Tok} {Q : Value → Shared → Prop} (I : Inv X pins σ H s) (hD : H D = some (SetSO X.prog X.w D l)) (hb : l.length + 1 < scanBound)
    (h : ∀ s', Inv X pins σ (upd H D (SetSO X.prog X.w D (if k ∈ l then l else k :: l))) s' → Q .none s') : wpAny (model X.prog X.w) X.A (call (.builtin "set.add") [.ref D, .str k u]) Q E s := by
  have R : SetS X.prog X.w s.heap D l := (I.hok D _ hD).1
  have ⟨_, hD0, _⟩ := R
  refine wpAny_call_entry F.slot_set_add ⟨_, hD0, rfl⟩ F.entry_set_add ?_ (F.args_set_add_2 _ _)
  unfold Builtin.«set.add» Builtin.Frozenset.oneOther
  simp only [List.isEmpty_nil, bind_assoc]
  unfold Builtin.Frozenset.addrOf setAdd
  refine wpAny_bind (wpAny_pure ?_)
  try dsimp only
  refine wpAny_bind (wpAny_pure ?_)
  try dsimp only
  refine wpAny_bind (wpAny_holding (wpAny_bind ((strKind X.prog X.w).pyHash (k := k) (is_str k u) ?_)))
  refine addS_hashed (s := { s with toks := s.toks + 1 }) R hb fun r h' sb R' => ?_
  refine wpAny_pure ⟨_, rfl, ?_⟩
  have ⟨_, ho', _⟩ := R'
  exact h _ (I.write (e := D) (t' := s.toks + 1) (by rw [hD]; trivial) (.inl rfl) sb ⟨_, ho'⟩ (setSO_new R'))
end
/-! ### the comprehension of two clauses -/
theorem ctS_out (elt t0 i0 t1 i1 : Expr) (ifs0 ifs1 : List Expr) (scope : Scope) (pos : Pos) (it acc : Value) (env : Env) :
    compTurn (.SetComp elt [⟨t0, i0, ifs0, 0⟩, ⟨t1, i1, ifs1, 0⟩] scope pos) 0 it acc env = (do
      standAt i0.pos
      match ← pyNext it with
      | none => pure (.done .next)
      | some v =>
        letOwnedTupleGo t0 it v
        assign t0 env v
        let mut ok := true
        for c in ifs0 do
          if ok then ok ← isTrue c env (eval c env)
        if ok then
          let x ← eval i1 env
          standAt i1.pos
          let x ← foldedSetIterable i1 env x
          let _ ← runOwn (.compStart (.SetComp elt [⟨t0, i0, ifs0, 0⟩, ⟨t1, i1, ifs1, 0⟩] scope pos) 1 (← holding [x] (pyIter x)) acc env) env
        again (.compLoop (.SetComp elt [⟨t0, i0, ifs0, 0⟩, ⟨t1, i1, ifs1, 0⟩] scope pos) 0 it acc env)) := by rfl
theorem ctS_in (elt t0 i0 t1 i1 : Expr) (ifs0 ifs1 : List Expr) (scope : Scope) (pos : Pos) (it acc : Value) (env : Env) :
    compTurn (.SetComp elt [⟨t0, i0, ifs0, 0⟩, ⟨t1, i1, ifs1, 0⟩] scope pos) 1 it acc env = (do
      standAt i1.pos
      match ← pyNext it with
      | none => pure (.done .next)
      | some v =>
        letOwnedTupleGo t1 it v
        assign t1 env v
        let mut ok := true
        for c in ifs1 do
          if ok then ok ← isTrue c env (eval c env)
        if ok then
          (do let v ← eval elt env; standAt elt.pos; let _ ← call (.builtin "set.add") [acc, v])
        again (.compLoop (.SetComp elt [⟨t0, i0, ifs0, 0⟩, ⟨t1, i1, ifs1, 0⟩] scope pos) 1 it acc env)) := by rfl

section
variable {prog : Program} {w : World} {A : Around} {R : Result → Shared → Prop} {s : Shared} {elt t0 i0 t1 i1 : Expr} {ifs0 ifs1 : List Expr} {scope : Scope} {pos : Pos} {it acc : Value} {env : Env}
/-- the loop of the first clause -/
theorem loopS_out (hs : ∀ x, foldedSetIterable i1 env x = pure x) (I : Nat → Shared → Prop)
    (turn : ∀ n s, I n s → wpAny (model prog w) A (pyNext it) (fun r s₁ => match r with
      | none => R (.ok .next) s₁
      | some v => wpAny (model prog w) A (letOwnedTupleGo t0 it v) (fun _ s₁' => wpAny (model prog w) A (assign t0 env v) (fun _ s₂ =>
          wpAny (model prog w) A (forIn ifs0 true fun c r => if r = true then do let ok ← isTrue c env (eval c env); pure (ForInStep.yield ok) else pure (ForInStep.yield r)) (fun ok s₃ =>
            if ok = true then wpAny (model prog w) A (eval i1 env) (fun x s₄ => wpAny (model prog w) A (pyIter x) (fun it1 s₅ =>
              codeAny (model prog w) A (.compStart (.SetComp elt [⟨t0, i0, ifs0, 0⟩, ⟨t1, i1, ifs1, 0⟩] scope pos) 1 it1 acc env) (fun r s' => match r with
                | .ok _ => ∃ m, m < n ∧ I m s'
                | .error _ => False) s₅) (notedBy (model prog w) A env fun e s' => R (.error e) s') s₄) (notedBy (model prog w) A env fun e s' => R (.error e) s') s₃
            else ∃ m, m < n ∧ I m s₃) (notedBy (model prog w) A env fun e s' => R (.error e) s') s₂) (notedBy (model prog w) A env fun e s' => R (.error e) s') s₁') (notedBy (model prog w) A env fun e s' => R (.error e) s') s₁) (notedBy (model prog w) A env fun e s' => R (.error e) s') s)
    (n : Nat) (h : I n s) :
    codeAny (model prog w) A (.compLoop (.SetComp elt [⟨t0, i0, ifs0, 0⟩, ⟨t1, i1, ifs1, 0⟩] scope pos) 0 it acc env) R s := by
  refine codeAny_loop rfl I (fun n s hI => ?_) n h
  show wpAny _ A ((compTurn (.SetComp elt [⟨t0, i0, ifs0, 0⟩, ⟨t1, i1, ifs1, 0⟩] scope pos) 0 it acc env).onRaise (fun x => do noteFrame x env; theTreesLotGoes x)) _ _ s
  refine wpAny_noted ?_
  rw [ctS_out]
  refine wpAny_bind (wpAny_standAt (wpAny_bind (wpAny_mono (turn n s hI) (fun r s₁ h₁ => ?_) fun _ _ h' => h')))
  cases r with
  | none => exact wpAny_pure h₁
  | some v =>
    refine wpAny_bind (wpAny_mono h₁ (fun _ s₁' h₁' => ?_) fun _ _ h' => h')
    refine wpAny_bind (wpAny_mono h₁' (fun _ s₂ h₂ => wpAny_bind (wpAny_mono h₂ (fun ok s₃ h₃ => ?_) fun _ _ h' => h')) fun _ _ h' => h')
    cases ok with
    | false => exact wpAny_pure ⟨rfl, h₃⟩
    | true =>
      refine wpAny_bind (wpAny_mono h₃ (fun x s₄ h₄ => ?_) fun _ _ h' => h')
      refine wpAny_bind (wpAny_standAt (wpAny_bind (wpAny_of_eq (hs x) (wpAny_bind (wpAny_holding (wpAny_mono h₄ (fun it1 s₅ h₅ => ?_) fun _ _ h' => h'))))))
      refine wpAny_bind (wpAny_runOwn ?_)
      rw [Around.mark_none]
      refine codeAny_mono h₅ fun r s' hr => ?_
      cases r with
      | ok f =>
        first
          | exact wpAny_pure ⟨rfl, hr⟩
          | exact wpAny_bind (wpAny_pure (wpAny_pure ⟨rfl, hr⟩))
      | error e => exact hr.elim
/-- the loop of the second -/
theorem loopS_in (I : Nat → Shared → Prop)
    (turn : ∀ n s, I n s → wpAny (model prog w) A (pyNext it) (fun r s₁ => match r with
      | none => R (.ok .next) s₁
      | some v => wpAny (model prog w) A (letOwnedTupleGo t1 it v) (fun _ s₁' => wpAny (model prog w) A (assign t1 env v) (fun _ s₂ =>
          wpAny (model prog w) A (forIn ifs1 true fun c r => if r = true then do let ok ← isTrue c env (eval c env); pure (ForInStep.yield ok) else pure (ForInStep.yield r)) (fun ok s₃ =>
            if ok = true then wpAny (model prog w) A (eval elt env) (fun x s₄ =>
              wpAny (model prog w) A (call (.builtin "set.add") [acc, x]) (fun _ s₅ => ∃ m, m < n ∧ I m s₅) (notedBy (model prog w) A env fun e s' => R (.error e) s') s₄) (notedBy (model prog w) A env fun e s' => R (.error e) s') s₃
            else ∃ m, m < n ∧ I m s₃) (notedBy (model prog w) A env fun e s' => R (.error e) s') s₂) (notedBy (model prog w) A env fun e s' => R (.error e) s') s₁') (notedBy (model prog w) A env fun e s' => R (.error e) s') s₁) (notedBy (model prog w) A env fun e s' => R (.error e) s') s)
    (n : Nat) (h : I n s) :
    codeAny (model prog w) A (.compLoop (.SetComp elt [⟨t0, i0, ifs0, 0⟩, ⟨t1, i1, ifs1, 0⟩] scope pos) 1 it acc env) R s := by
  refine codeAny_loop rfl I (fun n s hI => ?_) n h
  show wpAny _ A ((compTurn (.SetComp elt [⟨t0, i0, ifs0, 0⟩, ⟨t1, i1, ifs1, 0⟩] scope pos) 1 it acc env).onRaise (fun x => do noteFrame x env; theTreesLotGoes x)) _ _ s
  refine wpAny_noted ?_
  rw [ctS_in]
  refine wpAny_bind (wpAny_standAt (wpAny_bind (wpAny_mono (turn n s hI) (fun r s₁ h₁ => ?_) fun _ _ h' => h')))
  cases r with
  | none => exact wpAny_pure h₁
  | some v =>
    refine wpAny_bind (wpAny_mono h₁ (fun _ s₁' h₁' => ?_) fun _ _ h' => h')
    refine wpAny_bind (wpAny_mono h₁' (fun _ s₂ h₂ => wpAny_bind (wpAny_mono h₂ (fun ok s₃ h₃ => ?_) fun _ _ h' => h')) fun _ _ h' => h')
    cases ok with
    | false => exact wpAny_pure ⟨rfl, h₃⟩
    | true =>
      exact wpAny_bind (wpAny_bind (wpAny_mono h₃ (fun x s₄ h₄ => wpAny_bind (wpAny_standAt (wpAny_bind (wpAny_mono h₄ (fun _ s₅ h₅ => wpAny_pure (wpAny_pure ⟨rfl, h₅⟩)) fun _ _ h' => h')))) fun _ _ h' => h'))
/-- the second clause's start -/
theorem startS_ok (h0 : codeAny (model prog w) A (.compLoop (.SetComp elt [⟨t0, i0, ifs0, 0⟩, ⟨t1, i1, ifs1, 0⟩] scope pos) 1 it acc env) R s)
    (h : wpAny (model prog w) A (pyIter it) (fun it' s' => codeAny (model prog w) A (.compLoop (.SetComp elt [⟨t0, i0, ifs0, 0⟩, ⟨t1, i1, ifs1, 0⟩] scope pos) 1 it' acc env) R s')
      (notedBy (model prog w) A env fun x s' => R (.error x) s') s) :
    codeAny (model prog w) A (.compStart (.SetComp elt [⟨t0, i0, ifs0, 0⟩, ⟨t1, i1, ifs1, 0⟩] scope pos) 1 it acc env) R s := by
  refine codeAny_of_tree ?_
  show wpAny _ _ ((compStart (.SetComp elt [⟨t0, i0, ifs0, 0⟩, ⟨t1, i1, ifs1, 0⟩] scope pos) 1 it acc env).onRaise (fun x => do noteFrame x env; standAt theWindowsPlace)) _ _ s
  refine wpAny_notedAt ?_
  unfold compStart
  show wpAny _ _ (ask >>= _) _ _ s
  refine wpAny_bind (wpAny_askSetting (wpAny_ite ?_))
  split
  · first
      | exact wpAny_bind (wpAny_pure (wpAny_pure (And.intro rfl h0)))
      | exact wpAny_pure (And.intro rfl h0)
  · first
      | exact wpAny_bind (wpAny_rule (wpAny_bind (wpAny_standAt (wpAny_bind (wpAny_mono h (fun it' s' h' => wpAny_pure (And.intro rfl h')) fun _ _ x => x)))))
      | (refine wpAny_bind (wpAny_rule ?_); show wpAny _ _ (standAt i1.pos >>= _) _ _ s; exact wpAny_bind (wpAny_standAt (wpAny_bind (wpAny_mono h (fun it' s' h' => wpAny_pure (And.intro rfl h')) fun _ _ x => x))))
end

section
variable {X : Cx}
def tSc2 (P : Program) (w : World) (wi : TI) (g : TG) (tt : TT) (wi1 : TI) (g1 : TG) (tt1 : TT) (te : TE) (vs vs1 : List Nat) : TE := fun σ H Q => wi σ H fun J H1 => ∀ D, H1 D = none → ∃ W : Nat → Nat → Hp → Prop, (∃ m, W 0 m (upd H1 D (SetSO P w D []))) ∧ ∀ i m H, W i m H →
  (J.stop i H ∧ Q (.ref D) H) ∨ (J.go i H ∧ ∃ Nx : Hp → Prop, (∀ H', Nx H' → ∃ m', m' < m ∧ W (i + 1) m' H') ∧ ∀ x H', J.yld i H x H' → g x (wipe σ vs) H' fun σ2 H2 => wipe σ2 vs = wipe σ vs ∧ tt σ2 H2 fun b H3 =>
    if b = true then wi1 σ2 H3 fun J1 H4 => ∃ W1 : Nat → Nat → Hp → Prop, (∃ m, W1 0 m H4) ∧ ∀ j k H, W1 j k H →
      (J1.stop j H ∧ Nx H) ∨ (J1.go j H ∧ ∃ Nx1 : Hp → Prop, (∀ H', Nx1 H' → ∃ k', k' < k ∧ W1 (j + 1) k' H') ∧ ∀ x H', J1.yld j H x H' → g1 x (wipe σ2 vs1) H' fun σ3 H5 => wipe σ3 vs1 = wipe σ2 vs1 ∧ tt1 σ3 H5 fun b H6 =>
        if b = true then te σ3 H6 fun y H7 => ∃ z ws, y = .str z ∧ H7 D = some (SetSO P w D ws) ∧ ws.length + 1 < scanBound ∧ Nx1 (upd H7 D (SetSO P w D (if z ∈ ws then ws else z :: ws))) else Nx1 H6)
    else Nx H3)
theorem sc2_core {pins : List (Addr × Obj)} {s : Shared} {σ : L2.St} {H : Hp} {Q : VK} {elt tg iter tg1 iter1 : Expr} {ifs ifs1 : List Expr} {scope : Scope} {own : List (Str × Nat)} {vs1 : List Nat} {pos pos' : Pos} {wi wi1 : TI} {g g1 : TG} {tt tt1 : TT} {te : TE} {use : Option (Value → Sem Unit)} {Qf : Value → Shared → Prop}
    (hc : X.calm = true) (hN : X.N.Nodup) (I : Inv X pins σ H s) (hi : PI X tg iter wi) (ok : BlkOk X.N X.env.scope scope own) (hv : ∀ i ∈ vs1, i ∈ own.map (·.2))
    (hg : ∀ (s : Shared) (H : Hp) (C : Addr) (cl : List (Str × Addr)) (fp : List Addr), PG (X.blk s H scope (compEnvC scope cl C X.env) fp) tg g) (ht : ∀ (s : Shared) (H : Hp) (C : Addr) (cl : List (Str × Addr)) (fp : List Addr), PTs (X.blk s H scope (compEnvC scope cl C X.env) fp) ifs tt)
    (he : ∀ (s : Shared) (H : Hp) (C : Addr) (cl : List (Str × Addr)) (fp : List Addr), PE (X.blk s H scope (compEnvC scope cl C X.env) fp) elt te) (hs : ∀ x, foldedSetIterable iter X.env x = pure x)
    (hi1 : ∀ (s : Shared) (H : Hp) (C : Addr) (cl : List (Str × Addr)) (fp : List Addr), PI (X.blk s H scope (compEnvC scope cl C X.env) fp) tg1 iter1 wi1)
    (hg1 : ∀ (s : Shared) (H : Hp) (C : Addr) (cl : List (Str × Addr)) (fp : List Addr), PG (X.blk s H scope (compEnvC scope cl C X.env) fp) tg1 g1)
    (ht1 : ∀ (s : Shared) (H : Hp) (C : Addr) (cl : List (Str × Addr)) (fp : List Addr), PTs (X.blk s H scope (compEnvC scope cl C X.env) fp) ifs1 tt1)
    (hs1 : ∀ env x, foldedSetIterable iter1 env x = pure x)
    (h : tSc2 X.prog X.w wi g tt wi1 g1 tt1 te (own.map (·.2)) vs1 σ H Q)
    (hRR : ∀ D C s' m H', Inv X pins σ H' s' → Q (.ref D) H' → s'.heap.Ns C m → FpOk X pins H' C → compPost (model X.prog X.w) X.A X.xe use Qf (.ref D) C (.ok .next) s') :
    wpAny (model X.prog X.w) X.A (comprehension (.SetComp elt [⟨tg, iter, ifs, 0⟩, ⟨tg1, iter1, ifs1, 0⟩] scope pos) scope X.env pos' (newSet (.type "set")) false (eval iter X.env) use) Qf X.xe s := by
  have hfree : ∀ y ∈ scope.names, y.2 = .free → ∃ c, X.env.cells.lookup y.1 = some c := fun y hy e => by
    rcases ok.free y hy e with k | k
    · exact I.ok.has _ (.inl k)
    · exact I.ok.has _ (.inr k)
  refine wpAny_comprehension_free (use := use) rfl hs (closure_ok hfree) ok.kind (fun y hy e => by rw [ok.uniq y hy, e])
    (thn (hi.run pins s σ H _ I h) fun xv s1 hx => thn hx fun itv s2 h2 => ?_)
  obtain ⟨it, fp, tn, J, H2, e, I2, T, st2, f2, q⟩ := h2
  subst e
  refine PpSet.newSet_ok (newEnv_comp ?_)
  generalize hD : s2.heap.objs.size = D
  have hDn : H2 D = none := I2.hok.fresh (Nat.le_of_eq hD)
  obtain ⟨W, ⟨m0, w0⟩, turn⟩ := q D hDn
  
  generalize hs3 : ({ s2 with heap := s2.heap.push { cls := .type "set", dict := none, data := .set #[] 0 (.fresh 0 0 (!X.w.params.followText "set-order")) } } : Shared) = s3
  have I3 : Inv X pins σ (upd H2 D (SetSO X.prog X.w D [])) s3 := by
    rw [← hs3]
    refine I2.laid (t' := s2.toks) (fun b o e => Heap.get?_push_of_some _ e) (Nat.le_of_eq hD) ?_
    rw [← hD]
    exact setSO_new (setS_fresh X.prog X.w)
  have h3 : s3.heap = s2.heap.push { cls := .type "set", dict := none, data := .set #[] 0 (.fresh 0 0 (!X.w.params.followText "set-order")) } := by rw [← hs3]
  have sz : ∀ b ∈ fp, b < s2.heap.objs.size := fun b hb => by
    obtain ⟨o, e, _⟩ := T.obj _ _ st2 b hb
    exact Heap.lt_size e
  have f3 : ∀ b ∈ fp, FpOk X pins (upd H2 D (SetSO X.prog X.w D [])) b ∧ b < s3.heap.objs.size := fun b hb => by
    have hlt := sz b hb
    refine ⟨⟨?_, (f2 b hb).2⟩, by rw [h3, Heap.size_push]; exact Nat.lt_succ_of_lt hlt⟩
    rw [upd_ne (by rw [← hD]; exact Nat.ne_of_lt hlt)]
    exact (f2 b hb).1
  have st3 : tn 0 s3.heap := T.keep _ _ _ st2 fun b _ o e => by rw [h3]; exact Heap.get?_push_of_some _ e
  have I4 := block_start I3 ok hN f3
  have pg := hg s3 (upd H2 D (SetSO X.prog X.w D [])) s3.heap.objs.size (cellsFrom (s3.heap.objs.size + 1) scope.names (cloFrom X.env.cells scope.names [])) fp
  have pt := ht s3 (upd H2 D (SetSO X.prog X.w D [])) s3.heap.objs.size (cellsFrom (s3.heap.objs.size + 1) scope.names (cloFrom X.env.cells scope.names [])) fp
  have pe := he s3 (upd H2 D (SetSO X.prog X.w D [])) s3.heap.objs.size (cellsFrom (s3.heap.objs.size + 1) scope.names (cloFrom X.env.cells scope.names [])) fp
  have pi1 := hi1 s3 (upd H2 D (SetSO X.prog X.w D [])) s3.heap.objs.size (cellsFrom (s3.heap.objs.size + 1) scope.names (cloFrom X.env.cells scope.names [])) fp
  have pg1 := hg1 s3 (upd H2 D (SetSO X.prog X.w D [])) s3.heap.objs.size (cellsFrom (s3.heap.objs.size + 1) scope.names (cloFrom X.env.cells scope.names [])) fp
  have pt1 := ht1 s3 (upd H2 D (SetSO X.prog X.w D [])) s3.heap.objs.size (cellsFrom (s3.heap.objs.size + 1) scope.names (cloFrom X.env.cells scope.names [])) fp
  show codeAny _ _ (.compStart (.SetComp elt [⟨tg, iter, ifs, 0⟩, ⟨tg1, iter1, ifs1, 0⟩] scope pos) 0 (.ref it) (.ref D) (compEnvC scope (cellsFrom (s3.heap.objs.size + 1) scope.names (cloFrom X.env.cells scope.names [])) s3.heap.objs.size X.env)) (compPost (model X.prog X.w) X.A X.xe use Qf (.ref D) s3.heap.objs.size) { s3 with heap := pushCells (s3.heap.push { cls := .type "dict", data := .dict #[] }) scope.names }
  have nfp : ∀ b ∈ fp, (upd H2 D (SetSO X.prog X.w D [])) b = none := fun b hb => (f3 b hb).1.1
  generalize hce : compEnvC scope (cellsFrom (s3.heap.objs.size + 1) scope.names (cloFrom X.env.cells scope.names [])) s3.heap.objs.size X.env = ce at I4 pg pt pe pi1 pg1 pt1 ⊢
  have cL : ce.locals = s3.heap.objs.size := by subst hce; rfl
  generalize hH3 : upd H2 D (SetSO X.prog X.w D []) = H3 at I3 I4 pg pt pe pi1 pg1 pt1 w0 nfp f3
  generalize hs4 : ({ s3 with heap := pushCells (s3.heap.push { cls := .type "dict", data := .dict #[] }) scope.names } : Shared) = s4 at I4 ⊢
  have st4 : tn 0 s4.heap := T.keep _ _ _ st3 fun b _ o e => by rw [← hs4]; exact pushCells_keeps _ _ _ _ (Heap.get?_push_of_some _ e)
  have stat : ∀ {σ' : L2.St} {H' : Hp} {s' : Shared}, Inv (X.blk s3 H3 scope ce fp) [] σ' H' s' → (∀ b ∈ fp, H' b = none) → ∀ b ∈ fp, FpOk (X.blk s3 H3 scope ce fp) [] H' b := fun {σ' H' s'} I' hn b hb =>
    ⟨hn b hb, (I'.ok.exf b hb).1, I'.ok.exfs b hb, .inl hb, fun x c e => (I'.ok.exf b hb).2 x c e, fun p hp => absurd (show p ∈ ([] : List (Addr × Obj)) ++ [] from hp) (by simp)⟩
  have loop : codeAny (model X.prog X.w) X.A (.compLoop (.SetComp elt [⟨tg, iter, ifs, 0⟩, ⟨tg1, iter1, ifs1, 0⟩] scope pos) 0 (.ref it) (.ref D) ce) (compPost (model X.prog X.w) X.A X.xe use Qf (.ref D) s3.heap.objs.size) s4 := by
    refine loopS_out (hs1 ce) (fun n s' => ∃ i H', Inv (X.blk s3 H3 scope ce fp) [] (wipe σ (own.map (·.2))) H' s' ∧ tn i s'.heap ∧ (∀ b ∈ fp, H' b = none) ∧ W i n H') ?_ m0 ⟨0, H3, I4, st4, nfp, w0⟩
    rintro n s5 ⟨i, H5, I5, st5, n5, w5⟩
    rcases turn i n H5 w5 with ⟨stop, qq⟩ | ⟨go, Nx, hNx, step⟩
    · have td := T.done (X.blk s3 H3 scope ce fp) rfl rfl rfl hc i [] s5 _ H5 (fun _ _ => False) I5 (stat I5 n5) st5 stop
      refine thnF td fun r s6 ⟨hr, I6⟩ => ?_
      subst hr
      -- back in the def's context
      have I7 : Inv X pins σ H5 s6 := I3.call' (ch := fp) I6.os I6.base I6.hok I6.bare fun b hb => ⟨(f3 b hb).1.2.2.2.1, (f3 b hb).1.2.1, (f3 b hb).1.2.2.2.2.1, (f3 b hb).1.2.2.2.2.2⟩
      have nC : H5 s3.heap.objs.size = none := by
        have z : H5 ce.locals = none := I6.free
        rw [cL] at z
        exact z
      obtain ⟨m, hn, _⟩ := I6.loc
      have hn : s6.heap.Ns ce.locals m := hn
      rw [cL] at hn
      exact hRR D s3.heap.objs.size s6 m H5 I7 qq hn (I3.fpOk (Nat.le_refl _) nC)
    · have ti := T.item (X.blk s3 H3 scope ce fp) rfl rfl rfl hc i [] s5 _ H5 (fun _ _ => False) I5 (stat I5 n5) st5 go
      refine thnF ti fun r s6 ⟨u, hr, h6⟩ => ?_
      subst hr
      refine thnF h6 fun _ s7 ⟨x, H7, I7, r7, y7, st7, n7⟩ => ?_
      have I7' := I7.pinned (stat I7 n7) (T.obj _ _ st7)
      refine thnF (pg.run _ s7 _ H7 x u _ I7' r7 (step x H7 y7)) fun _ s8 ⟨σ8, H8, I8, hw8, q8⟩ => ?_
      refine thnF (pt.run _ s8 σ8 H8 _ I8 q8) fun b s9 ⟨H9, I9, q9⟩ => ?_
      -- the turn's end, from any slots that know what the block knew at its start
      have fin : ∀ {σ9 : L2.St} {s' : Shared} {H' : Hp}, Inv (X.blk s3 H3 scope ce fp) ([] ++ pinsAt fp s7.heap) σ9 H' s' → (wipe σ (own.map (·.2))).length = σ9.length → (∀ (j : Nat) v, (wipe σ (own.map (·.2)))[j]? = some (some v) → σ9[j]? = some (some v)) → Nx H' →
          ∃ m, m < n ∧ ∃ i H', Inv (X.blk s3 H3 scope ce fp) [] (wipe σ (own.map (·.2))) H' s' ∧ tn i s'.heap ∧ (∀ b ∈ fp, H' b = none) ∧ W i m H' := fun {σ9 s' H'} I' hl hk nx => by
        obtain ⟨m', hm, w'⟩ := hNx H' nx
        have pin' : ∀ b ∈ fp, ∀ o, s7.heap.get? b = some o → s'.heap.get? b = some o ∧ H' b = none := fun b hb o e =>
          let z := I'.pin (b, o) (List.mem_append_right _ (List.mem_append_right _ (mem_pinsAt hb e)))
          ⟨z.1, z.2.1⟩
        refine ⟨m', hm, i + 1, H', (I'.unpinned (pins := [])).weak hl hk, T.keep _ _ _ st7 fun b hb o e => (pin' b hb o e).1, fun b hb => ?_, w'⟩
        obtain ⟨o, e, _⟩ := T.obj _ _ st7 b hb
        exact (pin' b hb o e).2
      have hl8 : (wipe σ (own.map (·.2))).length = σ8.length := by rw [← hw8, wipe_length]
      have hk8 : ∀ (j : Nat) v, (wipe σ (own.map (·.2)))[j]? = some (some v) → σ8[j]? = some (some v) := fun j v e => by
        rw [← hw8] at e
        exact (wipe_some e).1
      have hk9 : ∀ (j : Nat) v, (wipe σ (own.map (·.2)))[j]? = some (some v) → (wipe σ8 vs1)[j]? = some (some v) := fun j v e => by
        rw [← hw8] at e
        obtain ⟨e1, e2⟩ := wipe_some e
        rw [wipe_out fun z => e2 (hv j z)]
        exact e1
      cases b with
      | false =>
        simp only [Bool.false_eq_true, if_false] at q9 ⊢
        exact fin I9 hl8 hk8 q9
      | true =>
        simp only [if_true] at q9 ⊢
        refine thnF (pi1.run _ s9 σ8 H9 _ I9 q9) fun xv s10 hx => thnF hx fun itv s11 h11 => ?_
        obtain ⟨it1, fp1, tn1, J1, H11, e1, I11, T1, st11, f11, W1, ⟨m1, w1⟩, turn1⟩ := h11
        subst e1
        -- the inner loop
        have stat1 : ∀ {H' : Hp}, (∀ b ∈ fp1, H' b = none) → ∀ b ∈ fp1, FpOk (X.blk s3 H3 scope ce fp) ([] ++ pinsAt fp s7.heap) H' b := fun hn b hb => ⟨hn b hb, (f11 b hb).2⟩
        have loop1 : codeAny (model X.prog X.w) X.A (.compLoop (.SetComp elt [⟨tg, iter, ifs, 0⟩, ⟨tg1, iter1, ifs1, 0⟩] scope pos) 1 (.ref it1) (.ref D) ce)
            (fun r s' => match r with
              | .ok _ => ∃ m, m < n ∧ ∃ i H', Inv (X.blk s3 H3 scope ce fp) [] (wipe σ (own.map (·.2))) H' s' ∧ tn i s'.heap ∧ (∀ b ∈ fp, H' b = none) ∧ W i m H'
              | .error _ => False) s11 := by
          refine loopS_in (fun k s' => ∃ j H', Inv (X.blk s3 H3 scope ce fp) ([] ++ pinsAt fp s7.heap) (wipe σ8 vs1) H' s' ∧ tn1 j s'.heap ∧ (∀ b ∈ fp1, H' b = none) ∧ W1 j k H') ?_ m1 ⟨0, H11, I11.weak (wipe_length _ _) (fun j v e => (wipe_some e).1), st11, fun b hb => (f11 b hb).1, w1⟩
          rintro k s12 ⟨j, H12, I12, st12, n12, w12⟩
          rcases turn1 j k H12 w12 with ⟨stop1, nx1⟩ | ⟨go1, Nx1, hNx1, step1⟩
          · refine thnF (T1.done (X.blk s3 H3 scope ce fp) rfl rfl rfl hc j _ s12 (wipe σ8 vs1) H12 (fun _ _ => False) I12 (stat1 n12) st12 stop1) fun r s13 ⟨hr, I13⟩ => ?_
            subst hr
            exact fin I13 (hl8.trans (wipe_length σ8 vs1).symm) hk9 nx1
          · refine thnF (T1.item (X.blk s3 H3 scope ce fp) rfl rfl rfl hc j _ s12 (wipe σ8 vs1) H12 (fun _ _ => False) I12 (stat1 n12) st12 go1) fun r s13 ⟨u1, hr, h13⟩ => ?_
            subst hr
            refine thnF h13 fun _ s14 ⟨x1, H14, I14, r14, y14, st14, n14⟩ => ?_
            have I14' := I14.pinned (stat1 n14) (T1.obj _ _ st14)
            refine thnF (pg1.run _ s14 (wipe σ8 vs1) H14 x1 u1 _ I14' r14 (step1 x1 H14 y14)) fun _ s15 ⟨σ15, H15, I15, hw15, q15⟩ => ?_
            refine thnF (pt1.run _ s15 σ15 H15 _ I15 q15) fun b1 s16 ⟨H16, I16, q16⟩ => ?_
            have fin1 : ∀ {s' : Shared} {H' : Hp}, Inv (X.blk s3 H3 scope ce fp) (([] ++ pinsAt fp s7.heap) ++ pinsAt fp1 s14.heap) σ15 H' s' → Nx1 H' → ∃ m, m < k ∧ ∃ j H', Inv (X.blk s3 H3 scope ce fp) ([] ++ pinsAt fp s7.heap) (wipe σ8 vs1) H' s' ∧ tn1 j s'.heap ∧ (∀ b ∈ fp1, H' b = none) ∧ W1 j m H' := fun {s' H'} I' nx => by
              obtain ⟨m', hm, w'⟩ := hNx1 H' nx
              have pin' : ∀ b ∈ fp1, ∀ o, s14.heap.get? b = some o → s'.heap.get? b = some o ∧ H' b = none := fun b hb o e =>
                let z := I'.pin (b, o) (List.mem_append_right _ (List.mem_append_right _ (mem_pinsAt hb e)))
                ⟨z.1, z.2.1⟩
              refine ⟨m', hm, j + 1, H', I'.unpinned.weak (by rw [← hw15, wipe_length]) (fun j v e => by rw [← hw15] at e; exact (wipe_some e).1), T1.keep _ _ _ st14 fun b hb o e => (pin' b hb o e).1, fun b hb => ?_, w'⟩
              obtain ⟨o, e, _⟩ := T1.obj _ _ st14 b hb
              exact (pin' b hb o e).2
            cases b1 with
            | false =>
              simp only [Bool.false_eq_true, if_false] at q16 ⊢
              exact fin1 I16 q16
            | true =>
              simp only [if_true] at q16 ⊢
              refine thnF (pe.run _ s16 σ15 H16 _ I16 q16) fun z s17 ⟨yv, H17, I17, r17, txt, ws, ey, hD17, hz17, nx⟩ => ?_
              subst ey
              obtain ⟨u17, rfl⟩ := r17
              exact addS_ok (X := X.blk s3 H3 scope ce fp) I17 hD17 hz17 fun s18 I18 => fin1 I18 nx
        exact startS_ok loop1 (T1.self X.A 0 _ _ _ st11 loop1)
  exact PpSet.codeAny_compStart_set loop (T.self X.A 0 _ _ _ st4 loop)
/-- as a value -/
theorem pe_sc2 {elt tg iter tg1 iter1 : Expr} {ifs ifs1 : List Expr} {scope : Scope} {own : List (Str × Nat)} {vs1 : List Nat} {pos : Pos} {wi wi1 : TI} {g g1 : TG} {tt tt1 : TT} {te : TE} (hc : X.calm = true) (hN : X.N.Nodup) (hi : PI X tg iter wi) (ok : BlkOk X.N X.env.scope scope own) (hv : ∀ i ∈ vs1, i ∈ own.map (·.2))
    (hg : ∀ (s : Shared) (H : Hp) (C : Addr) (cl : List (Str × Addr)) (fp : List Addr), PG (X.blk s H scope (compEnvC scope cl C X.env) fp) tg g) (ht : ∀ (s : Shared) (H : Hp) (C : Addr) (cl : List (Str × Addr)) (fp : List Addr), PTs (X.blk s H scope (compEnvC scope cl C X.env) fp) ifs tt)
    (hi1 : ∀ (s : Shared) (H : Hp) (C : Addr) (cl : List (Str × Addr)) (fp : List Addr), PI (X.blk s H scope (compEnvC scope cl C X.env) fp) tg1 iter1 wi1)
    (hg1 : ∀ (s : Shared) (H : Hp) (C : Addr) (cl : List (Str × Addr)) (fp : List Addr), PG (X.blk s H scope (compEnvC scope cl C X.env) fp) tg1 g1) (ht1 : ∀ (s : Shared) (H : Hp) (C : Addr) (cl : List (Str × Addr)) (fp : List Addr), PTs (X.blk s H scope (compEnvC scope cl C X.env) fp) ifs1 tt1)
    (he : ∀ (s : Shared) (H : Hp) (C : Addr) (cl : List (Str × Addr)) (fp : List Addr), PE (X.blk s H scope (compEnvC scope cl C X.env) fp) elt te) (hs : ∀ x, foldedSetIterable iter X.env x = pure x := by intro _; rfl) (hs1 : ∀ env x, foldedSetIterable iter1 env x = pure x := by intro _ _; rfl) :
    PE X (.SetComp elt [⟨tg, iter, ifs, 0⟩, ⟨tg1, iter1, ifs1, 0⟩] scope pos) (tSc2 X.prog X.w wi g tt wi1 g1 tt1 te (own.map (·.2)) vs1) := by
  refine ⟨fun pins s σ H Q I h => ?_⟩
  rw [PpSet.eval_SetComp]
  refine sc2_core hc hN I hi ok hv hg ht he hs hi1 hg1 ht1 hs1 h fun D C s' m H' I' q hn f => ⟨m, hn, fun h'' sb => ?_⟩
  obtain ⟨f0, f1, f2, f3, f4, f5⟩ := f
  exact ⟨.ref D, H', I'.turned (t' := s'.toks) (fun b o hb e => (sb.2 b hb).trans e) f0 f1 f3 f4 f5, rfl, q⟩end

/-! ### sorted of a set of texts -/
theorem strs_of : ∀ (l : List Value), (∀ v ∈ l, ∃ k tk, v = Value.str k tk) → ∃ ks, StrsAre l ks
  | [], _ => ⟨[], .nil⟩
  | v :: l, h => by
    obtain ⟨k, tk, rfl⟩ := h v List.mem_cons_self
    obtain ⟨ks, r⟩ := strs_of l fun u hu => h u (List.mem_cons_of_mem _ hu)
    exact ⟨k :: ks, .cons k tk r⟩
section
variable {X : Cx}
def rSortT (P : Program) (w : World) : List V → Hp → VK → Prop := fun vs H Q => ∃ (a : Addr) (l : List Str), vs = [.ref a] ∧ H a = some (SetSO P w a l) ∧ l.length < 64 ∧ ∀ (ys : List Str) (p : Addr), ys.length = l.length → H p = none → Q (.ref p) (upd H p (.lst (ys.map V.str)))
theorem cr_sortT (hc : X.calm = true) : CallR X (.builtin "sorted") (rSortT X.prog X.w) := by
  intro pins s σ H xs us Q I r h
  obtain ⟨a, l, rfl, ha, h64, q⟩ := h
  obtain rfl := Vals.ref1 r
  obtain ⟨D, ho, F, tb, nd⟩ : SetS X.prog X.w s.heap a l := (I.hok a _ ha).1
  obtain ⟨es, ep, t⟩ := D
  have hsz : es.size = l.length := F.sz
  have hb : es.size < scanBound := Nat.lt_of_lt_of_le (by omega : es.size < 64) (by decide)
  refine Calls.call_function_entry kind_sorted plain_sorted entry_sorted (args_sorted1 _) ?_
  unfold Builtin.«sorted»
  refine wpAny_bind (m := checkCount "sorted" 1 1 _) (wpAny_pure ?_)
  refine wpAny_bind (collect_set (A := X.A.in1) (I.ok.hd hc) ⟨_, ho, rfl, rfl⟩ F.fit hb tb.1 tb.2 fun s1 vs k1 hz g1 o1 pm => ?_)
  have hvl : vs.length = l.length := by rw [pm.length_eq, List.length_map, Array.length_toList]; exact hsz
  obtain ⟨ks, hS⟩ := strs_of vs fun v hv => by
    obtain ⟨e, he, q⟩ := List.mem_map.mp (pm.mem_iff.mp hv)
    obtain ⟨⟨k, hk, _⟩, _⟩ := F.el e he
    obtain ⟨tk, ev⟩ := Value.isStrOf_shape hk
    exact ⟨k, tk, by rw [← q]; exact ev⟩
  have hL : vs.length ≤ sizeLine := by rw [hvl]; exact small64 h64
  refine wpAny_bind (wpAny_newList ?_ hL)
  have hoL : (s1.heap.push (seqObj "list" vs.toArray 0)).get? s1.heap.objs.size = some (seqObj "list" vs.toArray 0) := Heap.get?_push_size _ rfl
  refine wpAny_bind (wpAny_holding (wpAny_call_entry slot_list_sort ⟨_, hoL, rfl⟩ entry_list_sort (list_sort_treeKAny strKind_oneLt hoL hS.keysOf (fun v₁ v₂ rest e => keyKind_strs (by rw [← e]; exact hS)) hL fun st' hp hs => ⟨_, rfl, ?_⟩) (args_list_sort _)))
  obtain ⟨ys, r1, r2, _⟩ := sorted_out_str hS hp hs
  obtain ⟨c, hcp⟩ := sortedHeap_at (vs := vs) (out := (arrOf st').map (·.2)) hoL
  have hn : H s1.heap.objs.size = none := I.hok.fresh hz
  have yl : ys.length = l.length := by rw [r2.length_eq, ← StrsAre.length hS, hvl]
  have kp : ∀ b u, s.heap.get? b = some u → (sortedHeap (s1.heap.push (seqObj "list" vs.toArray 0)) s1.heap.objs.size vs ((arrOf st').map (·.2))).get? b = some u := fun b u e => by
    have q := k1 b u e
    have hlt := Heap.lt_size q
    rw [sortedHeap_old (Nat.ne_of_lt hlt) (by rw [size_push']; exact Nat.lt_succ_of_lt hlt)]
    exact Heap.get?_push_of_some _ q
  have J : Inv X pins σ (upd H s1.heap.objs.size (.lst (ys.map V.str))) { s1 with heap := sortedHeap (s1.heap.push (seqObj "list" vs.toArray 0)) s1.heap.objs.size vs ((arrOf st').map (·.2)) } :=
    I.call' (ch := []) o1 (Un.laid kp hz hn) (I.hok.laid kp hz ⟨by rw [List.length_map, yl]; exact small64 h64, ((arrOf st').map (·.2)).toList, c, vals_of_strs r1, hcp⟩) (by rw [g1]; exact I.bare) (fun _ z => nomatch z)
  exact wpAny_pure ⟨_, rfl, .ref s1.heap.objs.size, _, J, rfl, q ys _ yl hn⟩
end
end KX
set_option maxHeartbeats 4000000
namespace KX
open PySem PySem.Spec PyProof.Rows L2
section
variable {P : Program} {w : World} {K : PySem.W.Frag} {mg : Str → Option Value} {base : Heap} {p : Addr}
theorem nodup_le {α : Type} [DecidableEq α] : ∀ (l m : List α), l.Nodup → (∀ x ∈ l, x ∈ m) → l.length ≤ m.length
  | [], _, _, _ => Nat.zero_le _
  | x :: l, m, hn, hs => by
    obtain ⟨h1, h2⟩ := List.nodup_cons.mp hn
    have hx := hs x List.mem_cons_self
    have h3 := nodup_le l (m.erase x) h2 fun y hy => (List.mem_erase_of_ne (fun e : y = x => h1 (by rw [← e]; exact hy))).mpr (hs y (List.mem_cons_of_mem _ hy))
    have h4 := List.length_erase_of_mem hx
    have h5 := List.length_pos_of_mem hx
    rw [List.length_cons]
    omega
theorem sub3 {ws : List Str} (hn : ws.Nodup) (hs : ∀ z ∈ ws, z ∈ wwords) : ws.length ≤ 3 := nodup_le ws wwords hn hs
theorem encW_len (a : WS) : ∃ ds, encW a = .tuple ds ∧ (ds.length = 2 → ∃ c z, ds = [.str c, .str z] ∧ (WOk a → z ∈ wwords)) := by
  cases a with
  | set z => exact ⟨_, rfl, fun _ => ⟨_, z, rfl, id⟩⟩
  | say z => exact ⟨_, rfl, fun _ => ⟨_, z, rfl, id⟩⟩
  | again => exact ⟨_, rfl, fun h => by cases h⟩
/-- the words of all steps, as a set -/
theorem words_set {v : V} {ns : List (List (WS × Nat))} {H : Hp} (dv : DT K H v (gD encW ns)) (g : GOk WOk ns) {Q : VK} (q : ∀ D ws H', Same H H' → H' D = some (SetSO P w D ws) → ws.length ≤ 3 → Q (.ref D) H') :
    tSc2 P w (iTup K (tVar 0)) (gName 1) tYes (iTup K (tVar 1)) (gTup K 2 (gCons (gName 2) (gCons (gName 3) gNil))) (tTest (tOp rEq (tCB (fun xs H Q => ∃ x n, xs = [x] ∧ LenV K x H n ∧ Q (.int n) H) (tCons (tVar 2) tNil)) (tC (.int 2)))) (tOp (rIxT K) (tVar 2) (tC (.int 1))) [1, 2, 3] [2, 3] (L2.start ["nodes", "node", "step", "there"] [v]) H Q := by
  have s0 : DS K H (L2.start ["nodes", "node", "step", "there"] [v]) [.d (gD encW ns), .no, .no, .no] := .cons (s := .d _) ⟨v, rfl, dv⟩ (DS.nos 3)
  refine (evw_tupM (h := rowD encW) (K := K) (G := gS H) (l := ns) [] (ev_var rfl)) _ H (Same.refl H) s0 _ fun J H1 Gh e1 g1 dw => ?_
  intro D hD
  have hlN : ns.length ≤ 6 := g.six
  refine ⟨fun i m H2 => m = ns.length - i ∧ i ≤ ns.length ∧ Gh H2 ∧ Same H1 H2 ∧ ∃ ws, H2 D = some (SetSO P w D ws) ∧ ws.Nodup ∧ ∀ z ∈ ws, z ∈ wwords, ⟨_, rfl, Nat.zero_le _, dw.keep _ _ g1 (Same.new hD).tp, Same.new hD, [], upd_same, List.nodup_nil, fun z h => by cases h⟩, ?_⟩
  rintro i m H2 ⟨rfl, hi, g2, e2, ws, hws, nd, sb⟩
  by_cases hlt : i < ns.length
  · refine .inr ⟨dw.walk.goes i H2 hlt g2, fun H' => Gh H' ∧ Same H1 H' ∧ ∃ ws, H' D = some (SetSO P w D ws) ∧ ws.Nodup ∧ ∀ z ∈ ws, z ∈ wwords, fun H' ⟨a, b, c⟩ => ⟨_, by omega, rfl, hlt, a, b, c⟩, fun x H' y => ?_⟩
    obtain ⟨e3, dx⟩ := dw.walk.yields i H2 x H' hlt g2 y
    refine ⟨rfl, ?_⟩
    unfold tYes
    dsimp only
    rw [if_pos (rfl : true = true)]
    have hes := g.three (ns.getD i []) (by rw [List.getD_eq_getElem?_getD, List.getElem?_eq_getElem hlt]; exact List.getElem_mem hlt)
    have hok := g.step (ns.getD i []) (by rw [List.getD_eq_getElem?_getD, List.getElem?_eq_getElem hlt]; exact List.getElem_mem hlt)
    generalize ns.getD i [] = es at dx hes hok
    have s1 : DS K H' [some v, some x, none, none] [.no, .d (rowD encW es), .no, .no] := .cons (s := .no) trivial (.cons (s := .d _) ⟨x, rfl, dx⟩ (DS.nos 2))
    refine (evw_tupM (h := fun e : WS × Nat => PyData.tuple [encW e.1, .int (e.2 : Nat)]) (K := K) (G := gS H') (l := es) default (ev_var rfl)) _ H' (Same.refl H') s1 _ fun J1 H4 Gh1 e4 g4 dw1 => ?_
    have e14 : Same H1 H4 := e2.trans (e3.trans e4)
    refine ⟨fun j k H5 => k = es.length - j ∧ j ≤ es.length ∧ Gh1 H5 ∧ Gh H5 ∧ Same H1 H5 ∧ ∃ ws, H5 D = some (SetSO P w D ws) ∧ ws.Nodup ∧ ∀ z ∈ ws, z ∈ wwords, ⟨_, rfl, Nat.zero_le _, g4, dw.keep _ _ g2 (e3.trans e4).tp, e14, ws, e4 _ _ (e3 _ _ hws), nd, sb⟩, ?_⟩
    rintro j k H5 ⟨rfl, hj, g5, gg5, e5, ws5, hws5, nd5, sb5⟩
    by_cases hjt : j < es.length
    · refine .inr ⟨dw1.walk.goes j H5 hjt g5, fun H' => Gh1 H' ∧ Gh H' ∧ Same H1 H' ∧ ∃ ws, H' D = some (SetSO P w D ws) ∧ ws.Nodup ∧ ∀ z ∈ ws, z ∈ wwords, fun H' ⟨a, b, c⟩ => ⟨_, by omega, rfl, hjt, a, b, c⟩, fun x1 H6 y1 => ?_⟩
      obtain ⟨e6, dx1⟩ := dw1.walk.yields j H5 x1 H6 hjt g5 y1
      have hoe : WOk (es.getD j default).1 := hok _ (by rw [List.getD_eq_getElem?_getD, List.getElem?_eq_getElem hjt]; exact List.getElem_mem hjt)
      generalize es.getD j default = e at dx1 hoe
      obtain ⟨a, nx⟩ := e
      cases dx1 with
      | @tup t us _ sq ts =>
      cases ts with
      | @cons u1 us1 _ _ d1 ts =>
      cases ts with
      | @cons u2 us2 _ _ d2 ts =>
      cases ts
      refine ⟨t, [u1, u2], rfl, SqT.of sq, rfl, _, _, rfl, _, _, rfl, rfl, rfl, ?_⟩
      obtain ⟨ds, eds, h2⟩ := encW_len a
      rw [eds] at d1
      have s6 : DS K H6 [none, none, some u1, some u2] [.no, .no, .d (.tuple ds), .no] := .cons (s := .no) trivial (.cons (s := .no) trivial (.cons (s := .d _) ⟨u1, rfl, d1⟩ (.cons (s := .no) trivial .nil)))
      refine (evt_test (ev_eqi (ev_len (ds := ds) (K := K) (G := gS H6) rfl (ev_var (i := 2) rfl)) ev_int)) _ H6 (Same.refl H6) s6 _ fun H7 e7 => ?_
      by_cases hl : ds.length = 2
      · obtain ⟨c, z, ed, hz⟩ := h2 hl
        subst ed
        refine iteT ?_
        refine (ev_ix (ds := [.str c, .str z]) (K := K) (G := gS H6) (ev_var (i := 2) rfl) ev_int rfl) _ H7 e7 (s6.mono e7.tp) _ fun yv H8 e8 dy => ?_
        cases dy
        have hD8 : H8 D = some (SetSO P w D ws5) := e8 _ _ (e7 _ _ (e6 _ _ hws5))
        have l5 := sub3 nd5 sb5
        have e58 : Same H5 H8 := e6.trans (e7.trans e8)
        refine ⟨z, ws5, rfl, hD8, Nat.lt_of_le_of_lt (by omega : ws5.length + 1 ≤ 4) (by decide), dw1.keep _ _ (dw1.keep _ _ g5 e58.tp) (Tp.upd hD8 rfl), dw.keep _ _ (dw.keep _ _ gg5 e58.tp) (Tp.upd hD8 rfl), Same.upd (e5.trans e58) hD, _, upd_same, ?_, ?_⟩
        · split
          · exact nd5
          · rename_i hn
            exact List.nodup_cons.mpr ⟨hn, nd5⟩
        · split
          · exact sb5
          · intro y hy
            rcases List.mem_cons.mp hy with r | r
            · rw [r]; exact hz hoe
            · exact sb5 y r
      · rw [decide_eq_false (fun z => hl (by exact_mod_cast z))]
        have e57 : Same H5 H7 := e6.trans e7
        exact iteF ⟨dw1.keep _ _ g5 e57.tp, dw.keep _ _ gg5 e57.tp, e5.trans e57, ws5, e57 _ _ hws5, nd5, sb5⟩
    · have ej : j = es.length := by omega
      subst ej
      exact .inl ⟨dw1.walk.stops H5 g5, gg5, e5, ws5, hws5, nd5, sb5⟩
  · have ei : i = ns.length := by omega
    subst ei
    exact .inl ⟨dw.walk.stops H2 g2, q D ws H2 (e1.trans e2) hws (sub3 nd sb)⟩
theorem sc_words_of : FnScope ["nodes", "node", "step", "there"] ["nodes"] (defScope s_words_of) := ⟨rfl, rfl, rfl, by decide +kernel, rfl, by decide +kernel, by decide +kernel⟩
theorem ok_words_of (T : Tx w K mg) : FnN P w K mg base 2 a_words_of (fun vs H Q => ∃ v ns, vs = [v] ∧ DT K H v (gD encW ns) ∧ GOk WOk ns ∧ ∀ p ys H', Same H H' → H' p = some (.lst ys) → ys.length ≤ 3 → Q (.ref p) H') := by
  obtain ⟨fd, F⟩ := T.F_words_of
  refine F.okN rfl sc_words_of (fun _ _ _ _ _ _ us hl => match us, hl with | [_], _ => rfl) (fun vs H Q h => ?_) (fun A outer s H vs Q hr h => ⟨_, (pss_one (ps_ret (pe_callB (cr_sortT (by rfl)) (by rfl) T.z_sorted (by decide +kernel) (pa_cons (pe_sc2 (own := [("node", 1), ("step", 2), ("there", 3)]) (vs1 := [2, 3]) (g1 := gTup K 2 (gCons (gName 2) (gCons (gName 3) gNil))) (wi1 := iTup K (tVar 1)) (tt1 := tTest (tOp rEq (tCB (fun xs H Q => ∃ x n, xs = [x] ∧ LenV K x H n ∧ Q (.int n) H) (tCons (tVar 2) tNil)) (tC (.int 2)))) (te := tOp (rIxT K) (tVar 2) (tC (.int 1))) (by rfl) sc_words_of.nd (pi_tup (pv 0)) (blkOk_by (N := ["nodes", "node", "step", "there"]) (sc := defScope s_words_of) (by decide +kernel)) (by decide) (fun _ _ _ _ _ => by exact (pg_name (i := 1) sc_words_of.nd rfl (Or.inl rfl))) (fun _ _ _ _ _ => pts_nil) (fun _ _ _ _ _ => by exact (pi_tup (pv 1))) (fun _ _ _ _ _ => by exact (pg_tup rfl (pgs_cons (pg_name (i := 2) sc_words_of.nd rfl (Or.inl rfl)) (pgs_cons (pg_name (i := 3) sc_words_of.nd rfl (Or.inl rfl)) pgs_nil)))) (fun _ _ _ _ _ => pts_one (pt_cmpR op_eq (pe_callB call_len (by rfl) T.z_len PySem.boot_len (pa_cons (pv 2) pa_nil)) pe_int (nomark _))) (fun _ _ _ _ _ => (pe_ix ix_tup (pv 2) pe_int (fun _ _ => rfl)))) pa_nil)))), ?_⟩)
  · obtain ⟨v, ns, rfl, _⟩ := h
    rfl
  obtain ⟨v, ns, rfl, dv, g, q⟩ := h
  have s0 : DS K H (L2.start ["nodes", "node", "step", "there"] [v]) [.d (gD encW ns), .no, .no, .no] := .cons (s := .d _) ⟨v, rfl, dv⟩ (DS.nos 3)
  exact words_set (P := P) (w := w) (Q := fun x H1 => rSortT P w [x] H1 Q) dv g fun D ws H' e hD hl => ⟨D, ws, rfl, hD, by omega, fun ys p hy hp => q p _ _ (e.trans (Same.new hp)) upd_same (by rw [List.length_map]; omega)⟩
end
end KX
set_option maxHeartbeats 4000000
namespace KX
open PySem PySem.Spec PyProof.Rows L2
section
variable {P : Program} {w : World} {K : PySem.W.Frag} {mg : Str → Option Value} {base : Heap} {p : Addr}
theorem an_w (T : Tx w K mg) : FnN P w K mg base 4 a_are_nodes (fun vs H Q => ∃ v ns, vs = [v, .ref a_is_writer_step] ∧ DT K H v (gD encW ns) ∧ GOk WOk ns ∧ ∀ H', Same H H' → Q (.bl true) H') :=
  ok_are_nodes T ((ok_is_writer_step T).mono (by decide)) T.kp_is_writer_step encW WOk .again fun a ha => ⟨a, rfl, ha, rfl⟩
theorem sc_Writer_D_init_D : NdefX.NScope ["self", "nodes", "finals", "__class__"] ["self", "nodes", "finals"] ["__class__"] (defScope s_Writer_D_init_D) := NdefX.nscope_by (by decide +kernel)
theorem ok_Writer_D_init_D (T : Tx w K mg) (Pf : PF P) : FnN P w K mg base 5 m_Writer___init__ (spGI K a_Writer encW WOk fun _ => True) := by
  obtain ⟨fd, F⟩ := T.F_Writer_D_init_D
  refine F.okS rfl (T.sup_Writer.cell) sc_Writer_D_init_D (fun _ _ _ _ _ _ us hl => match us, hl with | [_, _, _], _ => rfl) (fun vs H Q h => ?_) (fun A outer s H vs Q hr h => ⟨_, (pat_cons (ps_if (PW.pt (pw_or (pt_not (pt_val (pe_cl (an_w T) (hr.mono (by decide)) T.kp_are_nodes T.g_are_nodes (pa_cons (pv 1) (pa_cons (pe_gr T.g_is_writer_step) pa_nil))))) (pw_or1 (pt_not (pt_val (pe_cl (ok_are_finals T) (hr.mono (by decide)) T.kp_are_finals T.g_are_finals (pa_cons (pv 2) (pa_cons (pe_callB call_len (by rfl) T.z_len PySem.boot_len (pa_cons (pv 1) pa_nil)) pa_nil)))))))) (pss_one ps_never) pss_nil) (pat_cons (ps_if (pt_cmpR op_gt (pe_callB call_len_seq (by rfl) T.z_len PySem.boot_len (pa_cons (pe_cl (ok_words_of T) (hr.mono (by decide)) T.kp_words_of T.g_words_of (pa_cons (pv 1) pa_nil)) pa_nil)) (pe_ci T.i_MOST_WORDS) (nomark _)) (pss_one ps_never) pss_nil) (pat_super T.sup_Writer Pf F (ok_Graph_D_init_D T) (hr.mono (by decide)) (pa_cons (pv 1) (pa_cons (pv 2) pa_nil)) pss_nil (by obtain ⟨_, F2⟩ := T.F_Graph_D_init_D; exact F2.fi) T.z_super T.stat rfl rfl rfl))), ?_⟩)
  · obtain ⟨x, dx, v1, v2, ns, fs, rfl, _⟩ := h
    rfl
  obtain ⟨x, dx, v1, v2, ns, fs, rfl, hx, d1, d2, g, f, _, q⟩ := h
  have s0 : DS K H (NdefX.startF ["self", "nodes", "finals", "__class__"] [.ref x, v1, v2] [none]) [.v (.ref x), .d (gD encW ns), .d (fD fs), .no] := .cons (s := .v _) rfl (.cons (s := .d _) ⟨v1, rfl, d1⟩ (.cons (s := .d _) ⟨v2, rfl, d2⟩ (.cons (s := .no) trivial .nil)))
  refine (?_ : StD K (gS H) _ _ _) _ H (Same.refl H) s0
  refine q_not (evt_oF (evt_nF (evt_test (ev_an (ev_var rfl) g))) (evt_nF (evt_test (ev_cl (eva_cons (ev_var rfl) (eva_cons (ev_len rfl (ev_var rfl)) eva_nil)) ⟨fs, ns.length, by rw [List.length_map], f, rfl⟩)))) ?_
  refine q_not (?_ : EvT K (gS H) _ _ false) ?_
  · intro σ H1 e1 s1 Q1 q1
    obtain ⟨u1, p1, t1⟩ := s1.d (i := 1) rfl
    refine ⟨u1, p1, u1, ns, rfl, t1, g, fun pp ys H2 e2 hp hl => ⟨pp, ys, rfl, .inl (SqL.of hp), _, _, rfl, rfl, _, rfl, ?_⟩⟩
    rw [decide_eq_false (by omega)]
    exact q1 H2 e2
  intro σ H1 e1 s1
  have e1 : Same H H1 := e1
  obtain ⟨u1, p1, t1⟩ := s1.d (i := 1) rfl
  obtain ⟨u2, p2, t2⟩ := s1.d (i := 2) rfl
  refine ⟨x, dx, [], s1.v rfl, e1 _ _ hx, u1, p1, u2, p2, x, _, dx, u1, u2, rfl, e1 _ _ hx, T.c_Writer, T.n_Writer_nodes, T.n_Writer_finals, ?_⟩
  refine q _ (fun b o hb hn => (upd_ne hn).trans (e1 _ _ hb)) ⟨dx, u1, u2, upd_same, ?_, ?_⟩
  · exact t1.mono (Tp.upd (e1 _ _ hx) rfl)
  · exact t2.mono (Tp.upd (e1 _ _ hx) rfl)
def spWS (K : PySem.W.Frag) : SpN := fun vs H Q => ∃ x v ns fs run, vs = [.ref x, v] ∧ GAt K H a_Writer encW x ns fs ∧ GOk WOk ns ∧ DT K H v (.tuple (run.map .int)) ∧ RunV false ns run ∧ run.length ≤ 900 ∧
    ∀ v H', Same H H' → DT K H' v (.tuple ((fol ns run).2.map (stD encW))) → Q v H'
theorem sc_Writer_steps : FnScope ["self", "run"] ["self", "run"] (defScope s_Writer_steps) := ⟨rfl, rfl, rfl, by decide +kernel, rfl, by decide +kernel, by decide +kernel⟩
theorem ok_Writer_steps (T : Tx w K mg) : FnN P w K mg base 3 m_Writer_steps (spWS K) := by
  obtain ⟨fd, F⟩ := T.F_Writer_steps
  refine F.okN rfl sc_Writer_steps (fun _ _ _ _ _ _ us hl => match us, hl with | [_, _], _ => rfl) (fun vs H Q h => ?_) (fun A outer s H vs Q hr h => ⟨_, (pss_one (ps_ret (pe_mt (ok_Graph_followed (enc := encW) T T.c_Writer T.n_Writer_nodes) (hr.mono (by decide)) T.c_Writer T.me_Writer_followed (pv 0) (pa_cons (pv 1) (pa_cons pe_bl pa_nil))))), ?_⟩)
  · obtain ⟨x, v, ns, fs, run, rfl, _⟩ := h
    rfl
  obtain ⟨x, v, ns, fs, run, rfl, ga, g, dr, rv, hn, q⟩ := h
  obtain ⟨dx, v1, v2, h1, h2, h3⟩ := id ga
  exact ⟨.ref x, rfl, x, dx, _, rfl, h1, rfl, v, rfl, x, v, _, ns, fs, run, false, rfl, ga, g, dr, rv, hn, fun v H' e t => q v H' e t⟩
end
end KX
set_option maxHeartbeats 4000000
namespace KX
open PySem PySem.Spec PyProof.Rows L2
abbrev NSt : Type := List (List (Str × Nat))
def Sx.told (s : Sx) : Sx := ⟨s.node, (toldP s.w).1, (toldP s.w).2⟩
def Sx.by (s : Sx) (e : Str × Nat) : Sx := ⟨e.2, (behindP e.1 s.w s.p).1, (behindP e.1 s.w s.p).2⟩
def Sx.bad (fs : List Nat) (s : Sx) : Bool := decide (s.node ∈ fs) && (decide (s.w.1 = 0) && (decide (s.p.1 = 0) && decide (s.p.2 = 0)))
def Sx.first : Sx := ⟨0, (0, 0, 0), (0, 0)⟩
def mv (ns : NSt) (s : Sx) (j : Nat) : List (Int × Sx) := (-1, s.told) :: (List.range j).map fun i : Nat => ((i : Int), s.by ((ns.getD s.node []).getD i ("", 0)))
def mvD (m : Int × Sx) : PyData := .tuple [.int m.1, m.2.d]
theorem mv_succ (ns : NSt) (s : Sx) (j : Nat) : mv ns s (j + 1) = mv ns s j ++ [((j : Int), s.by ((ns.getD s.node []).getD j ("", 0)))] := by
  unfold mv
  rw [List.range_succ, List.map_append] <;> rfl
/-- the moves out of a state -/
def mvs (ns : NSt) (s : Sx) : List (Int × Sx) := mv ns s (ns.getD s.node []).length
section
variable {P : Program} {w : World} {K : PySem.W.Frag} {mg : Str → Option Value} {base : Heap}
theorem sc_Question_first : FnScope ["self"] ["self"] (defScope s_Question_first) := ⟨rfl, rfl, rfl, by decide +kernel, rfl, by decide +kernel, by decide +kernel⟩
theorem ok_Question_first (T : Tx w K mg) : FnN P w K mg base 1 m_Question_first (spSt K fun ns fs ds r => ds = [] ∧ r = Sx.first.d) := by
  obtain ⟨fd, F⟩ := T.F_Question_first
  refine F.okN rfl sc_Question_first (fun _ _ _ _ _ _ us hl => match us, hl with | [_], _ => rfl) (fun vs H Q h => ?_) (fun A outer s H vs Q hr h => ⟨_, (pss_one (ps_ret (pe_tup (pa_cons pe_int (pa_cons pe_int (pa_cons pe_int (pa_cons pe_int (pa_cons pe_int (pa_cons pe_int pa_nil))))))))), ?_⟩)
  · obtain ⟨a, ns, fs, vs', ds, r, rfl, _, h1, ⟨rfl, _⟩, _⟩ := h
    exact congrArg Nat.succ h1.len
  obtain ⟨a, ns, fs, vs', ds, r, rfl, sa, hd, ⟨rfl, rfl⟩, q⟩ := h
  refine (?_ : StD K (gS H) _ _ _) _ H (Same.refl H) (DS.startM hd)
  exact st_ret (ev_tup (eva_cons ev_int (eva_cons ev_int (eva_cons ev_int (eva_cons ev_int (eva_cons ev_int (eva_cons ev_int eva_nil))))))) (rt_of q rfl)
theorem evv_graph {G : Gm} {ss : List SV} {a g : Addr} {ta : TE} (T : Tx w K mg) (h : EvV K G ta ss (.ref a)) (hi : ∀ H, G.p H → ∃ dx, H a = some (.ins a_Stale dx [("graph", .ref g)])) : EvV K G (tFld K ta "graph") ss (.ref g) :=
  evv_fld h fun H p => by
    obtain ⟨dx, h1⟩ := hi H p
    exact ⟨_, dx, _, h1, T.c_Stale, T.n_Stale_graph, rfl⟩
theorem sc_Stale_is_bad : FnScope ["self", "state", "node", "snapshot", "pending", "listens", "right", "waits"] ["self", "state"] (defScope s_Stale_is_bad) := ⟨rfl, rfl, rfl, by decide +kernel, rfl, by decide +kernel, by decide +kernel⟩
theorem ok_Stale_is_bad (T : Tx w K mg) : FnN P w K mg base 1 m_Stale_is_bad (spSt K fun ns fs ds r => ∃ x : Sx, ds = [x.d] ∧ r = .bool (x.bad fs)) := by
  obtain ⟨fd, F⟩ := T.F_Stale_is_bad
  refine F.okN rfl sc_Stale_is_bad (fun _ _ _ _ _ _ us hl => match us, hl with | [_, _], _ => rfl) (fun vs H Q h => ?_) (fun A outer s H vs Q hr h => ⟨_, (pss_cons (ps_asg (pv 1) (pg_tup rfl (pgs_cons (pg_name (i := 2) sc_Stale_is_bad.nd rfl (Or.inl rfl)) (pgs_cons (pg_name (i := 3) sc_Stale_is_bad.nd rfl (Or.inl rfl)) (pgs_cons (pg_name (i := 4) sc_Stale_is_bad.nd rfl (Or.inl rfl)) (pgs_cons (pg_name (i := 5) sc_Stale_is_bad.nd rfl (Or.inl rfl)) (pgs_cons (pg_name (i := 6) sc_Stale_is_bad.nd rfl (Or.inl rfl)) (pgs_cons (pg_name (i := 7) sc_Stale_is_bad.nd rfl (Or.inl rfl)) pgs_nil)))))))) (pss_one (ps_ret (pe_and (pe_cmpR op_in_seq (pv 2) (pe_fld (pe_fld (pv 0) rfl) rfl) rfl) (pe_and (pe_cmpR op_eq (pv 3) pe_int (nomark _)) (pe_and (pe_cmpR op_eq (pv 6) pe_int (nomark _)) (pe_one (pe_cmpR op_eq (pv 7) pe_int (nomark _))))))))), ?_⟩)
  · obtain ⟨a, ns, fs, vs', ds, r, rfl, _, h1, ⟨_, rfl, _⟩, _⟩ := h
    exact congrArg Nat.succ h1.len
  obtain ⟨a, ns, fs, vs', ds, r, rfl, ⟨dx, g, ha, hg⟩, hd, ⟨x, rfl, rfl⟩, q⟩ := h
  refine (?_ : StD K (gS H) _ _ _) _ H (Same.refl H) (DS.startM hd)
  refine q_unpack (is := [2, 3, 4, 5, 6, 7]) rfl rfl (ev_var rfl) rfl ?_
  refine st_ret (d := .bool (x.bad fs)) ?_ (rt_of q rfl)
  refine ev_to (ev_and (ev_inI (fs.map fun n => ((n : Nat) : Int)) (ev_var rfl) (ev_fld (evv_graph T (evv_var rfl) fun H' e => ⟨dx, e _ _ ha⟩) fun H' e => ?_)) fun _ => ev_and (ev_eqi (ev_var rfl) ev_int) fun _ => ev_and (ev_eqi (ev_var rfl) ev_int) fun _ => ev_eqi (ev_var rfl) ev_int) ?_
  · obtain ⟨d2, v1, v2, h1, h2, h3⟩ := hg.mono e
    exact ⟨_, d2, _, v2, h1, T.c_Mirror, T.n_Mirror_finals, rfl, h3⟩
  · unfold Sx.bad
    congr 1
    by_cases h : x.node ∈ fs
    · rw [decide_eq_true h, decide_eq_true (List.mem_map_of_mem h)]
    · rw [decide_eq_false h, decide_eq_false fun z => h (by
        obtain ⟨m, hm, e⟩ := List.mem_map.mp z
        have e2 : m = x.node := by omega
        exact e2 ▸ hm)]
theorem sc_Watch_moves : FnScope ["self", "state", "found", "work", "pair", "label", "step", "there"] ["self", "state"] (defScope s_Watch_moves) := ⟨rfl, rfl, rfl, by decide +kernel, rfl, by decide +kernel, by decide +kernel⟩
theorem ok_Watch_moves (T : Tx w K mg) : FnN P w K mg base 4 m_Watch_moves (fun vs H Q => ∃ a ns fs v ok x, vs = [.ref a, v] ∧ StA K H a ns fs ∧ GOk ok ns ∧ x.node < ns.length ∧ DT K H v x.d ∧ ∀ L H', Same H H' → H L = none → LsAt K L ((mvs ns x).map mvD) H' → Q (.ref L) H') := by
  obtain ⟨fd, F⟩ := T.F_Watch_moves
  refine F.okN rfl sc_Watch_moves (fun _ _ _ _ _ _ us hl => match us, hl with | [_, _], _ => rfl) (fun vs H Q h => ?_) (fun A outer s H vs Q hr h => ⟨_, (pss_cons (ps_asg (pe_mt (ok_Stale_told T) (hr.mono (by decide)) T.c_Stale T.me_Stale_told (pv 0) (pa_cons (pe_slice sl_tupA (pv 1) (po_some pe_int) (po_some pe_int)) (pa_cons (pe_slice sl_tupA (pv 1) (po_some pe_int) po_none) pa_nil))) (pg_tup rfl (pgs_cons (pg_name (i := 3) sc_Watch_moves.nd rfl (Or.inl rfl)) (pgs_cons (pg_name (i := 4) sc_Watch_moves.nd rfl (Or.inl rfl)) pgs_nil)))) (pss_cons (ps_set (i := 2) sc_Watch_moves.nd rfl (Or.inl rfl) (pe_lst (pa_cons (pe_tup (pa_cons (pe_ci T.i_OTHER) (pa_cons (pe_tup (pa_cons (pe_ix ix_tup (pv 1) pe_int (fun _ _ => rfl)) (StX.pa_star (pv 3) (StX.pa_star (pv 4) pa_nil)))) pa_nil))) pa_nil))) (pss_cons (ps_for PassesOwn.never rfl (pi_enumT (by rfl) T.z_enumerate (pa_cons (pe_ix ix_tup (pe_fld (pe_fld (pv 0) rfl) rfl) (pe_ix ix_tup (pv 1) pe_int (fun _ _ => rfl)) (fun _ _ => rfl)) pa_nil)) (pg_tup rfl (pgs_cons (pg_name (i := 5) sc_Watch_moves.nd rfl (Or.inl rfl)) (pgs_cons (pg_tup rfl (pgs_cons (pg_name (i := 6) sc_Watch_moves.nd rfl (Or.inl rfl)) (pgs_cons (pg_name (i := 7) sc_Watch_moves.nd rfl (Or.inl rfl)) pgs_nil))) pgs_nil))) (pss_cons (ps_asg (pe_mt (ok_Watch_behind T) (hr.mono (by decide)) T.c_Stale T.me_Stale_behind (pv 0) (pa_cons (pv 6) (pa_cons (pe_slice sl_tupA (pv 1) (po_some pe_int) (po_some pe_int)) (pa_cons (pe_slice sl_tupA (pv 1) (po_some pe_int) po_none) pa_nil)))) (pg_tup rfl (pgs_cons (pg_name (i := 3) sc_Watch_moves.nd rfl (Or.inl rfl)) (pgs_cons (pg_name (i := 4) sc_Watch_moves.nd rfl (Or.inl rfl)) pgs_nil)))) (pss_one (ps_expr (pe_bm PySem.F.plainAttrs_list PySem.F.slot_list_append PySem.F.type_list_append mt_append (pv 2) (pa_cons (pe_tup (pa_cons (pv 5) (pa_cons (pe_tup (pa_cons (pv 7) (StX.pa_star (pv 3) (StX.pa_star (pv 4) pa_nil)))) pa_nil))) pa_nil)))))) (pss_one (ps_ret (pv 2)))))), ?_⟩)
  · obtain ⟨a, ns, fs, v, ok, x, rfl, _⟩ := h
    rfl
  obtain ⟨a, ns, fs, v, ok, x, rfl, sa, g, hx, dx, q⟩ := h
  refine (?_ : StD K (gS H) _ _ _) _ H (Same.refl H) (DS.startM (DTs.one dx))
  have sm : ∀ H', Same H H' → StA K H' a ns fs := fun H' e => sa.mono e
  refine q_unpack (is := [3, 4]) (ds := [wD (toldP x.w).1, pD (toldP x.w).2]) rfl rfl (ev_st (evv_var rfl) sm (eva_cons (ev_to' (ev_slice (lo := some 1) (hi := some 4) (ev_var rfl) (evo_some ev_int) (evo_some ev_int)) rfl) (eva_cons (ev_to' (ev_slice (lo := some 4) (hi := none) (ev_var rfl) (evo_some ev_int) evo_none) rfl) eva_nil)) ⟨x.w, x.p, rfl, rfl⟩) rfl ?_
  refine q_list1 (d := mvD (-1, x.told)) (ev_tup (eva_cons (ev_cst fun _ => .int _) (eva_cons (ev_tup (eva_cons (ev_ix (ds := [.int (x.node : Nat), .int x.w.1, .int x.w.2.1, .int x.w.2.2, .int x.p.1, .int x.p.2]) (ev_var rfl) ev_int rfl) (eva_starE (ev_var rfl) (eva_starE (ev_var rfl) eva_nil rfl) rfl))) eva_nil))) fun H1 L e1 hL => ?_
  have e1 : Same H H1 := e1
  obtain ⟨d0, gg, ha, hg⟩ := sa.mono e1
  have hnd := atI_map (h := fun es : List (Str × Nat) => PyData.tuple (es.map fun e => .tuple [.str e.1, .int (e.2 : Nat)])) [] hx
  have hes : ∀ j, (mv ns x j).length ≤ j + 1 := fun j => by simp [mv]
  have hwid := g.three _ (getD_mem' (l := ns) (i := x.node) [] hx)
  refine q_forX (fun _ => [.v (.ref a), .d x.d, .v (.ref L), .no, .no, .no, .no, .no]) (fun j => [.v (.ref a), .d x.d, .v (.ref L), .no, .no, .d (.int (j : Nat)), .d (.str ((ns.getD x.node []).getD j ("", 0)).1), .d (.int (((ns.getD x.node []).getD j ("", 0)).2 : Nat))]) (fun j => gL K H1 L ((mv ns x j).map mvD))
    (evw_enumT (h := fun e : Str × Nat => PyData.tuple [.str e.1, .int (e.2 : Nat)]) ("", 0) (ev_ix (ev_fld (evv_graph T (evv_var rfl) fun H' g' => ⟨d0, g'.1 _ _ ha⟩) fun H' g' => ?_) (ev_ix (ds := [.int (x.node : Nat), .int x.w.1, .int x.w.2.1, .int x.w.2.2, .int x.p.1, .int x.p.2]) (ev_var rfl) ev_int rfl) hnd)) (fun j hj => tg_tup (tgs_cons tg_name (tgs_cons (tg_tup (tgs_cons tg_name (tgs_cons tg_name tgs_nil)) rfl) tgs_nil)) rfl) ⟨.inr rfl, .inr rfl, .inr rfl, .inl rfl, .inl rfl, .inr rfl, .inr rfl, .inr rfl, trivial⟩ (fun _ z => z) (fun Gh kp j hj => ?_) ?_
  · obtain ⟨d2, v1, v2, h1, h2, h3⟩ := hg.mono g'.1
    exact ⟨_, d2, _, v1, h1, T.c_Mirror, T.n_Mirror_nodes, rfl, h2⟩
  · generalize hE : (ns.getD x.node []).getD j ("", 0) = e
    have hms := mv_succ ns x j
    rw [hE] at hms
    refine q_unpack (is := [3, 4]) (ds := [wD (behindP e.1 x.w x.p).1, pD (behindP e.1 x.w x.p).2]) rfl rfl (ev_st (evv_var rfl) (fun H' g' => sm H' (e1.trans g'.1.1)) (eva_cons (ev_var rfl) (eva_cons (ev_to' (ev_slice (lo := some 1) (hi := some 4) (ev_var rfl) (evo_some ev_int) (evo_some ev_int)) rfl) (eva_cons (ev_to' (ev_slice (lo := some 4) (hi := none) (ev_var rfl) (evo_some ev_int) evo_none) rfl) eva_nil))) ⟨e.1, x.w, x.p, rfl, rfl⟩) rfl ?_
    refine s_app (L := L) (ds := (mv ns x j).map mvD) (d := mvD ((j : Int), x.by e)) (G2 := (gL K H1 L ((mv ns x (j + 1)).map mvD)).and Gh fun H H' p e => kp H H' p e.tp) (ev_tup (eva_cons (ev_var rfl) (eva_cons (ev_tup (eva_cons (ev_var rfl) (eva_starE (ev_var rfl) (eva_starE (ev_var rfl) eva_nil rfl) rfl))) eva_nil))) rfl (fun H' g' => g'.1.2) ?_ (fun H2 vs v g2 hv hd => ?_) (st_nxV rfl ⟨.inr rfl, .inr rfl, .inr rfl, .inl rfl, .inl rfl, .inl rfl, .inl rfl, .inl rfl, trivial⟩)
    · have h1 := hes j
      rw [List.length_map]
      omega
    · refine ⟨⟨Same.upd g2.1.1 hL, _, upd_same, ?_⟩, kp _ _ g2.2 (Tp.upd hv rfl)⟩
      rw [hms, List.map_append]
      exact hd
  · exact s_retL rfl fun H' g' => q L H' (e1.trans g'.1) (e1.free hL) g'.2
end
end KX
set_option maxHeartbeats 4000000
namespace KX
open PySem PySem.Spec PyProof.Rows L2 RZ
/-! ### {k: v}, k a tuple -/
def tDisp1T (tk tv : TE) : TE := fun σ H Q => ∀ p, H p = none → tk σ (upd H p (.dT [])) fun y H1 => tv σ H1 fun z H2 => ∃ (ks : List L2.Key) (b : Addr), y = .ref b ∧ H2 p = some (.dT []) ∧ H2 b = some (.tup (ks.map kV)) ∧ Q (.ref p) (upd H2 p (.dT [(ks, z)]))
theorem pe_disp1T {X : Cx} {pos : Pos} {k v : Expr} {tk tv : TE} (hu : X.A.units + 1 < cLine) (hk : PE X k tk) (hv : PE X v tv) : PE X (.Dict [some k] [v] pos) (tDisp1T tk tv) := by
  refine ⟨fun pins s σ H Q I q => ?_⟩
  have hn := I.hok.fresh (Nat.le_refl s.heap.objs.size)
  have I1 := I.laid (a := s.heap.objs.size) (o := .dT []) (h' := s.heap.push { cls := .type "dict", data := .dict #[] }) (t' := s.toks) (fun _ _ q => Heap.get?_push_of_some _ q) (Nat.le_refl _) (dt_empty s.heap I.big)
  rw [arm_eval_Dict, zip_pairTrees [some k] [v] X.env pos rfl rfl, dictDisplay_pairs _ (by intro z; cases z) (Nat.le_of_ble_eq_true rfl)]
  refine wpAny_bind (wpAny_standAt (wpAny_bind ?_))
  unfold subDict
  refine wpAny_bind (wpAny_alloc ?_)
  refine wpAny_bind (wpAny_holding ?_)
  rw [if_pos (show (pairTrees [some k] [v] X.env pos).length ≤ 15 from Nat.le_of_ble_eq_true rfl)]
  refine wpAny_bind ?_
  refine pairTrees_cons_walk (thn (hk.run pins _ σ _ _ I1 (q _ hn)) fun u1 s1 ⟨y, H1, I2, r1, q1⟩ => thn (hv.run pins s1 σ H1 _ I2 q1) fun u2 s2 ⟨z, H2, I3, r2, ks, b, ey, hp, hb, q2⟩ => pairTrees_nil_walk ?_)
  subst ey
  cases (show u1 = Value.ref b from r1)
  obtain ⟨_, hd, xs, rel, dd⟩ := dt_of I3.hok hp
  cases rel
  refine wpAny_holding ?_
  rw [List.forIn_cons]
  refine wpAny_bind (wpAny_bind (wpAny_bind ?_))
  refine wpAny_dictSet_heap (hsz := Nat.zero_le _) (show X.A.units < cLine by omega) (key_of I3.hok hb) dd fun h' dd' hs => wpAny_pure ?_
  dsimp only
  rw [List.forIn_nil]
  refine wpAny_pure (wpAny_pure (wpAny_pure (wpAny_pure ⟨.ref s.heap.objs.size, _, ?_, rfl, q2⟩)))
  obtain ⟨q, es, ep, hq, h2, h3, h4, _, h5⟩ := dd'
  have rl : KT H2 [(ks, z)] (storedH [] ks b u2) := KT.put (kvs := []) .nil ks hb r2
  refine d_write I3 (by rw [hp]; exact True.intro) hs ⟨q, hq⟩ ⟨Nat.le_of_ble_eq_true rfl, hd, _, rl.keeps fun c ys ec => ?_, q, es, ep, hq, h2, h3, h4, h5⟩
  rw [upd_ne (ne_of ec hp (fun z => nomatch z))]
  exact ec
/-! ### for k, v in d.items(), keys that are tuples -/
def ItiT (d : Addr) (o : Obj) (kvs : List (List L2.Key × V)) : It :=
  ⟨fun i H => H d = some (.frz o (.dT kvs)) ∧ i < kvs.length, fun i H x H' => ∃ T k v b, kvs[i]? = some (k, v) ∧ x = .ref T ∧ H T = none ∧ H b = some (.tup (k.map kV)) ∧ H' = upd H T (.tup [.ref b, v]), fun i H => H d = some (.frz o (.dT kvs)) ∧ kvs.length ≤ i⟩
theorem frzTv {X : Cx} {pins : List (Addr × Obj)} {σ : L2.St} {H : Hp} {s : Shared} {d : Addr} {o : Obj} {kvs : List (List L2.Key × V)} (I : Inv X pins σ H s) (h : H d = some (.frz o (.dT kvs))) :
    (d == sysModules) = false ∧ s.heap.get? d = some o ∧ o.ExactDict ∧ ∃ (es : Array DictEntry) (ep : Nat), o.data = .dict es ep ∧ es.size = kvs.length ∧
      ∀ (i : Nat) (k : List L2.Key) (v : V), kvs[i]? = some (k, v) → ∃ (en : DictEntry) (q : Addr), es[i]? = some en ∧ en.key = .ref q ∧ H q = some (.tup (k.map kV)) ∧ RelV v en.val := by
  obtain ⟨hd, z, hs, xs, pr, o', es, ep, ho, hx, hdt, he, _⟩ := I.hok d _ h
  rw [hd] at ho
  cases ho
  refine ⟨hs, hd, hx, es, ep, hdt, ?_, fun i k v e => ?_⟩
  · have l1 : es.size = xs.length := size_of_entries he
    have l2 : kvs.length = xs.length := Paired.length pr
    omega
  · obtain ⟨b, hb, e1, e2, e3⟩ := paired_get pr e
    have q := entry_at he i
    rw [hb] at q
    exact ⟨_, b.2.1, q, rfl, e2, e3⟩
theorem turn_itemsT {P : Program} {w : World} {K : PySem.W.Frag} {d : Addr} {o : Obj} {es : Array DictEntry} {ep : Nat} {kvs : List (List L2.Key × V)} {elts : List Expr} {kk : Nat} {tpos : Pos} (it : Addr) (hod : o.data = .dict es ep) :
    Turn P w K (.Tuple elts kk tpos) (ItiT d o kvs) [it] it (fun i h => ∃ ok ov, IsItemIter h it d i es.size ep ok ov) where
  mem := by simp
  obj := fun i h st b hb => by
    have e : b = it := by simpa using hb
    subst e
    obtain ⟨ok, ov, e⟩ := st
    exact ⟨_, e, fun v z => nomatch z⟩
  keep := fun i h h' st k => let ⟨ok, ov, e⟩ := st; ⟨ok, ov, k it (by simp) _ e⟩
  item := by
    intro X hP hw hK hc i pins s σ H E I hf st hg
    subst hP hw hK
    obtain ⟨hd, hi⟩ := hg
    obtain ⟨hs, hgd, hx, es', ep', hdt, hsz, ent⟩ := frzTv I hd
    obtain ⟨rfl, rfl⟩ := dict_ep hod hdt
    obtain ⟨⟨k, v⟩, hkv⟩ : ∃ p, kvs[i]? = some p := ⟨kvs[i], List.getElem?_eq_getElem hi⟩
    obtain ⟨en, q, hen, hkey, hq, rv⟩ := ent i k v hkv
    obtain ⟨ok, ov, he⟩ := st
    have hlt : it < s.heap.objs.size := Heap.lt_size he
    have hi2 : i < es'.size := by rw [hsz]; exact hi
    have hen2 : es'[i] = en := by
      rw [Array.getElem?_eq_getElem hi2] at hen
      exact Option.some.inj hen
    refine DT.nextI he ⟨o, hgd, hx, hdt⟩ hi2 fun h' ho hT hz hk => ?_
    rw [hen2, hkey] at ho hT
    refine ⟨_, rfl, wpAny_letOwnedTupleGo_items (s := { s with heap := h' }) ho fun h'' he' sb => ?_⟩
    have hT2 : h''.get? s.heap.objs.size = some { cls := .type "tuple", data := .seq #[.ref q, en.val] } := (sb.2 _ (Nat.ne_of_gt hlt)).trans hT
    have new : ObjOk X.prog X.w (upd H s.heap.objs.size (.tup [.ref q, v])) h'' s.heap.objs.size (.tup [.ref q, v]) :=
      ⟨by show 2 ≤ sizeLine; decide, [.ref q, en.val], .cons rfl (.cons rv .nil), ⟨_, hT2, rfl, _, rfl⟩⟩
    have I1 : Inv X pins σ (upd H s.heap.objs.size (.tup [.ref q, v])) { s with heap := h'' } :=
      I.turnedNew (t' := s.toks) (ch := [it]) (fun b ob hb e => (sb.2 b (by simpa using hb)).trans (hk b ob (by simpa using hb) e)) hf (Nat.le_refl _) new
    refine ⟨.ref s.heap.objs.size, _, I1, rfl, ⟨_, k, v, q, hkv, rfl, I.hok.fresh (Nat.le_refl _), hq, rfl⟩, ⟨_, _, he'⟩, fun b hb => ?_⟩
    have e : b = it := by simpa using hb
    rw [e, upd_ne (Nat.ne_of_lt hlt)]
    exact (hf it (by simp)).1
  done := by
    intro X hP hw hK hc i pins s σ H E I hf st hg
    subst hP hw hK
    obtain ⟨hd, hi⟩ := hg
    obtain ⟨f0, f1, f2, f3, f4, f5⟩ := hf it (by simp)
    obtain ⟨hs, hgd, hx, es', ep', hdt, hsz, ent⟩ := frzTv I hd
    obtain ⟨rfl, rfl⟩ := dict_ep hod hdt
    obtain ⟨ok, ov, he⟩ := st
    exact DT.endI (I.ok.hd hc) he ⟨o, hgd, hx, hdt⟩ (by omega) fun h' eb => ⟨rfl, I.turned (t' := s.toks) (fun b ob hb e => eb b ob hb e) f0 f1 f3 f4 f5⟩
  self := fun A i s Q E st h => let ⟨_, _, e⟩ := st; PySem.W.kcp_self e h
/-- a new dict's items: it is locked from here on -/
def iItemsT (td : TE) : TI := fun σ H R => td σ H fun x H1 => ∃ d kvs, x = .ref d ∧ H1 d = some (.dT kvs) ∧ ∀ od, R (ItiT d od kvs) (upd H1 d (.frz od (.dT kvs)))
theorem pi_itemsT {X : Cx} {e : Expr} {td : TE} {apos cpos : Pos} {elts : List Expr} {kk : Nat} {tpos : Pos} (he : PE X e td) (hbase : attributeBase e "items" X.env (eval e X.env) = eval e X.env := by rfl) (hline : (apos.endLine == cpos.line) = true := by rfl) :
    PI X (.Tuple elts kk tpos) (.Call (.Attribute e "items" apos) [] [] cpos) (iItemsT td) := by
  refine ⟨fun pins s σ H R I h => ?_⟩
  refine wpAny_Call_method (T := "dict") (id := "dict.items") hbase rfl hline F.plainAttrs_dict F.slot_dict_items F.type_dict_items (thn (he.run pins s σ H _ I h) fun u s1 ⟨x, H1, I1, rx, d, kvs, ex, hd, q⟩ => ?_)
  subst ex
  obtain rfl : u = Value.ref d := rx
  obtain ⟨od, I2⟩ := I1.lock hd True.intro
  obtain ⟨hs, hgd, hx, es, ep, hdt, hsz, ent⟩ := frzTv I2 upd_same
  obtain ⟨_, _, xs, rel, dd⟩ := dt_of I1.hok hd
  obtain ⟨o2, _, _, ho2, _⟩ := id dd
  refine ⟨⟨_, hgd, hx.1⟩, fun b e => ?_, ?_⟩
  · cases e
    exact ⟨_, hgd, hx.2.1⟩
  have I3 : Inv X pins σ (upd H1 d (.frz od (.dT kvs))) { s1 with heap := s1.heap.push { cls := .type "dict_items", data := .fields #[.ref d] } } := I2.kept (t' := s1.toks) fun b ob q => Heap.get?_push_of_some _ q
  have hgd3 : (s1.heap.push ({ cls := .type "dict_items", data := .fields #[.ref d] } : Obj)).get? d = some od := Heap.get?_push_of_some _ hgd
  have fin : wpAny (model X.prog X.w) X.A (pyIter (.ref s1.heap.objs.size)) (PIE X pins σ (.Tuple elts kk tpos) R) X.xe { s1 with heap := s1.heap.push { cls := .type "dict_items", data := .fields #[.ref d] } } := by
    refine DT.iterI (d := d) (es := es) (ep := ep) ⟨_, Heap.get?_push_size _ rfl, rfl, rfl⟩ ⟨od, hgd3, hx, hdt⟩ (pi_one (tk := s1.toks) I3 _ (turn_itemsT _ hdt) ⟨.none, .none, Heap.get?_push_size _ rfl⟩ (q od))
  show wpAny _ _ (callWith cpos (.builtin "dict.items") [.ref d] [] []) _ X.xe s1
  exact method_meetsIn F.slot_dict_items F.entry_dict_items rfl (PySem.evalArgs_none ⟨rfl, ⟨_, hgd, hx.1⟩, F.args_dict_items_1 _, _, DT.meetsItems (es := es) (ep := ep) hs, ⟨od, hgd, hx, hdt⟩, fin⟩)
theorem walk_itemsT {d : Addr} {o : Obj} {kvs : List (List L2.Key × V)} : Walk (ItiT d o kvs) kvs.length (fun H => H d = some (.frz o (.dT kvs))) (fun i H x H' => ∃ T k v b, kvs[i]? = some (k, v) ∧ x = .ref T ∧ H T = none ∧ H b = some (.tup (k.map kV)) ∧ H' = upd H T (.tup [.ref b, v])) :=
  ⟨fun _ _ hi q => ⟨q, hi⟩, fun _ q => ⟨q, Nat.le_refl _⟩, fun _ _ _ _ _ _ y => y⟩
end KX
set_option maxHeartbeats 4000000
namespace KX
open PySem PySem.Spec PyProof.Rows L2
/-! ### the states that can be reached -/
theorem nodup_lt : ∀ (N : Nat) (l : List Nat), l.Nodup → (∀ x ∈ l, x < N) → l.length ≤ N
  | 0, l, _, h => by
    cases l with
    | nil => exact Nat.le_refl 0
    | cons a l => exact absurd (h a List.mem_cons_self) (Nat.not_lt_zero a)
  | N + 1, l, nd, h => by
    have h2 := nodup_lt N (l.erase N) (nd.erase N) fun x hx => by
      have h3 := (List.Nodup.mem_erase_iff nd).mp hx
      have h4 := h x h3.2
      have h5 := h3.1
      omega
    by_cases hm : N ∈ l
    · rw [List.length_erase_of_mem hm] at h2
      omega
    · rw [List.erase_of_not_mem hm] at h2
      omega
structure InR (n : Nat) (s : Sx) : Prop where
  node : s.node < n
  a : 0 ≤ s.w.1 ∧ s.w.1 ≤ 2
  b : 0 ≤ s.w.2.1 ∧ s.w.2.1 ≤ 2
  c : 0 ≤ s.w.2.2 ∧ s.w.2.2 ≤ 1
  d : 0 ≤ s.p.1 ∧ s.p.1 ≤ 1
  e : 0 ≤ s.p.2 ∧ s.p.2 ≤ 1
def Sx.code (s : Sx) : Nat := ((((s.node * 3 + s.w.1.toNat) * 3 + s.w.2.1.toNat) * 2 + s.w.2.2.toNat) * 2 + s.p.1.toNat) * 2 + s.p.2.toNat
theorem digit2 {a b c d : Nat} (h : a * 2 + b = c * 2 + d) (hb : b < 2) (hd : d < 2) : a = c ∧ b = d := by omega
theorem digit3 {a b c d : Nat} (h : a * 3 + b = c * 3 + d) (hb : b < 3) (hd : d < 3) : a = c ∧ b = d := by omega
theorem nat_lt {x : Int} {n : Nat} (h : x ≤ (n : Int)) : x.toNat < n + 1 := by omega
theorem nat_eq {x y : Int} (hx : 0 ≤ x) (hy : 0 ≤ y) (h : x.toNat = y.toNat) : x = y := by omega
theorem code_inj {n m : Nat} {s t : Sx} (a : InR n s) (b : InR m t) (e : s.code = t.code) : s = t := by
  obtain ⟨sn, ⟨s1, s2, s3⟩, ⟨s4, s5⟩⟩ := s
  obtain ⟨tn, ⟨t1, t2, t3⟩, ⟨t4, t5⟩⟩ := t
  obtain ⟨_, a1, a2, a3, a4, a5⟩ := a
  obtain ⟨_, b1, b2, b3, b4, b5⟩ := b
  have h5 := digit2 e (nat_lt a5.2) (nat_lt b5.2)
  have h4 := digit2 h5.1 (nat_lt a4.2) (nat_lt b4.2)
  have h3 := digit2 h4.1 (nat_lt a3.2) (nat_lt b3.2)
  have h2 := digit3 h3.1 (nat_lt a2.2) (nat_lt b2.2)
  have h1 := digit3 h2.1 (nat_lt a1.2) (nat_lt b1.2)
  have e1 : sn = tn := h1.1
  have e2 : s1 = t1 := nat_eq a1.1 b1.1 h1.2
  have e3 : s2 = t2 := nat_eq a2.1 b2.1 h2.2
  have e4 : s3 = t3 := nat_eq a3.1 b3.1 h3.2
  have e5 : s4 = t4 := nat_eq a4.1 b4.1 h4.2
  have e6 : s5 = t5 := nat_eq a5.1 b5.1 h5.2
  subst e1 e2 e3 e4 e5 e6
  rfl
theorem up2 {a b m : Nat} (h : a < m) (hb : b < 2) : a * 2 + b < m * 2 := by omega
theorem up3 {a b m : Nat} (h : a < m) (hb : b < 3) : a * 3 + b < m * 3 := by omega
theorem code_lt {n : Nat} {s : Sx} (a : InR n s) : s.code < n * 3 * 3 * 2 * 2 * 2 :=
  up2 (up2 (up2 (up3 (up3 a.node (nat_lt a.a.2)) (nat_lt a.b.2)) (nat_lt a.c.2)) (nat_lt a.d.2)) (nat_lt a.e.2)
theorem few_states {n : Nat} {S : List Sx} (nd : S.Nodup) (h : ∀ s ∈ S, InR n s) : S.length ≤ n * 3 * 3 * 2 * 2 * 2 := by
  have q := nodup_lt (n * 3 * 3 * 2 * 2 * 2) (S.map Sx.code) ?_ fun x hx => ?_
  · rw [List.length_map] at q
    exact q
  · refine List.Pairwise.map Sx.code (S := fun a b => a ≠ b) (R := fun s t : Sx => s ≠ t ∧ InR n s ∧ InR n t) (fun s t ⟨h1, h2, h3⟩ e => h1 (code_inj h2 h3 e)) ?_
    exact List.Pairwise.imp_of_mem (fun ha hb hab => ⟨hab, h _ ha, h _ hb⟩) nd
  · obtain ⟨s, hs, e⟩ := List.mem_map.mp hx
    rw [← e]
    exact code_lt (h s hs)
theorem inr_first {n : Nat} (h : 1 ≤ n) : InR n Sx.first := ⟨h, by decide, by decide, by decide, by decide, by decide⟩
theorem inr_told {n : Nat} {s : Sx} (h : InR n s) : InR n s.told := by
  obtain ⟨h0, a1, a2, a3, a4, a5⟩ := h
  refine ⟨h0, ?_, a2, a3, ⟨Int.le_refl 0, Int.le_of_lt Int.zero_lt_one⟩, a3⟩
  show 0 ≤ (if 0 < s.w.1 then (2 : Int) else 0) ∧ (if 0 < s.w.1 then (2 : Int) else 0) ≤ 2
  split <;> decide
structure InW (x : W3 × P2) : Prop where
  a : 0 ≤ x.1.1 ∧ x.1.1 ≤ 2
  b : 0 ≤ x.1.2.1 ∧ x.1.2.1 ≤ 2
  c : 0 ≤ x.1.2.2 ∧ x.1.2.2 ≤ 1
  d : 0 ≤ x.2.1 ∧ x.2.1 ≤ 1
  e : 0 ≤ x.2.2 ∧ x.2.2 ≤ 1
theorem z01 : (0 : Int) ≤ 0 ∧ (0 : Int) ≤ 1 := ⟨Int.le_refl 0, Int.le_of_lt Int.zero_lt_one⟩
theorem z02 : (0 : Int) ≤ 0 ∧ (0 : Int) ≤ 2 := by decide
theorem z11 : (0 : Int) ≤ 1 ∧ (1 : Int) ≤ 1 := by decide
theorem z12 : (0 : Int) ≤ 1 ∧ (1 : Int) ≤ 2 := by decide
theorem z22 : (0 : Int) ≤ 2 ∧ (2 : Int) ≤ 2 := by decide
theorem inw_alone {z : Str} {w : W3} {p : P2} (h : InW (w, p)) : InW (aloneP z w.2.2 p) := by
  unfold aloneP
  by_cases h1 : z = "begin"
  · rw [if_pos h1]; exact ⟨z12, z02, h.c, h.d, h.e⟩
  rw [if_neg h1]
  by_cases h2 : z = "listen"
  · rw [if_pos h2]; exact ⟨z02, z02, z11, h.d, h.e⟩
  rw [if_neg h2]
  by_cases h3 : z = "unlisten"
  · rw [if_pos h3]; exact ⟨z02, z02, z01, h.d, z01⟩
  rw [if_neg h3]
  by_cases h4 : z = "receive"
  · rw [if_pos h4]
    unfold receivedP
    by_cases h5 : p.2 = 1
    · rw [if_pos h5]; exact ⟨z02, z02, h.c, z11, z01⟩
    · rw [if_neg h5]; exact ⟨z02, z02, h.c, h.d, h.e⟩
  rw [if_neg h4]; exact ⟨z02, z02, h.c, h.d, h.e⟩
theorem inw_within {z : Str} {w : W3} {p : P2} (h : InW (w, p)) : InW (withinP z w p) := by
  unfold withinP
  by_cases h1 : z = "rollback"
  · rw [if_pos h1]; exact ⟨z02, z02, h.c, h.d, h.e⟩
  rw [if_neg h1]
  by_cases h2 : z = "listen"
  · rw [if_pos h2]; exact ⟨h.a, z12, h.c, h.d, h.e⟩
  rw [if_neg h2]
  by_cases h3 : z = "unlisten"
  · rw [if_pos h3]; exact ⟨h.a, z22, h.c, h.d, h.e⟩
  rw [if_neg h3]
  by_cases h4 : z = "commit"
  · rw [if_pos h4]
    by_cases h5 : w.2.1 = 2
    · rw [if_pos h5]; exact ⟨z02, z02, z01, h.d, z01⟩
    · rw [if_neg h5]
      by_cases h6 : w.2.1 = 1
      · rw [if_pos h6]; exact ⟨z02, z02, z11, h.d, h.e⟩
      · rw [if_neg h6]; exact ⟨z02, z02, h.c, h.d, h.e⟩
  rw [if_neg h4]; exact h
theorem inw_behind {z : Str} {w : W3} {p : P2} (h : InW (w, p)) : InW (behindP z w p) := by
  unfold behindP
  by_cases h1 : z = "disconnect"
  · rw [if_pos h1]; exact ⟨z02, z02, z01, h.d, z01⟩
  rw [if_neg h1]
  by_cases h2 : z = "read"
  · rw [if_pos h2]
    unfold copiedP
    by_cases h3 : w.1 = 2
    · rw [if_pos h3]; exact ⟨h.a, h.b, h.c, z01, h.e⟩
    · rw [if_neg h3]; exact ⟨h.a, h.b, h.c, z11, h.e⟩
  rw [if_neg h2]
  by_cases h3 : w.1 = 0
  · rw [if_pos h3]; exact inw_alone h
  · rw [if_neg h3]; exact inw_within h
theorem inr_by {n : Nat} {s : Sx} {e : Str × Nat} (h : InR n s) (he : e.2 < n) : InR n (s.by e) := by
  have q : InW (behindP e.1 s.w s.p) := inw_behind ⟨h.a, h.b, h.c, h.d, h.e⟩
  exact ⟨he, q.a, q.b, q.c, q.d, q.e⟩
theorem inr_mvs {ok : Str → Prop} {ns : NSt} {s : Sx} (g : GOk ok ns) (h : InR ns.length s) : ∀ m ∈ mvs ns s, InR ns.length m.2 := fun m hm => by
  unfold mvs mv at hm
  rcases List.mem_cons.mp hm with e | hm
  · rw [e]
    exact inr_told h
  · obtain ⟨i, hi, e⟩ := List.mem_map.mp hm
    rw [← e]
    refine inr_by h ?_
    have hi := List.mem_range.mp hi
    exact g.there _ (getD_mem' _ h.node) _ (getD_mem' _ hi)
def Sx.key (s : Sx) : List L2.Key := [.inl (s.node : Int), .inl s.w.1, .inl s.w.2.1, .inl s.w.2.2, .inl s.p.1, .inl s.p.2]
theorem key_inj {s t : Sx} (e : s.key = t.key) : s = t := by
  obtain ⟨sn, ⟨s1, s2, s3⟩, ⟨s4, s5⟩⟩ := s
  obtain ⟨tn, ⟨t1, t2, t3⟩, ⟨t4, t5⟩⟩ := t
  unfold Sx.key at e
  simp only [List.cons.injEq, Sum.inl.injEq, and_true] at e
  obtain ⟨e1, e2, e3, e4, e5, e6⟩ := e
  have e1 : sn = tn := by omega
  subst e1 e2 e3 e4 e5 e6
  rfl
theorem DT.key {K : PySem.W.Frag} {H : Hp} {v : V} {s : Sx} (h : DT K H v s.d) : ∃ b, v = .ref b ∧ H b = some (.tup (s.key.map kV)) := by
  cases h with
  | tup sq ts => exact ⟨_, rfl, by rw [sq, ts.flat (as := s.key.map kV) rfl]⟩
theorem DT.ofKey {K : PySem.W.Frag} {H : Hp} {b : Addr} {s : Sx} (h : H b = some (.tup (s.key.map kV))) : DT K H (.ref b) s.d :=
  .tup h (.cons (.int _) (.cons (.int _) (.cons (.int _) (.cons (.int _) (.cons (.int _) (.cons (.int _) .nil))))))
/-- closed, with the first state in it -/
structure Cl (ns : NSt) (S : List Sx) : Prop where
  first : Sx.first ∈ S
  node : ∀ s ∈ S, s.node < ns.length
  cl : ∀ s ∈ S, ∀ m ∈ mvs ns s, m.2 ∈ S
/-- no run is stale -/
def Never (ns : NSt) (fs : List Nat) : Prop := ∃ S, Cl ns S ∧ ∀ s ∈ S, s.bad fs = false
/-- the walk's own objects -/
structure RI (K : PySem.W.Frag) (H0 : Hp) (F L : Addr) (S : List Sx) (H : Hp) : Prop where
  same : Same H0 H
  ln : LsAt K L (S.map Sx.d) H
  fd : ∃ kvs, H F = some (.dT kvs) ∧ kvs.map (·.1) = S.map Sx.key ∧ ∀ p ∈ kvs, ∃ b ys, p.2 = .ref b ∧ H b = some (.tup ys) ∧ ys.length ≤ S.length
theorem RI.mono {K : PySem.W.Frag} {H0 H H' : Hp} {F L : Addr} {S : List Sx} (r : RI K H0 F L S H) (e : Same H H') : RI K H0 F L S H' := by
  obtain ⟨kvs, h1, h2, h3⟩ := r.fd
  exact ⟨r.same.trans e, r.ln.mono e, kvs, e _ _ h1, h2, fun p hp => by
    obtain ⟨b, ys, e1, e2, e3⟩ := h3 p hp
    exact ⟨b, ys, e1, e _ _ e2, e3⟩⟩
theorem valV_keys {kvs : List (List L2.Key × V)} {S : List Sx} {s : Sx} (h : kvs.map (·.1) = S.map Sx.key) : (valV kvs s.key).isSome = decide (s ∈ S) := by
  rw [← valV_any]
  have e : (kvs.any fun kv => decide (kv.1 = s.key)) = ((kvs.map (·.1)).any fun k => decide (k = s.key)) := by rw [List.any_map] <;> rfl
  rw [e, h, List.any_map]
  by_cases hm : s ∈ S
  · rw [decide_eq_true hm, List.any_eq_true]
    exact ⟨s, hm, by simp⟩
  · rw [decide_eq_false hm, List.any_eq_false]
    intro t ht
    simp only [Function.comp_apply, decide_eq_true_eq]
    intro e2
    exact hm (key_inj e2 ▸ ht)
theorem RI.add {K : PySem.W.Frag} {H0 H1 H2 : Hp} {F L p : Addr} {S : List Sx} {s : Sx} {v : V} {kvs : List (List L2.Key × V)} {ys vs : List V} (r : RI K H0 F L S H1) (e12 : Same H1 H2) (F0 : H0 F = none) (L0 : H0 L = none) (hF : H1 F = some (.dT kvs)) (hk : kvs.map (·.1) = S.map Sx.key) (hv : ∀ q ∈ kvs, ∃ b ys, q.2 = .ref b ∧ H1 b = some (.tup ys) ∧ ys.length ≤ S.length) (hL : H1 L = some (.lst vs)) (hp : H2 p = some (.tup ys)) (hy : ys.length ≤ S.length + 1)
    (hs : s ∉ S) (hd : DT K H2 v s.d) (tl : DTs K H1 vs (S.map Sx.d)) : RI K H0 F L (S ++ [s]) (upd (upd H2 F (.dT (putK kvs s.key (.ref p)))) L (.lst (vs ++ [v]))) := by
  have hF2 := e12 _ _ hF
  have hL2 := e12 _ _ hL
  have hFL : F ≠ L := ne_of hF hL (fun z => nomatch z)
  have hL3 : upd H2 F (.dT (putK kvs s.key (.ref p))) L = some (.lst vs) := (upd_ne hFL.symm).trans hL2
  have t1 : Tp K H2 (upd H2 F (.dT (putK kvs s.key (.ref p)))) := Tp.upd hF2 rfl
  have t2 : Tp K (upd H2 F (.dT (putK kvs s.key (.ref p)))) (upd (upd H2 F (.dT (putK kvs s.key (.ref p)))) L (.lst (vs ++ [v]))) := Tp.upd hL3 rfl
  have t12 := t1.trans t2
  have nn : valV kvs s.key = none := by
    have q := valV_keys (s := s) hk
    rw [decide_eq_false hs] at q
    cases e : valV kvs s.key with
    | none => rfl
    | some x => rw [e] at q; cases q
  refine ⟨Same.upd (Same.upd (r.same.trans e12) F0) L0, ⟨_, upd_same, ?_⟩, putK kvs s.key (.ref p), (upd_ne hFL).trans upd_same, ?_, fun q hq => ?_⟩
  · rw [List.map_append]
    exact (tl.mono (e12.tp.trans t12)).append (DTs.one (hd.mono t12))
  · rw [putK_new _ nn, List.map_append, hk, List.map_append] <;> rfl
  · rw [putK_new _ nn] at hq
    rcases List.mem_append.mp hq with hq | hq
    · obtain ⟨b, zs, e1, e2, e3⟩ := hv q hq
      exact ⟨b, zs, e1, t12 _ _ (e12 _ _ e2), by rw [List.length_append]; exact Nat.le_succ_of_le e3⟩
    · have e : q = (s.key, .ref p) := by simpa using hq
      exact ⟨p, ys, by rw [e], t12 _ _ hp, by rw [List.length_append]; exact hy⟩
structure BI (ns : NSt) (S : List Sx) (n : Nat) : Prop where
  nd : S.Nodup
  inr : ∀ s ∈ S, InR ns.length s
  fst : Sx.first ∈ S
  cl : ∀ i, i < n → ∀ s, S[i]? = some s → ∀ m ∈ mvs ns s, m.2 ∈ S
  le : n ≤ S.length
theorem BI.done {ns : NSt} {S : List Sx} {n : Nat} (b : BI ns S n) (h : ¬ n < S.length) : Cl ns S := ⟨b.fst, fun s hs => (b.inr s hs).node, fun s hs m hm => by
  obtain ⟨i, hi, e⟩ := List.mem_iff_getElem.mp hs
  exact b.cl i (by omega) s (by rw [List.getElem?_eq_getElem hi, e]) m hm⟩
theorem BI.add {ns : NSt} {S : List Sx} {n : Nat} {s : Sx} (b : BI ns S n) (h : s ∉ S) (r : InR ns.length s) : BI ns (S ++ [s]) n := by
  refine ⟨?_, fun t ht => ?_, List.mem_append_left _ b.fst, fun i hi t ht m hm => List.mem_append_left _ (b.cl i hi t ?_ m hm), ?_⟩
  · rw [List.nodup_append]
    refine ⟨b.nd, by simp, fun x hx y hy e => ?_⟩
    have e2 : y = s := by simpa using hy
    exact h (e2 ▸ e ▸ hx)
  · rcases List.mem_append.mp ht with ht | ht
    · exact b.inr t ht
    · have e : t = s := by simpa using ht
      exact e ▸ r
  · have hl := b.le
    rw [List.getElem?_append_left (by omega)] at ht
    exact ht
  · have hl := b.le
    rw [List.length_append]
    omega
def slotN (σ : L2.St) : Nat := match σ[3]? with
  | some (some (V.int i)) => i.toNat
  | _ => 0
theorem slotN_of {σ : L2.St} {n : Nat} (h : σ[3]? = some (some (.int (n : Int)))) : slotN σ = n := by
  unfold slotN
  rw [h] <;> rfl
theorem valV_mem {kvs : List (List L2.Key × V)} {k : List L2.Key} {w : V} (h : valV kvs k = some w) : ∃ p ∈ kvs, p.2 = w := by
  induction kvs with
  | nil => cases h
  | cons p l ih =>
    by_cases e : p.1 = k
    · rw [valV_pos e] at h
      exact ⟨p, List.mem_cons_self, Option.some.inj h⟩
    · rw [valV_neg e] at h
      obtain ⟨q, hq, e2⟩ := ih h
      exact ⟨q, List.mem_cons_of_mem _ hq, e2⟩
theorem mvs_len {ok : Str → Prop} {ns : NSt} {s : Sx} (g : GOk ok ns) (h : s.node < ns.length) : (mvs ns s).length ≤ 4 := by
  have q := g.three _ (getD_mem' (l := ns) (i := s.node) [] h)
  unfold mvs mv
  rw [List.length_cons, List.length_map, List.length_range]
  omega
def gR (K : PySem.W.Frag) (H0 : Hp) (F L : Addr) (S : List Sx) : Gm := ⟨RI K H0 F L S, fun _ _ r e => r.mono e⟩
end KX
set_option maxHeartbeats 4000000
namespace KX
open PySem PySem.Spec PyProof.Rows L2
section
variable {P : Program} {w : World} {K : PySem.W.Frag} {mg : Str → Option Value} {base : Heap}
theorem sc_Question_reached : FnScope ["self", "found", "line", "at", "label", "later"] ["self"] (defScope s_Question_reached) := ⟨rfl, rfl, rfl, by decide +kernel, rfl, by decide +kernel, by decide +kernel⟩
theorem ok_Question_reached (T : Tx w K mg) : FnN P w K mg base 5 m_Question_reached (fun vs H Q => ∃ a ns fs ok, vs = [.ref a] ∧ StA K H a ns fs ∧ GOk ok ns ∧ ∀ F L S H', H F = none → RI K H F L S H' → Cl ns S → Q (.ref F) H') := by
  obtain ⟨fd, F⟩ := T.F_Question_reached
  refine F.okN rfl sc_Question_reached (fun _ _ _ _ _ _ us hl => match us, hl with | [_], _ => rfl) (fun vs H Q h => ?_) (fun A outer s H vs Q hr h => ⟨_, (pss_cons (ps_set (i := 1) sc_Question_reached.nd rfl (Or.inl rfl) (pe_disp1T (hu_of hr) (pe_mt0 (ok_Question_first T) (hr.mono (by decide)) T.c_Stale T.me_Stale_first (pv 0)) (pe_tup pa_nil))) (pss_cons (ps_set (i := 2) sc_Question_reached.nd rfl (Or.inl rfl) (pe_lst (pa_cons (pe_mt0 (ok_Question_first T) (hr.mono (by decide)) T.c_Stale T.me_Stale_first (pv 0)) pa_nil))) (pss_cons (ps_set (i := 3) sc_Question_reached.nd rfl (Or.inl rfl) pe_int) (pss_cons (ps_while PassesOwn.never (pt_cmpR op_lt (pv 3) (pe_callB call_len_seq (by rfl) T.z_len PySem.boot_len (pa_cons (pv 2) pa_nil)) (nomark _)) (pss_cons (ps_for PassesOwn.never rfl (pi_list (pe_mt (ok_Watch_moves T) (hr.mono (by decide)) T.c_Stale T.me_Stale_moves (pv 0) (pa_cons (pe_ix ix_list (pv 2) (pv 3) (fun _ _ => rfl)) pa_nil))) (pg_tup rfl (pgs_cons (pg_name (i := 4) sc_Question_reached.nd rfl (Or.inl rfl)) (pgs_cons (pg_name (i := 5) sc_Question_reached.nd rfl (Or.inl rfl)) pgs_nil))) (pss_one (ps_if (pt_cmp (pc_dnotin (hu_of hr) (pv 5) (pv 1))) (pss_cons (ps_dput (hu_of hr) (pv 1) (pv 5) (pe_tup (StX.pa_star (pe_dget (hu_of hr) (pv 1) (pe_ix ix_list (pv 2) (pv 3) (fun _ _ => rfl)) (fun _ _ => rfl)) (pa_cons (pv 4) pa_nil))) rfl) (pss_one (ps_expr (pe_bm PySem.F.plainAttrs_list PySem.F.slot_list_append PySem.F.type_list_append mt_append (pv 2) (pa_cons (pv 5) pa_nil))))) pss_nil))) (pss_one (ps_aug (i := 3) sc_Question_reached.nd rfl (Or.inl rfl) pe_int ip_add)))) (pss_one (ps_ret (pv 1))))))), ?_⟩)
  · obtain ⟨a, ns, fs, ok, rfl, _⟩ := h
    rfl
  obtain ⟨a, ns, fs, ok, rfl, sa, g, q⟩ := h
  have s0 : DS K H (start ["self", "found", "line", "at", "label", "later"] [.ref a]) [.v (.ref a), .no, .no, .no, .no, .no] := .cons (s := .v _) rfl (DS.nos 5)
  intro F hF
  refine (ev_st (G := gS (upd H F (.dT []))) (d := Sx.first.d) (evv_var (i := 0) rfl) (fun H' e => sa.mono ((Same.new hF).trans e)) eva_nil ⟨rfl, rfl⟩) _ _ (Same.refl _) (s0.mono (Same.new hF).tp) _ fun y H1 e1 dy => ?_
  refine ⟨Nat.zero_le _, fun p hp => ?_⟩
  obtain ⟨b, rfl, hb⟩ := dy.key
  have eHF : H1 F = some (.dT []) := e1 _ _ upd_same
  have e2 := e1.trans (Same.new (o := .tup []) hp)
  have hpF : p ≠ F := fun z => by rw [z, eHF] at hp; cases hp
  refine ⟨Sx.first.key, b, rfl, e2 _ _ upd_same, (Same.new hp) _ _ hb, ?_⟩
  have eH : Same H (upd (upd H1 p (.tup [])) F (.dT [(Sx.first.key, .ref p)])) := fun c o hc => (upd_ne (ne_of_none hc hF)).trans (e2 _ _ ((Same.new hF) _ _ hc))
  have hH2 : upd (upd H1 p (.tup [])) F (.dT [(Sx.first.key, .ref p)]) F = some (.dT [(Sx.first.key, .ref p)]) := upd_same
  have hHp : upd (upd H1 p (.tup [])) F (.dT [(Sx.first.key, .ref p)]) p = some (.tup []) := (upd_ne hpF).trans upd_same
  have s1 := (s0.mono eH.tp).set (i := 1) (s := .v (.ref F)) (v := .ref F) rfl
  revert eH hH2 hHp s1
  generalize upd (upd H1 p (.tup [])) F (.dT [(Sx.first.key, .ref p)]) = H2
  intro eH hH2 hHp s1
  refine (ev_st (G := gS H2) (d := Sx.first.d) (evv_var (i := 0) rfl) (fun H' e => sa.mono (eH.trans e)) eva_nil ⟨rfl, rfl⟩) _ _ (Same.refl _) s1 _ fun y H3 e3 dy => ?_
  refine ⟨Nat.le_of_ble_eq_true rfl, fun L hL => ?_⟩
  have e4 := Same.new (o := HO.lst [y]) hL
  have L0 : H L = none := (eH.trans e3).free hL
  have ri : RI K H F L [Sx.first] (upd H3 L (.lst [y])) := ⟨(eH.trans e3).trans e4, ⟨[y], upd_same, DTs.one (dy.mono e4.tp)⟩, _, e4 _ _ (e3 _ _ hH2), rfl, fun q hq => by
    have e : q = (Sx.first.key, .ref p) := by simpa using hq
    exact ⟨p, [], by rw [e], e4 _ _ (e3 _ _ hHp), Nat.zero_le _⟩⟩
  show tSeq (tAsg (tC (V.int 0)) (gName 3)) _ _ _ _
  refine StD.go (G := gR K H F L [Sx.first]) ?_ ri ((s1.mono (e3.trans e4).tp).set (i := 2) (s := .v (.ref L)) rfl)
  refine q_set ev_int fun σ5 H5 r5 s5 => ?_
  have one := g.one
  refine whileR (fun σ H' => ∃ S n, RI K H F L S H' ∧ DS K H' σ [.v (.ref a), .v (.ref F), .v (.ref L), .d (.int (n : Nat)), .no, .no] ∧ BI ns S n) (fun σ => 500 - slotN σ) ⟨[Sx.first], 0, r5, s5, by simp, fun s hs => (by simpa using hs : s = Sx.first) ▸ inr_first one, by simp, fun i hi => absurd hi (Nat.not_lt_zero i), Nat.zero_le _⟩ fun σ H6 ⟨S, n, r6, s6, bi⟩ => ⟨decide (n < S.length), fun Q' hq => ?_, fun hb H7 e7 => ?_, fun hb H7 e7 => ?_⟩
  · refine (evt_to (evt_test (ev_rB (G := gR K H F L S) (ev_var (i := 3) rfl) (ev_lenL rfl (i := 2) (L := L) (ds := S.map Sx.d) rfl fun H' r => r.ln))) ?_) σ H6 r6 s6 Q' hq
    rw [List.length_map]
    exact decide_eq_decide.mpr (by omega)
  · have hn : n < S.length := of_decide_eq_true hb
    have r7 := r6.mono e7
    have s7 := s6.mono e7.tp
    have six := g.six
    have few := few_states bi.nd bi.inr
    obtain ⟨x, hx⟩ : ∃ x, S[n]? = some x := ⟨S[n], List.getElem?_eq_getElem hn⟩
    have hxS : x ∈ S := List.mem_of_getElem? hx
    have hin := bi.inr x hxS
    have sa7 := sa.mono r7.same
    obtain ⟨dx, gg, ha, _⟩ := id sa7
    refine ⟨.ref a, s7.v (i := 0) rfl, a, dx, _, rfl, ha, rfl, (eva_cons (ev_ixL (G := gR K H F L S) (i := 2) (L := L) (ds := S.map Sx.d) (d := x.d) rfl (fun H' r => r.ln) (ev_var (i := 3) rfl) (atI_nat (by rw [List.getElem?_map, hx] <;> rfl))) eva_nil) σ H7 r7 s7 _ fun vs H8 e8 dvs => ?_⟩
    cases dvs with
    | cons dv nl =>
    cases nl
    refine ⟨a, ns, fs, _, ok, x, rfl, sa7.mono e8, g, hin.node, dv, fun M H9 e9 hM lsM => ?_⟩
    obtain ⟨vsM, hM9, dM⟩ := lsM
    have r9 := (r7.mono e8).mono e9
    have hML : M ≠ L := by
      obtain ⟨vl, hl, _⟩ := (r7.mono e8).ln
      exact fun z => by rw [z, hl] at hM; cases hM
    have hMF : M ≠ F := by
      obtain ⟨kvs, hl, _⟩ := (r7.mono e8).fd
      exact fun z => by rw [z, hl] at hM; cases hM
    have lenM : vsM.length = (mvs ns x).length := by rw [dM.len, List.length_map]
    refine ⟨M, rfl, ⟨vsM, SqL.of hM9⟩, for_it (walk_list (K := K) (a := M) (xs := vsM)) (fun j σ' H' => ∃ S', RI K H F L S' H' ∧ DS K H' σ' [.v (.ref a), .v (.ref F), .v (.ref L), .d (.int (n : Nat)), .no, .no] ∧ BI ns S' n ∧ S'[n]? = some x ∧ (∀ m ∈ (mvs ns x).take j, m.2 ∈ S') ∧ H' M = some (.lst vsM) ∧ DTs K H' vsM ((mvs ns x).map mvD))
      ⟨S, r9, (s7.mono (e8.trans e9).tp), bi, hx, fun m hm => absurd hm List.not_mem_nil, hM9, dM⟩ (fun j σ' H' _ ⟨_, _, _, _, _, _, p, _⟩ => SqL.of p) (fun j xv σ' H' H'' hj ⟨S', ri', s', bi', hx', hm', hM', dM'⟩ y => ?_) fun σ' H' ⟨S', ri', s', bi', hx', hm', hM', dM'⟩ => ?_⟩
    · obtain ⟨rfl, hxv⟩ := y
      have hj2 : j < (mvs ns x).length := by rw [← lenM]; exact hj
      obtain ⟨dd, hdd, dxv⟩ := dM'.getV hxv
      obtain ⟨m, hmj⟩ : ∃ m, (mvs ns x)[j]? = some m := ⟨(mvs ns x)[j], List.getElem?_eq_getElem hj2⟩
      have edd : dd = mvD m := by
        rw [List.getElem?_map, hmj] at hdd
        exact (Option.some.inj hdd).symm
      subst edd
      have htk : (mvs ns x).take (j + 1) = (mvs ns x).take j ++ [m] := by
        rw [List.take_succ, hmj] <;> rfl
      have hmm : m ∈ mvs ns x := List.mem_of_getElem? hmj
      refine (tg_tup (tgs_cons tg_name (tgs_cons tg_name tgs_nil)) rfl : TgD K (gTup K 2 (gCons (gName 4) (gCons (gName 5) gNil))) _ (mvD m) _) xv σ' H'' _ s' dxv fun σ2 s2 => ?_
      obtain ⟨v5, p5, t5⟩ := s2.d (i := 5) (d := m.2.d) rfl
      obtain ⟨b5, rfl, hb5⟩ := t5.key
      obtain ⟨kvs, hF', hk', hv'⟩ := ri'.fd
      refine ⟨.ref b5, p5, .ref F, s2.v (i := 1) rfl, F, valV kvs m.2.key, rfl, DGet.t hF' hb5, _, rfl, ?_⟩
      rw [valV_keys hk']
      by_cases hin2 : m.2 ∈ S'
      · rw [decide_eq_true hin2]
        refine iteF ⟨S', ri', DS.wk s2 ⟨.inr rfl, .inr rfl, .inr rfl, .inr rfl, .inl rfl, .inl rfl, trivial⟩, bi', hx', fun m' hm2 => ?_, hM', dM'⟩
        rw [htk] at hm2
        rcases List.mem_append.mp hm2 with q1 | q1
        · exact hm' m' q1
        · have e : m' = m := by simpa using q1
          rw [e]
          exact hin2
      · rw [decide_eq_false hin2]
        refine iteT ?_
        obtain ⟨vl, hL', dl⟩ := ri'.ln
        obtain ⟨xl, hxl, dxl⟩ := dl.at (i := (n : Int)) (d := x.d) (atI_nat (by rw [List.getElem?_map, hx'] <;> rfl))
        obtain ⟨bx, rfl, hbx⟩ := dxl.key
        obtain ⟨w, hw⟩ : ∃ w, valV kvs x.key = some w := by
          have q1 := valV_keys (s := x) hk'
          rw [decide_eq_true (List.mem_of_getElem? hx')] at q1
          exact Option.isSome_iff_exists.mp q1
        obtain ⟨pw, hpw, epw⟩ := valV_mem hw
        obtain ⟨bw, yw, e1w, e2w, e3w⟩ := hv' pw hpw
        have ew : w = .ref bw := epw.symm.trans e1w
        subst ew
        have few' := few_states bi'.nd bi'.inr
        have hS' : S'.length ≤ 432 := by omega
        have kl : kvs.length = S'.length := by
          have q1 := congrArg List.length hk'
          rw [List.length_map, List.length_map] at q1
          exact q1
        obtain ⟨v4, p4, t4⟩ := s2.d (i := 4) (d := .int m.1) rfl
        refine ⟨.ref F, s2.v (i := 1) rfl, .ref L, s2.v (i := 2) rfl, .int (n : Nat), s2.d1 (i := 3) rfl, L, vl, n, .ref bx, rfl, rfl, SqL.of hL', hxl, F, .ref bw, rfl, by rw [← hw]; exact DGet.t hF' hbx, bw, yw, rfl, .inl (SqT.of e2w), v4, p4, ?_, fun p hp => ?_⟩
        · exact Nat.le_of_lt (small1000 (by rw [List.length_append, List.length_singleton]; omega))
        have sn := Same.new (o := HO.tup (yw ++ [v4])) hp
        have hFs := sn _ _ hF'
        have hFL : F ≠ L := ne_of hF' hL' (fun z => nomatch z)
        refine ⟨.ref F, s2.v (i := 1) rfl, .ref b5, p5, F, _, rfl, DPut.t hFs (sn _ _ hb5) (small1000 (by omega)), ?_⟩
        have hLs : upd (upd H'' p (.tup (yw ++ [v4]))) F (.dT (putK kvs m.2.key (.ref p))) L = some (.lst vl) := (upd_ne hFL.symm).trans (sn _ _ hL')
        refine ⟨.ref L, s2.v (i := 2) rfl, .inl ⟨rfl, _, SqL.of hLs⟩, .ref b5, p5, L, vl, .ref b5, rfl, rfl, hLs, small1000 (by rw [dl.len, List.length_map]; omega), ?_⟩
        have rn := RI.add (s := m.2) (v := .ref b5) ri' sn hF L0 hF' hk' hv' hL' upd_same (by rw [List.length_append, List.length_singleton]; omega) hin2 (t5.mono sn.tp) dl
        have tpn : Tp K H'' _ := sn.tp.trans ((Tp.upd (o' := .dT (putK kvs m.2.key (.ref p))) hFs rfl).trans (Tp.upd (o' := .lst (vl ++ [.ref b5])) hLs rfl))
        refine ⟨S' ++ [m.2], rn, DS.wk (s2.mono tpn) ⟨.inr rfl, .inr rfl, .inr rfl, .inr rfl, .inl rfl, .inl rfl, trivial⟩, bi'.add hin2 (inr_mvs g hin m hmm), ?_, fun m' hm2 => ?_, ?_, dM'.mono tpn⟩
        · rw [List.getElem?_append_left (List.getElem?_eq_some_iff.mp hx').1]
          exact hx'
        · rw [htk] at hm2
          rcases List.mem_append.mp hm2 with q1 | q1
          · exact List.mem_append_left _ (hm' m' q1)
          · have e : m' = m := by simpa using q1
            rw [e]
            exact List.mem_append_right _ List.mem_cons_self
        · exact (upd_ne hML).trans ((upd_ne hMF).trans (sn _ _ hM'))
    · have hn' : n < S'.length := (List.getElem?_eq_some_iff.mp hx').1
      have few' := few_states bi'.nd bi'.inr
      refine ⟨.int (n : Nat), s'.d1 (i := 3) rfl, n, 1, rfl, rfl, ⟨S', n + 1, ri', ?_, bi'.nd, bi'.inr, bi'.fst, fun i hi s hs m hm => ?_, hn'⟩, ?_⟩
      · exact s'.set (i := 3) (s := .d (.int ((n + 1 : Nat) : Int))) ⟨_, rfl, by exact .int _⟩
      · by_cases e : i = n
        · rw [e, hx'] at hs
          cases hs
          refine hm' m ?_
          rw [lenM, List.take_length]
          exact hm
        · exact bi'.cl i (by omega) s hs m hm
      · have q1 := slotN_of (σ := σ) (n := n) (s6.d1 (i := 3) rfl)
        have q2 := slotN_of (σ := σ'.set 3 (some (.int ((n : Int) + 1)))) (n := n + 1) (by rw [List.getElem?_set_self (by rw [s'.len]; exact Nat.le_of_ble_eq_true rfl)] <;> rfl)
        show 500 - slotN (σ'.set 3 (some (.int ((n : Int) + 1)))) < 500 - slotN σ
        rw [q1, q2]
        omega
  · exact ⟨.ref F, s6.v (i := 1) rfl, q F L S H7 hF (r6.mono e7) (bi.done (of_decide_eq_false hb))⟩
end
end KX
set_option maxHeartbeats 4000000
namespace KX
open PySem PySem.Spec PyProof.Rows L2
section
variable {P : Program} {w : World} {K : PySem.W.Frag} {mg : Str → Option Value} {base : Heap}
theorem sc_Question_run : FnScope ["self", "state", "run"] ["self"] (defScope s_Question_run) := ⟨rfl, rfl, rfl, by decide +kernel, rfl, by decide +kernel, by decide +kernel⟩
theorem ok_Question_run (T : Tx w K mg) : FnN P w K mg base 6 m_Question_run (fun vs H Q => ∃ a ns fs ok, vs = [.ref a] ∧ StA K H a ns fs ∧ GOk ok ns ∧ ∀ v H', Same H H' → ((v = .non ∧ Never ns fs) ∨ ∃ b, v = .ref b) → Q v H') := by
  obtain ⟨fd, F⟩ := T.F_Question_run
  refine F.okN rfl sc_Question_run (fun _ _ _ _ _ _ us hl => match us, hl with | [_], _ => rfl) (fun vs H Q h => ?_) (fun A outer s H vs Q hr h => ⟨_, (pss_cons (ps_for PassesOwn.never rfl (pi_itemsT (pe_mt0 (ok_Question_reached T) (hr.mono (by decide)) T.c_Stale T.me_Stale_reached (pv 0))) (pg_tup rfl (pgs_cons (pg_name (i := 1) sc_Question_run.nd rfl (Or.inl rfl)) (pgs_cons (pg_name (i := 2) sc_Question_run.nd rfl (Or.inl rfl)) pgs_nil))) (pss_one (ps_if (pt_val (pe_mt (ok_Stale_is_bad T) (hr.mono (by decide)) T.c_Stale T.me_Stale_is_bad (pv 0) (pa_cons (pv 1) pa_nil))) (pss_one (ps_ret (pv 2))) pss_nil))) (pss_one (ps_ret pe_non))), ?_⟩)
  · obtain ⟨a, ns, fs, ok, rfl, _⟩ := h
    rfl
  obtain ⟨a, ns, fs, ok, rfl, sa, g, q⟩ := h
  have s0 : DS K H (start ["self", "state", "run"] [.ref a]) [.v (.ref a), .no, .no] := .cons (s := .v _) rfl (DS.nos 2)
  obtain ⟨dx, gg, ha, _⟩ := id sa
  refine ⟨.ref a, s0.v (i := 0) rfl, a, dx, _, rfl, ha, rfl, a, ns, fs, ok, rfl, sa, g, fun F L S H1 F0 ri cl => ?_⟩
  obtain ⟨kvs, hF, hk, hv⟩ := ri.fd
  refine ⟨F, kvs, rfl, hF, fun od => ?_⟩
  have eH : Same H (upd H1 F (.frz od (.dT kvs))) := Same.upd ri.same F0
  have kl : kvs.length = S.length := by
    have q1 := congrArg List.length hk
    rw [List.length_map, List.length_map] at q1
    exact q1
  refine for_it (walk_itemsT (d := F) (o := od) (kvs := kvs)) (fun j σ' H' => Same H H' ∧ H' F = some (.frz od (.dT kvs)) ∧ DS K H' σ' [.v (.ref a), .no, .no] ∧ ∀ i, i < j → ∀ t, S[i]? = some t → t.bad fs = false)
    ⟨eH, upd_same, s0.mono eH.tp, fun i hi => absurd hi (Nat.not_lt_zero i)⟩ (fun j σ' H' _ p => p.2.1) (fun j x σ' H' H'' hj ⟨e, hf, s', hb⟩ y => ?_) fun σ' H' ⟨e, hf, s', hb⟩ => ?_
  · obtain ⟨t, k, v, b, hkv, rfl, ht, hbk, rfl⟩ := y
    obtain ⟨z, hz⟩ : ∃ z, S[j]? = some z := ⟨S[j]'(by omega), List.getElem?_eq_getElem (by omega)⟩
    have ekz : k = z.key := by
      have q1 : (kvs.map (·.1))[j]? = some k := by rw [List.getElem?_map, hkv] <;> rfl
      rw [hk, List.getElem?_map, hz] at q1
      exact (Option.some.inj q1).symm
    subst ekz
    obtain ⟨bv, _, ev, _⟩ := hv _ (List.mem_of_getElem? hkv)
    have ev : v = .ref bv := ev
    subst ev
    have sn := Same.new (o := HO.tup [.ref b, .ref bv]) ht
    refine ⟨t, _, rfl, SqT.of upd_same, rfl, _, _, rfl, _, _, rfl, rfl, ?_⟩
    have s2 : DS K (upd H' t (.tup [.ref b, .ref bv])) ((σ'.set 1 (some (.ref b))).set 2 (some (.ref bv))) [.v (.ref a), .d z.d, .v (.ref bv)] := ((s'.mono sn.tp).set (i := 1) (s := .d z.d) ⟨_, rfl, DT.ofKey (sn _ _ hbk)⟩).set (i := 2) (s := .v (.ref bv)) rfl
    refine (evt_test (ev_st (R := fun ns fs ds r => ∃ x : Sx, ds = [x.d] ∧ r = .bool (x.bad fs)) (G := gS (upd H' t (.tup [.ref b, .ref bv]))) (d := .bool (z.bad fs)) (evv_var (i := 0) rfl) (fun H3 e3 => sa.mono ((e.trans sn).trans e3)) (eva_cons (ev_var (i := 1) rfl) eva_nil) ⟨z, rfl, rfl⟩)) _ _ (Same.refl _) s2 _ fun H3 e3 => ?_
    cases hbad : z.bad fs with
    | true => exact iteT ⟨.ref bv, s2.v (i := 2) rfl, q _ H3 ((e.trans sn).trans e3) (.inr ⟨bv, rfl⟩)⟩
    | false =>
      refine iteF ⟨(e.trans sn).trans e3, e3 _ _ (sn _ _ hf), (s2.mono e3.tp).wk ⟨.inr rfl, .inl rfl, .inl rfl, trivial⟩, fun i hi t2 ht2 => ?_⟩
      by_cases h : i = j
      · rw [h, hz] at ht2
        cases ht2
        exact hbad
      · exact hb i (by omega) t2 ht2
  · refine q _ H' e (.inl ⟨rfl, S, cl, fun z hz => ?_⟩)
    obtain ⟨i, hi, ez⟩ := List.mem_iff_getElem.mp hz
    exact hb i (by omega) z (by rw [List.getElem?_eq_getElem hi, ez])
theorem sc_Mirror_question : FnScope ["self", "way"] ["self", "way"] (defScope s_Mirror_question) := ⟨rfl, rfl, rfl, by decide +kernel, rfl, by decide +kernel, by decide +kernel⟩
theorem ok_Mirror_question (T : Tx w K mg) : FnN P w K mg base 3 m_Mirror_question (fun vs H Q => ∃ a ns fs, vs = [.ref a, .str "stale"] ∧ GAt K H a_Mirror PyData.str a ns fs ∧ ∀ p H', Same H H' → StA K H' p ns fs → Q (.ref p) H') := by
  obtain ⟨fd, F⟩ := T.F_Mirror_question
  refine F.okN rfl sc_Mirror_question (fun _ _ _ _ _ _ us hl => match us, hl with | [_, _], _ => rfl) (fun vs H Q h => ?_) (fun A outer s H vs Q hr h => ⟨_, (pss_cons (ps_if (PW.pt (pw_and (pt_val (pe_callB call_isi (by rfl) T.z_isinstance (by decide +kernel) (pa_cons (pv 1) (pa_cons (pe_ty (n := "str") T.z_str (by decide +kernel)) pa_nil)))) (pw_and1 (pt_cmpR op_eq (pv 1) pe_str (nomark _))))) (pss_one (ps_ret (pe_mk (ok_Question_D_init_D T) (hr.mono (by decide)) T.mk_Stale T.g_Stale (pa_cons (pv 0) pa_nil)))) pss_nil) (pss_cons ps_never (pss_one ps_never))), ?_⟩)
  · obtain ⟨a, ns, fs, rfl, _⟩ := h
    rfl
  obtain ⟨a, ns, fs, rfl, ga, q⟩ := h
  have s0 : DS K H (start ["self", "way"] [.ref a, .str "stale"]) [.v (.ref a), .d (.str "stale")] := .cons (s := .v _) rfl (.cons (s := .d _) ⟨_, rfl, .str _⟩ .nil)
  refine StD.go (G := gS H) ?_ (Same.refl H) s0
  refine q_if (b := true) (evt_to (evt_and (b := true) (c := true) (evt_test (ev_isi (ev_var rfl) kb_str_str)) fun _ => evt_to (evt_test (ev_eqs (ev_var rfl) ev_str)) (by decide +kernel)) rfl) (fun _ σ H1 e1 s1 => ?_) fun z => by cases z
  refine ⟨.ref a, s1.v (i := 0) rfl, fun x dx hx hdx ne => ?_⟩
  have e2 := Same.new (o := HO.own x) hdx
  have hx2 : upd H1 dx (.own x) x = none := (upd_ne ne.symm).trans hx
  have e3 := Same.new (o := HO.ins a_Stale dx []) hx2
  refine ⟨x, dx, .ref a, rfl, upd_same, rfl, ?_⟩
  rw [upd_upd]
  have e4 := Same.new (o := HO.ins a_Stale dx [("graph", .ref a)]) hx2
  have e1 : Same H H1 := e1
  exact q x _ ((e1.trans e2).trans e4) ⟨dx, a, upd_same, ga.mono ((e1.trans e2).trans e4)⟩
end
end KX
set_option maxHeartbeats 4000000
namespace KX
open PySem PySem.Spec PyProof.Rows L2
/-! ### the known mirrors -/
def rowA (last : List (Str × Nat)) (l : List (Str × Nat)) : List (List (Str × Nat)) := (l.map fun e => [e]) ++ [last]
def good1 : List (List (Str × Nat)) := [[("listen", 1)], [("read", 2)], [("receive", 2)]]
def good2 : List (List (Str × Nat)) := [[("begin", 1)], [("listen", 2)], [("commit", 3)], [("read", 4)], [("receive", 4), ("disconnect", 0)]]
def good3 : List (List (Str × Nat)) := [[("listen", 1)], [("begin", 2)], [("read", 3)], [("commit", 4)], [("receive", 4), ("read", 4)]]
def growS (ns : NSt) : Nat → List Sx → List Sx
  | 0, S => S
  | k + 1, S => growS ns k (S.foldl (fun acc s => (mvs ns s).foldl (fun acc m => if m.2 ∈ acc then acc else acc ++ [m.2]) acc) S)
def neverB (ns : NSt) (fs : List Nat) (S : List Sx) : Bool := decide (Sx.first ∈ S) && S.all (fun s => decide (s.node < ns.length) && (mvs ns s).all (fun m => decide (m.2 ∈ S)) && !s.bad fs)
theorem never_of {ns : NSt} {fs : List Nat} {S : List Sx} (h : neverB ns fs S = true) : Never ns fs := by
  unfold neverB at h
  simp only [Bool.and_eq_true, decide_eq_true_eq, List.all_eq_true, Bool.not_eq_true'] at h
  obtain ⟨h1, h2⟩ := h
  exact ⟨S, ⟨h1, fun s hs => (h2 s hs).1.1, fun s hs m hm => (h2 s hs).1.2 m hm⟩, fun s hs => (h2 s hs).2⟩
theorem never1 : Never good1 [2] := never_of (S := growS good1 8 [Sx.first]) (by decide +kernel)
theorem never2 : Never good2 [4] := never_of (S := growS good2 8 [Sx.first]) (by decide +kernel)
theorem never3 : Never good3 [4] := never_of (S := growS good3 8 [Sx.first]) (by decide +kernel)
theorem gok_of {ns : List (List (Str × Nat))} (h : (decide (1 ≤ ns.length) && decide (ns.length ≤ 6) && ns.all fun es => decide (es.length ≤ 3) && es.all fun e => decide (e.1 ∈ msteps) && decide (e.2 < ns.length)) = true) : GOk (· ∈ msteps) ns := by
  simp only [Bool.and_eq_true, decide_eq_true_eq, List.all_eq_true] at h
  exact ⟨h.1.1, h.1.2, fun es he => (h.2 es he).1, fun es he e hm => ((h.2 es he).2 e hm).1, fun es he e hm => ((h.2 es he).2 e hm).2⟩
theorem good_ok : ∀ g ∈ [good1, good2, good3], GOk (· ∈ msteps) g ∧ Never g [g.length - 1] := by
  intro g hg
  simp only [List.mem_cons, List.not_mem_nil, or_false] at hg
  rcases hg with rfl | rfl | rfl
  · exact ⟨gok_of (by decide +kernel), never1⟩
  · exact ⟨gok_of (by decide +kernel), never2⟩
  · exact ⟨gok_of (by decide +kernel), never3⟩
section
variable {P : Program} {w : World} {K : PySem.W.Frag} {mg : Str → Option Value} {base : Heap} {p : Addr}
theorem q_listN {g : Gn p} {te : TE} {ss : List SV} {us : TS} {D : Ends} {i : Nat} {RA : List PyData → Prop} (h : EvNL K p te ss RA) (k : ∀ H1 M ds, g.q H1 → PenAt H1 p → M ≠ p → H1 M = none → RA ds → StD K (gN (nM K g M ds)) us D (ss.set i (.v (.ref M)))) : StD K (gN g) (tSeq (tAsg te (gName i)) us) D ss := fun σ H gp s =>
  h σ H gp.2 s _ fun M vs ds H1 e1 p1 hM hv ts r => by
    have hne : M ≠ p := by
      obtain ⟨_, _, _, z⟩ := gp.2
      exact fun z2 => by rw [z2, z] at hM; cases hM
    exact k H M ds gp.1 gp.2 hne hM r _ H1 ⟨⟨g.mono _ _ gp.1 gp.2 e1, ⟨vs, hv, ts⟩, hne⟩, p1⟩ ((s.mono (e1.tp gp.2)).set (s := .v (.ref M)) rfl)
theorem evnl_lst {ss : List SV} {tA : TA} {ds : List PyData} (h : EvA K gT tA ss ds) (hl : ds.length ≤ 1000) : EvNL K p (tLst tA) ss (· = ds) := fun σ H hp s Q q =>
  h σ H trivial s _ fun vs H1 e1 a => ⟨Nat.le_of_lt (small1000 (by rw [a.len]; exact hl)), fun L hL => q L vs ds _ (e1.trans (Same.new hL)).frP ((hp.mono e1).mono (Same.new hL)) (e1.free hL) upd_same (a.mono (Same.new hL).tp) rfl⟩
abbrev gd1 : PyData := .tuple [.tuple [.tuple [.str "listen", .int 1]], .tuple [.tuple [.str "read", .int 2]], .tuple [.tuple [.str "receive", .int 2]]]
theorem gd1_eq : gd1 = gD PyData.str good1 := rfl
abbrev gd2 : PyData := .tuple [.tuple [.tuple [.str "begin", .int 1]], .tuple [.tuple [.str "listen", .int 2]], .tuple [.tuple [.str "commit", .int 3]], .tuple [.tuple [.str "read", .int 4]], .tuple [.tuple [.str "receive", .int 4], .tuple [.str "disconnect", .int 0]]]
theorem gd2_eq : gd2 = gD PyData.str good2 := rfl
abbrev gd3 : PyData := .tuple [.tuple [.tuple [.str "listen", .int 1]], .tuple [.tuple [.str "begin", .int 2]], .tuple [.tuple [.str "read", .int 3]], .tuple [.tuple [.str "commit", .int 4]], .tuple [.tuple [.str "receive", .int 4], .tuple [.str "read", .int 4]]]
theorem gd3_eq : gd3 = gD PyData.str good3 := rfl
def GoodM (ns : List (List (Str × Nat))) : Prop := GOk (· ∈ msteps) ns ∧ Never ns [ns.length - 1]
theorem sc_L_good_mirror : FnScope ["_law_pen_here", "_law_rows", "_law_last", "_law_nodes"] ["_law_pen_here"] (defScope s_L_good_mirror) := ⟨rfl, rfl, rfl, by decide +kernel, rfl, by decide +kernel, by decide +kernel⟩
theorem ok__law_good_mirror (T : Tx w K mg) (Pf : PF P) : FnN P w K mg base 7 a__law_good_mirror (spP K (· = []) fun _ d => ∃ ns, d = gD PyData.str ns ∧ GoodM ns) := by
  obtain ⟨fd, F⟩ := T.F_L_good_mirror
  refine F.okN rfl sc_L_good_mirror (fun _ _ _ _ _ _ us hl => match us, hl with | [_], _ => rfl) (fun vs H Q h => ?_) (fun A outer s H vs Q hr h => ⟨_, (pss_cons (ps_set (i := 1) sc_L_good_mirror.nd rfl (Or.inl rfl) (pe_lst (pa_cons (pe_tup (pa_cons (pe_tup (pa_cons (pe_tup (pa_cons pe_str (pa_cons pe_int pa_nil))) pa_nil)) (pa_cons (pe_tup (pa_cons (pe_tup (pa_cons pe_str (pa_cons pe_int pa_nil))) pa_nil)) (pa_cons (pe_tup (pa_cons (pe_tup (pa_cons pe_str (pa_cons pe_int pa_nil))) pa_nil)) pa_nil)))) pa_nil))) (pss_cons (ps_set (i := 2) sc_L_good_mirror.nd rfl (Or.inl rfl) (pe_tup (pa_cons (pe_tup (pa_cons pe_str (pa_cons pe_int pa_nil))) (pa_cons (pe_tup (pa_cons pe_str (pa_cons pe_int pa_nil))) pa_nil)))) (pss_cons (ps_expr (pe_bm PySem.F.plainAttrs_list PySem.F.slot_list_append PySem.F.type_list_append mt_append (pv 1) (pa_cons (pe_tup (pa_cons (pe_tup (pa_cons (pe_tup (pa_cons pe_str (pa_cons pe_int pa_nil))) pa_nil)) (pa_cons (pe_tup (pa_cons (pe_tup (pa_cons pe_str (pa_cons pe_int pa_nil))) pa_nil)) (pa_cons (pe_tup (pa_cons (pe_tup (pa_cons pe_str (pa_cons pe_int pa_nil))) pa_nil)) (pa_cons (pe_tup (pa_cons (pe_tup (pa_cons pe_str (pa_cons pe_int pa_nil))) pa_nil)) (pa_cons (pv 2) pa_nil)))))) pa_nil))) (pss_cons (ps_set (i := 2) sc_L_good_mirror.nd rfl (Or.inl rfl) (pe_tup (pa_cons (pe_tup (pa_cons pe_str (pa_cons pe_int pa_nil))) (pa_cons (pe_tup (pa_cons pe_str (pa_cons pe_int pa_nil))) pa_nil)))) (pss_cons (ps_expr (pe_bm PySem.F.plainAttrs_list PySem.F.slot_list_append PySem.F.type_list_append mt_append (pv 1) (pa_cons (pe_tup (pa_cons (pe_tup (pa_cons (pe_tup (pa_cons pe_str (pa_cons pe_int pa_nil))) pa_nil)) (pa_cons (pe_tup (pa_cons (pe_tup (pa_cons pe_str (pa_cons pe_int pa_nil))) pa_nil)) (pa_cons (pe_tup (pa_cons (pe_tup (pa_cons pe_str (pa_cons pe_int pa_nil))) pa_nil)) (pa_cons (pe_tup (pa_cons (pe_tup (pa_cons pe_str (pa_cons pe_int pa_nil))) pa_nil)) (pa_cons (pv 2) pa_nil)))))) pa_nil))) (pss_cons (ps_set (i := 3) sc_L_good_mirror.nd rfl (Or.inl rfl) (pe_cl (ok__law_mirror_nodes T) (hr.mono (by decide)) T.kp__law_mirror_nodes T.g__law_mirror_nodes (pa_cons (pv 0) (pa_cons pe_int pa_nil)))) (pss_cons (ps_if (PW.pt (pw_and (pt_cmpR op_eq (pe_cl (ok__law_draw T) (hr.mono (by decide)) T.kp__law_draw T.g__law_draw (pa_cons (pv 0) (pa_cons pe_int pa_nil))) pe_int (nomark _)) (pw_and1 (pt_cmpR op_isN (pe_mt0 (ok_Question_run T) (hr.mono (by decide)) T.c_Stale T.me_Stale_run (pe_mt (ok_Mirror_question T) (hr.mono (by decide)) T.c_Mirror T.me_Mirror_question (pe_mk (ok_Mirror_D_init_D T Pf) (hr.mono (by decide)) T.mk_Mirror T.g_Mirror (pa_cons (pv 3) (pa_cons (pe_tup (pa_cons (pe_op op_sub (pe_callB call_len (by rfl) T.z_len PySem.boot_len (pa_cons (pv 3) pa_nil)) pe_int) pa_nil)) pa_nil))) (pa_cons pe_str pa_nil))) pe_non (nomark _))))) (pss_one (ps_ret (pv 3))) pss_nil) (pss_one (ps_ret (pe_cl (ok__law_pick T) (hr.mono (by decide)) T.kp__law_pick T.g__law_pick (pa_cons (pv 0) (pa_cons (pv 1) pa_nil)))))))))))), ?_⟩)
  · obtain ⟨p, vs', ds, rfl, _, h1, rfl, _⟩ := h
    exact congrArg Nat.succ h1.len
  obtain ⟨p, vs', ds, rfl, hp, hd, rfl, q⟩ := h
  cases hd
  have s0 : DS K H (L2.start ["_law_pen_here", "_law_rows", "_law_last", "_law_nodes"] [.ref p]) [.v (.ref p), .no, .no, .no] := .cons (s := .v _) rfl (DS.nos 3)
  have cst : ∀ {ss : List SV} {l : List (Str × Int)}, EvA K gT (l.foldr (fun e t => tCons (tTup (tCons (tC (.str e.1)) (tCons (tC (.int e.2)) tNil))) t) tNil) ss (l.map fun e => .tuple [.str e.1, .int e.2]) := fun {ss l} => by
    induction l with
    | nil => exact eva_nil
    | cons e l ih => exact eva_cons (ev_tup (eva_cons ev_str (eva_cons ev_int eva_nil))) ih
  have pair : ∀ {ss : List SV} {c : Str} {k : Int}, EvD K gT (tTup (tCons (tC (.str c)) (tCons (tC (.int k)) tNil))) ss (.tuple [.str c, .int k]) := ev_tup (eva_cons ev_str (eva_cons ev_int eva_nil))
  have one : ∀ {ss : List SV} {c : Str} {k : Int}, EvD K gT (tTup (tCons (tTup (tCons (tC (.str c)) (tCons (tC (.int k)) tNil))) tNil)) ss (.tuple [.tuple [.str c, .int k]]) := ev_tup (eva_cons pair eva_nil)
  refine StD.go (G := gN (nS H p)) ?_ ⟨FrP.refl, hp⟩ s0
  refine q_listN (evnl_lst (ds := [gd1]) (eva_cons (ev_tup (eva_cons one (eva_cons one (eva_cons one eva_nil)))) eva_nil) (by decide)) fun H1 L ds g1 p1 hne L1 r => ?_
  subst r
  have L0 : H L = none := FrP.free g1 L1 p1
  show StD K (gN (nL K H p L [gd1])) _ _ _
  refine q_setN (evn_of (ev_tup (eva_cons pair (eva_cons pair eva_nil)))) fun d hd => ?_
  subst hd
  refine q_appN (evn_of (d := gd2) (ev_tup (eva_cons one (eva_cons one (eva_cons one (eva_cons one (eva_cons (ev_var rfl) eva_nil))))))) rfl L0 (by decide) fun d hd => ?_
  subst hd
  refine q_setN (evn_of (ev_tup (eva_cons pair (eva_cons pair eva_nil)))) fun d hd => ?_
  subst hd
  refine q_appN (evn_of (d := gd3) (ev_tup (eva_cons one (eva_cons one (eva_cons one (eva_cons one (eva_cons (ev_var rfl) eva_nil))))))) rfl L0 (by decide) fun d hd => ?_
  subst hd
  refine q_setN (evn_pen rfl (evna_cons (evn_of ev_int) evna_nil) fun ds ⟨d, ds', e, e1, e2⟩ => ⟨4, by rw [e, e1, e2], by decide, by decide⟩) fun d ⟨ds, _, ns, ed, g, _⟩ => ?_
  subst ed
  intro σ H2 g2 s2
  obtain ⟨⟨f2, l2, _⟩, p2⟩ := g2
  have pick : ∀ σ3 H3, FrP p H H3 → PenAt H3 p → LsAt K L [gd1, gd2, gd3] H3 → DS K H3 σ3 [.v (.ref p), .v (.ref L), .d (.tuple [.tuple [.str "receive", .int 4], .tuple [.str "read", .int 4]]), .d (gD PyData.str ns)] → tRet (tCl (spPick K) (tCons (tVar 0) (tCons (tVar 1) tNil))) { nx := fun _ H' => Q .non H', rt := Q } σ3 H3 := fun σ3 H3 f3 p3 l3 s3 => by
    refine ⟨.ref p, s3.v (i := 0) rfl, .ref L, s3.v (i := 1) rfl, p, L, _, rfl, p3, hne, l3, Nat.succ_pos _, Nat.le_of_ble_eq_true rfl, fun v d H4 f4 p4 hm dv => ?_⟩
    have hg : ∃ g, g ∈ [good1, good2, good3] ∧ d = gD PyData.str g := by
      have hm : d ∈ [good1, good2, good3].map (gD PyData.str) := hm
      obtain ⟨g, h1, h2⟩ := List.mem_map.mp hm
      exact ⟨g, h1, h2.symm⟩
    obtain ⟨g, h1, h2⟩ := hg
    exact q v d H4 (f3.trans f4) p4 ⟨g, h2, good_ok g h1⟩ dv
  refine (evn_draw (m := 3) rfl ev_int ⟨by decide, by decide⟩) σ H2 p2 s2 _ fun v d H3 e3 p3 ⟨r, ed, _, _⟩ dv => ?_
  subst ed
  cases dv
  have s3 := s2.mono (e3.tp p2)
  have l3 : LsAt K L [gd1, gd2, gd3] H3 := by
    obtain ⟨us, h1, h2⟩ := l2
    exact ⟨us, e3 _ _ h1 hne, h2.mono (e3.tp p2)⟩
  refine ⟨rfl, _, rfl, ?_⟩
  have hne2 : ∀ {H4 : Hp}, Same H3 H4 → LsAt K L [gd1, gd2, gd3] H4 := fun e => l3.mono e
  generalize decide (V.int r = V.int 0) = c0
  cases c0 with
  | false => exact iteF (iteF (pick _ _ (f2.trans e3) p3 l3 s3))
  | true =>
    refine iteT ?_
    simp only [tTest, tOp, tMt, tMk]
    refine (eva_cons (ev_var (i := 3) rfl) (eva_cons (ev_tup (eva_cons (ev_rI (f := fun i j => i - j) (ev_len (ds := ns.map (rowD PyData.str)) rfl (ev_var (i := 3) rfl)) ev_int) eva_nil)) eva_nil) : EvA K gT _ _ [gD PyData.str ns, .tuple [.int ((ns.map (rowD PyData.str)).length - 1)]]) _ H3 trivial s3 _ fun vs H4 e4 a4 => ?_
    intro x dx hx hdx ne
    cases a4 with
    | @cons v1 vs1 _ _ b1 a4 =>
    cases a4 with
    | @cons v2 vs2 _ _ b2 a4 =>
    cases a4
    have en : PyData.tuple [.int (((ns.map (rowD PyData.str)).length : Nat) - 1)] = fD [ns.length - 1] := by
      have h1 := g.one
      rw [List.length_map]
      show PyData.tuple [PyData.int _] = .tuple [.int ((ns.length - 1 : Nat) : Int)]
      rw [Int.ofNat_sub h1] <;> rfl
    have b2 : DT K H4 v2 (.tuple [.int (((ns.map (rowD PyData.str)).length : Nat) - 1)]) := b2
    rw [en] at b2
    have e5 := Same.new (o := HO.own x) hdx
    have hx5 : upd H4 dx (.own x) x = none := (upd_ne ne.symm).trans hx
    have e6 := e5.trans (Same.new (o := HO.ins a_Mirror dx []) hx5)
    refine ⟨x, dx, v1, v2, ns, [ns.length - 1], rfl, upd_same, b1.mono e6.tp, b2.mono e6.tp, g, ⟨fun i hi => ?_, fun i hi => ?_, Nat.le_of_ble_eq_true rfl⟩, trivial, fun H7 e7 ga => ?_⟩
    · have h1 := g.one
      have : i = 0 := by simpa using hi
      subst this
      show ns.length - 1 < ns.length
      omega
    · have : i + 1 < 1 := hi
      omega
    have e47 : Same H4 H7 := fun b o hb => e7 b o (e6 _ _ hb) fun z => by rw [z, hx] at hb; cases hb
    obtain ⟨dx7, w1, w2, h71, h72, h73⟩ := id ga
    refine ⟨rfl, x, dx7, _, rfl, h71, rfl, x, ns, [ns.length - 1], rfl, ga, fun pp H8 e8 sa => ?_⟩
    obtain ⟨dx8, g8, h81, h82⟩ := id sa
    refine ⟨pp, dx8, _, rfl, h81, rfl, pp, ns, [ns.length - 1], _, rfl, sa, g, fun v H9 e9 alt => ?_⟩
    have e39 : Same H3 H9 := ((e4.trans e47).trans e8).trans e9
    have s9 := s3.mono e39.tp
    have f9 : FrP p H H9 := (f2.trans e3).trans e39.frP
    refine ⟨rfl, _, rfl, ?_⟩
    rcases alt with ⟨rfl, nv⟩ | ⟨b, rfl⟩
    · rw [decide_eq_true rfl]
      obtain ⟨u, hu, du⟩ := s9.d (i := 3) rfl
      exact iteT ⟨u, hu, q u _ H9 f9 (p3.mono e39) ⟨ns, rfl, g, nv⟩ du⟩
    · rw [decide_eq_false (fun z => nomatch z)]
      exact iteF (pick _ _ f9 (p3.mono e39) (l3.mono e39) s9)
end
end KX
set_option maxHeartbeats 4000000
namespace KX
open PySem PySem.Spec PyProof.Rows L2 RZ
/-! ### the steps of a run of a writer -/
def foldT (rule : Str) (l : List WS) : Option Str × List Str := l.foldl (written rule) (none, [])
theorem foldT_snoc {rule : Str} {l : List WS} {s : WS} : foldT rule (l ++ [s]) = written rule (foldT rule l) s := by
  unfold foldT
  rw [List.foldl_append] <;> rfl
/-- a writer that does not lie -/
def Honest (rule way : Str) (l : List WS) : Prop := l.length ≤ 7 ∧ (∀ s ∈ l, WOk s) ∧ lies (if way = "reread" then "reread" else "take") (foldT rule l).1 (foldT rule l).2 = false
def ways : List Str := ["take", "newer", "reread"]
theorem honest_nil {rule way : Str} : Honest rule way [] := by
  refine ⟨Nat.zero_le _, (fun s h => by cases h), ?_⟩
  unfold lies
  split <;> rfl
def stepsW (ns : List (List (WS × Nat))) (run : List Int) : List WS := (fol ns run).2.map fun o => o.getD .again
theorem stepsW_enc {ns : List (List (WS × Nat))} {run : List Int} (v : RunV false ns run) : ∀ j, j ≤ run.length → (fol ns (run.take j)).2.map (stD encW) = (stepsW ns (run.take j)).map encW
  | 0, _ => by rw [List.take_zero] <;> rfl
  | j + 1, hj => by
    have ih := stepsW_enc v j (by omega)
    rw [take_succ' (by omega), fol_snoc]
    unfold stepsW at ih ⊢
    rw [fol_snoc, List.map_append, List.map_append, List.map_append, ih]
    have ho := v j (by omega)
    rcases ho with ⟨_, h⟩ | ⟨h1, _⟩
    · cases h
    · have hne : ¬ run.getD j 0 = -1 := by omega
      unfold nxS
      rw [if_neg hne] <;> rfl
theorem stepsW_ok {ns : List (List (WS × Nat))} {run : List Int} (g : GOk WOk ns) (v : RunV false ns run) : ∀ j, j ≤ run.length → ∀ s ∈ stepsW ns (run.take j), WOk s
  | 0, _ => by rw [List.take_zero]; intro s h; cases h
  | j + 1, hj => by
    intro s hs
    have ih := stepsW_ok g v j (by omega)
    have hlt := fol_lt g v j (by omega)
    rw [take_succ' (by omega)] at hs
    unfold stepsW at ih hs
    rw [fol_snoc, List.map_append] at hs
    rcases List.mem_append.mp hs with h | h
    · exact ih s h
    · have ho := v j (by omega)
      rcases ho with ⟨_, h⟩ | ⟨h1, h2⟩
      · cases h
      · have hne : ¬ run.getD j 0 = -1 := by omega
        unfold nxS at h
        rw [if_neg hne] at h
        have e : s = ((ns.getD (fol ns (run.take j)).1 []).getD (run.getD j 0).toNat default).1 := by simpa using h
        rw [e]
        have hl2 : (run.getD j 0).toNat < (ns.getD (fol ns (run.take j)).1 []).length := by omega
        refine g.step (ns.getD (fol ns (run.take j)).1 []) ?_ _ ?_
        · rw [List.getD_eq_getElem?_getD, List.getElem?_eq_getElem hlt]; exact List.getElem_mem hlt
        · generalize ns.getD (fol ns (run.take j)).1 [] = es at hl2 ⊢
          rw [List.getD_eq_getElem?_getD, List.getElem?_eq_getElem hl2]
          exact List.getElem_mem hl2
theorem stepsW_len {ns : List (List (WS × Nat))} {run : List Int} : (stepsW ns run).length = run.length := by
  unfold stepsW
  rw [List.length_map, fol_len]
theorem foldT_ok {rule : Str} : ∀ (l : List WS), (∀ s ∈ l, WOk s) → (∀ z ∈ (foldT rule l).2, z ∈ wwords) ∧ (∀ z, (foldT rule l).1 = some z → z ∈ wwords) ∧ (foldT rule l).2.length ≤ l.length := by
  have say : ∀ (z : Str) (said : List Str), z ∈ wwords → (∀ y ∈ said, y ∈ wwords) → (∀ y ∈ sayW rule said z, y ∈ wwords) ∧ (sayW rule said z).length ≤ said.length + 1 := fun z said hz hs => by
    unfold sayW
    split
    · exact ⟨hs, Nat.le_succ _⟩
    · refine ⟨fun y hy => ?_, ?_⟩
      · rcases List.mem_append.mp hy with h | h
        · exact hs y (List.mem_filter.mp h).1
        · rw [List.mem_singleton.mp h]; exact hz
      · have h := List.length_filter_le (fun y => !decide (y = z)) said
        rw [List.length_append, List.length_singleton]
        omega
  have key : ∀ (n : Nat) (l : List WS), l.length = n → (∀ s ∈ l, WOk s) → (∀ z ∈ (foldT rule l).2, z ∈ wwords) ∧ (∀ z, (foldT rule l).1 = some z → z ∈ wwords) ∧ (foldT rule l).2.length ≤ l.length := fun n => by
   induction n with
   | zero =>
    intro l h0 _
    rw [List.length_eq_zero_iff.mp h0]
    exact ⟨(fun z h => by cases h), (fun z h => by cases h), Nat.le_refl _⟩
   | succ n ih =>
    intro l hl h
    obtain ⟨l, s, rfl⟩ : ∃ l' s, l = l' ++ [s] := ⟨l.dropLast, l.getLast (fun z => by rw [z] at hl; cases hl), (List.dropLast_concat_getLast _).symm⟩
    have ih := ih l (by rw [List.length_append, List.length_singleton] at hl; omega)
    obtain ⟨i1, i2, i3⟩ := ih fun x hx => h x (List.mem_append_left _ hx)
    have hs := h s (List.mem_append_right _ (List.mem_singleton.mpr rfl))
    rw [foldT_snoc, List.length_append, List.length_singleton]
    cases s with
    | set z => exact ⟨i1, fun y hy => by cases hy; exact hs, Nat.le_succ_of_le i3⟩
    | say z =>
      obtain ⟨a, b⟩ := say z _ hs i1
      exact ⟨a, i2, Nat.le_trans b (Nat.succ_le_succ i3)⟩
    | again =>
      unfold written
      cases hw : (foldT rule l).1 with
      | none => exact ⟨i1, fun y hy => i2 y hy, Nat.le_succ_of_le i3⟩
      | some z =>
        obtain ⟨a, b⟩ := say z _ (i2 z hw) i1
        exact ⟨a, fun y hy => by cases hy; exact i2 z hw, Nat.le_trans b (Nat.succ_le_succ i3)⟩
  exact fun l => key l.length l rfl
section
variable {P : Program} {w : World} {K : PySem.W.Frag} {mg : Str → Option Value} {base : Heap} {p : Addr} {ss : List SV} {te : TE} {tl th : TO} {R : PyData → Prop}
theorem evn_slice {lo hi : Option Int} (h : EvN K p te ss R) (hR : ∀ d, R d → ∃ xs, d = .tuple xs) (h1 : ∀ G, EvO K G tl ss lo) (h2 : ∀ G, EvO K G th ss hi) : EvN K p (tSl (rSlA K) te tl th) ss (fun d => ∃ xs, R (.tuple xs) ∧ d = .tuple (cutD xs lo hi)) := fun σ H hp s Q q =>
  h σ H hp s _ fun v d H1 e1 p1 r a => by
    obtain ⟨xs, rfl⟩ := hR d r
    exact ev_slice (G := gS H1) (te := fun _ H Q => Q v H) (fun σ' H' g _ Q' q' => q' v H' (Same.refl _) (a.mono (Same.tp g))) (h1 _) (h2 _) σ H1 (Same.refl H1) (s.mono (e1.tp hp)) Q fun v2 H2 e2 a2 => q v2 _ H2 (e1.trans e2.frP) (p1.mono e2) ⟨xs, r, rfl⟩ a2
theorem dts_rg {H : Hp} : ∀ l : List Nat, DTs K H (l.map fun i => V.int (0 + (i : Nat))) ((l.map fun n => ((n : Nat) : Int)).map PyData.int)
  | [] => .nil
  | n :: l => .cons (by show DT K H (V.int (0 + (n : Nat))) (PyData.int (n : Nat)); rw [Int.zero_add]; exact .int _) (dts_rg l)
/-- tuple(range(n)) -/
theorem ev_tupRg {G : Gm} {ta : TE} {n : Nat} (h : EvD K G ta ss (.int (n : Nat))) (hn : n ≤ 1000) : EvD K G (tTupRg (tRg1 ta)) ss (fD (List.range n)) := fun σ H g s Q q =>
  h σ H g s _ fun v H1 e1 a => by
    cases a
    refine ⟨_, rfl, ⟨by decide, by decide, by omega, by omega, by omega⟩, fun b hb => q (.ref b) _ (e1.trans (Same.new hb)) (.tup upd_same ?_)⟩
    unfold rgV
    have e : ((n : Int) - 0).toNat = n := by omega
    rw [e]
    exact dts_rg _
/-- a writer's object beside the pen -/
def nW (K : PySem.W.Frag) (H0 : Hp) (p x : Addr) (ns : List (List (WS × Nat))) (fs : List Nat) : Gn p := ⟨fun H => FrP p H0 H ∧ GAt K H a_Writer encW x ns fs, fun H H' a hp e => ⟨FrP.trans a.1 e, by
  obtain ⟨dx, v1, v2, h1, h2, h3⟩ := a.2
  refine ⟨dx, v1, v2, e _ _ h1 fun z => ?_, h2.mono (e.tp hp), h3.mono (e.tp hp)⟩
  obtain ⟨_, _, _, hp⟩ := hp
  rw [z, hp] at h1
  cases h1⟩⟩
theorem gD_inj {α : Type} {enc : α → PyData} (he : ∀ a b, enc a = enc b → a = b) {ns ns' : List (List (α × Nat))} (h : gD enc ns = gD enc ns') : ns = ns' := by
  unfold gD at h
  have h := PyData.tuple.inj h
  refine (List.map_inj_right fun es es' h => ?_).mp h
  have h := PyData.tuple.inj h
  refine (List.map_inj_right fun e e' h => ?_).mp h
  have h := PyData.tuple.inj h
  obtain ⟨h1, h2⟩ := List.cons.inj h
  obtain ⟨h2, _⟩ := List.cons.inj h2
  have h2 := PyData.int.inj h2
  exact Prod.ext (he _ _ h1) (by omega)
theorem encW_inj (a b : WS) (h : encW a = encW b) : a = b := by
  cases a <;> cases b <;> simp [encW] at h <;> first | rfl | exact absurd h.1 (by decide +kernel) | exact absurd h (by decide +kernel) | (subst h; rfl) | (have h2 := h.2; subst h2; rfl)
theorem q_parMk {G : Gm} {C : Addr} {sp : SpN} {tA : TA} {us : TS} {D : Ends} {i j : Nat} (h : ∀ σ H, G.p H → DS K H σ ss → tMk C sp tA σ H (fun v H1 => te σ H1 fun w H2 => ∃ v' w', [v, w] = [v', w'] ∧ us D ((σ.set i (some v')).set j (some w')) H2)) : StD K G (tSeq (tPar i j (tCons (tMk C sp tA) (tCons te tNil))) us) D ss := fun σ H g s => h σ H g s
theorem cutD_take {α : Type} {f : α → PyData} {xs : List α} {n : Nat} : cutD (xs.map f) none (some (n : Int)) = (xs.take n).map f := by
  unfold cutD
  have e1 : HT.sIx (xs.map f).length (xs.map f).length (some (n : Int)) = min n xs.length := by rw [HT.sIx_nat, List.length_map]
  have e2 : HT.sIx (xs.map f).length 0 none = 0 := rfl
  rw [e1, e2, List.drop_zero, Nat.sub_zero, List.map_take]
  by_cases h : n ≤ xs.length
  · rw [Nat.min_eq_left h]
  · rw [Nat.min_eq_right (by omega), List.take_of_length_le (by rw [List.length_map]; exact Nat.le_refl _), List.take_of_length_le (by rw [List.length_map]; omega)]
theorem fok_range {n : Nat} (h : n ≤ 6) : FOk n (List.range n) := by
  refine ⟨fun i hi => ?_, fun i hi => ?_, by rw [List.length_range]; exact h⟩
  · rw [List.length_range] at hi
    rw [List.getD_eq_getElem?_getD, List.getElem?_range hi]
    exact hi
  · rw [List.length_range] at hi
    rw [List.getD_eq_getElem?_getD, List.getD_eq_getElem?_getD, List.getElem?_range (by omega), List.getElem?_range hi]
    exact Nat.lt_succ_self i
theorem ev_wsteps {G : Gm} {ta : TE} {x : Addr} {i : Nat} {ns : List (List (WS × Nat))} {fs : List Nat} {run : List Int} (hx : ss[i]? = some (.v (.ref x))) (hi : ∀ H, G.p H → GAt K H a_Writer encW x ns fs) (g : GOk WOk ns) (rv : RunV false ns run) (hl : run.length ≤ 900) (h : EvD K G ta ss (.tuple (run.map .int))) :
    EvD K G (tMt a_Writer "steps" (spWS K) (tVar i) (tCons ta tNil)) ss (.tuple ((fol ns run).2.map (stD encW))) := fun σ H gp s Q q => by
  have ga := hi H gp
  obtain ⟨dx, v1, v2, h1, _, _⟩ := id ga
  exact ⟨.ref x, s.v hx, x, dx, _, rfl, h1, rfl, h σ H gp s _ fun v H1 e1 a => ⟨x, v, ns, fs, run, rfl, ga.mono e1, g, a, rv, hl, fun v H2 e2 d => q v H2 (e1.trans e2) d⟩⟩
theorem sc_L_honest : FnScope ["_law_pen_here", "_law_rule_here", "_law_way", "_law_nodes", "_law_finals", "_law_run", "_law_many", "_law_writer", "_law_kind", "_law_step", "_law_word", "_law_said"] ["_law_pen_here", "_law_rule_here", "_law_way"] (defScope s_L_honest) := ⟨rfl, rfl, rfl, by decide +kernel, rfl, by decide +kernel, by decide +kernel⟩
theorem ok__law_honest (T : Tx w K mg) (Pf : PF P) : FnN P w K mg base 7 a__law_honest (spP K (fun ds => ∃ rule way : Str, ds = [.str rule, .str way]) fun ds d => ∃ (rule way : Str) (l : List WS), ds = [.str rule, .str way] ∧ d = .tuple (l.map encW) ∧ Honest rule way l) := by
  obtain ⟨fd, F⟩ := T.F_L_honest
  refine F.okN rfl sc_L_honest (fun _ _ _ _ _ _ us hl => match us, hl with | [_, _, _], _ => rfl) (fun vs H Q h => ?_) (fun A outer s H vs Q hr h => ⟨_, (pss_cons (ps_set (i := 3) sc_L_honest.nd rfl (Or.inl rfl) (pe_cl (ok__law_writer_nodes T) (hr.mono (by decide)) T.kp__law_writer_nodes T.g__law_writer_nodes (pa_cons (pv 0) (pa_cons pe_int pa_nil)))) (pss_cons (ps_set (i := 4) sc_L_honest.nd rfl (Or.inl rfl) (pe_tupRg (by rfl) (by rfl) T.z_tuple (prg_1 (by rfl) T.z_range (pe_callB call_len (by rfl) T.z_len PySem.boot_len (pa_cons (pv 3) pa_nil))))) (pss_cons (ps_par (i := 7) (j := 8) rfl sc_L_honest.nd rfl rfl (by decide) rfl rfl (pa_cons (pe_mk (ok_Writer_D_init_D T Pf) (hr.mono (by decide)) T.mk_Writer T.g_Writer (pa_cons (pv 3) (pa_cons (pv 4) pa_nil))) (pa_cons (pe_ifExp (pt_cmpR op_eq (pv 2) pe_str (nomark _)) pe_str pe_str) pa_nil)) (by rfl)) (pss_cons (ps_set (i := 5) sc_L_honest.nd rfl (Or.inl rfl) (pe_slice sl_tupA (pe_cl (ok__law_final_run T) (hr.mono (by decide)) T.kp__law_final_run T.g__law_final_run (pa_cons (pv 0) (pa_cons (pv 3) (pa_cons (pv 4) pa_nil)))) po_none (po_some pe_int))) (pss_cons (ps_for PassesOwn.never rfl (pi_range3 (by rfl) T.z_range (pa_cons (pe_callB call_len (by rfl) T.z_len PySem.boot_len (pa_cons (pv 5) pa_nil)) (pa_cons (pe_un un_neg pe_int) (pa_cons (pe_un un_neg pe_int) pa_nil)))) (pg_name (i := 6) sc_L_honest.nd rfl (Or.inl rfl)) (pss_cons (ps_asg (pe_tup (pa_cons pe_non (pa_cons (pe_tup pa_nil) pa_nil))) (pg_tup rfl (pgs_cons (pg_name (i := 10) sc_L_honest.nd rfl (Or.inl rfl)) (pgs_cons (pg_name (i := 11) sc_L_honest.nd rfl (Or.inl rfl)) pgs_nil)))) (pss_cons (ps_for PassesOwn.never rfl (pi_tup (pe_mt (ok_Writer_steps T) (hr.mono (by decide)) T.c_Writer T.me_Writer_steps (pv 7) (pa_cons (pe_slice sl_tupA (pv 5) po_none (po_some (pv 6))) pa_nil))) (pg_name (i := 9) sc_L_honest.nd rfl (Or.inl rfl)) (pss_one (ps_asg (pe_cl (ok__law_written T) (hr.mono (by decide)) T.kp__law_written T.g__law_written (pa_cons (pv 1) (pa_cons (pv 10) (pa_cons (pv 11) (pa_cons (pv 9) pa_nil))))) (pg_tup rfl (pgs_cons (pg_name (i := 10) sc_L_honest.nd rfl (Or.inl rfl)) (pgs_cons (pg_name (i := 11) sc_L_honest.nd rfl (Or.inl rfl)) pgs_nil)))))) (pss_one (ps_if (pt_not (pt_val (pe_cl (ok__law_lies T) (hr.mono (by decide)) T.kp__law_lies T.g__law_lies (pa_cons (pv 8) (pa_cons (pv 10) (pa_cons (pv 11) pa_nil)))))) (pss_one (ps_ret (pe_mt (ok_Writer_steps T) (hr.mono (by decide)) T.c_Writer T.me_Writer_steps (pv 7) (pa_cons (pe_slice sl_tupA (pv 5) po_none (po_some (pv 6))) pa_nil)))) pss_nil))))) (pss_one (ps_ret (pe_tup pa_nil)))))))), ?_⟩)
  · obtain ⟨p, vs', ds, rfl, _, h1, ⟨_, _, rfl⟩, _⟩ := h
    exact congrArg Nat.succ h1.len
  obtain ⟨p, vs', ds, rfl, hp, hd, ⟨rule, way, rfl⟩, q⟩ := h
  have s0 := DS.startM (N := ["_law_pen_here", "_law_rule_here", "_law_way", "_law_nodes", "_law_finals", "_law_run", "_law_many", "_law_writer", "_law_kind", "_law_step", "_law_word", "_law_said"]) (a := .ref p) hd
  have s0 : DS K H (L2.start ["_law_pen_here", "_law_rule_here", "_law_way", "_law_nodes", "_law_finals", "_law_run", "_law_many", "_law_writer", "_law_kind", "_law_step", "_law_word", "_law_said"] (.ref p :: vs')) [.v (.ref p), .d (.str rule), .d (.str way), .no, .no, .no, .no, .no, .no, .no, .no, .no] := s0
  refine StD.go (G := gN (nS H p)) ?_ ⟨FrP.refl, hp⟩ s0
  refine q_setN (evn_pen rfl (evna_cons (evn_of ev_int) evna_nil) fun ds ⟨d, ds', e, e1, e2⟩ => ⟨4, by rw [e, e1, e2], by decide, by decide⟩) fun d ⟨ds, _, ns, ed, g, _⟩ => ?_
  subst ed
  refine q_setN (evn_of (ev_tupRg (n := ns.length) (ev_toD (ev_len (ds := ns.map (rowD encW)) rfl (ev_var rfl)) (by rw [List.length_map])) (by have := g.six; omega))) fun d hd => ?_
  subst hd
  refine q_parMk fun σ H1 g1 s1 => ?_
  unfold tMk
  refine (eva_cons (ev_var (i := 3) rfl) (eva_cons (ev_var (i := 4) rfl) eva_nil) : EvA K (gS H1) _ _ [gD encW ns, fD (List.range ns.length)]) σ H1 (Same.refl H1) s1 _ fun vs H2 e2 a2 => fun x dx hx hdx ne => ?_
  cases a2 with
  | @cons v1 vs1 _ _ b1 a2 =>
  cases a2 with
  | @cons v2 vs2 _ _ b2 a2 =>
  cases a2
  have e5 := Same.new (o := HO.own x) hdx
  have hx5 : upd H2 dx (.own x) x = none := (upd_ne ne.symm).trans hx
  have e6 := e5.trans (Same.new (o := HO.ins a_Writer dx []) hx5)
  refine ⟨x, dx, v1, v2, ns, List.range ns.length, rfl, upd_same, b1.mono e6.tp, b2.mono e6.tp, g, fok_range g.six, trivial, fun H7 e7 ga => ⟨rfl, ?_⟩⟩
  have e27 : Same H2 H7 := fun b o hb => e7 b o (e6 _ _ hb) fun z => by rw [z, hx] at hb; cases hb
  have e17 := e2.trans e27
  refine (ev_if (x := .str (if way = "reread" then "reread" else "take")) (evt_test (ev_eqs (ev_var (i := 2) rfl) ev_str)) (fun h => by rw [if_pos (of_decide_eq_true h)]; exact ev_str) (fun h => by rw [if_neg (of_decide_eq_false h)]; exact ev_str) : EvD K (gS H7) _ _ _) σ H7 (Same.refl H7) (s1.mono e17.tp) _ fun kv H8 e8 dk => ⟨_, _, rfl, ?_⟩
  have e18 := e17.trans e8
  refine StD.go (G := gN (nW K H p x ns (List.range ns.length))) (ss := [.v (.ref p), .d (.str rule), .d (.str way), .d (gD encW ns), .d (fD (List.range ns.length)), .no, .no, .v (.ref x), .d (.str (if way = "reread" then "reread" else "take")), .no, .no, .no]) ?_ ⟨⟨FrP.trans g1.1 e18.frP, ga.mono e8⟩, g1.2.mono e18⟩ (((s1.mono e18.tp).set (i := 7) (s := .v (.ref x)) rfl).set (i := 8) (s := .d _) ⟨kv, rfl, dk⟩)
  generalize hk : (if way = "reread" then ("reread" : Str) else "take") = kind
  refine q_setN (evn_slice (lo := none) (hi := some (7 : Nat)) (evn_pen rfl (evna_cons (evn_of (ev_var rfl)) (evna_cons (evn_of (ev_var rfl)) evna_nil)) fun ds ⟨d, ds1, e, e1, d2, ds2, e2, e3, e4⟩ => ⟨ns, by rw [e, e1, e2, e3, e4], g⟩) (fun d ⟨ds, _, ns2, run, _, h2, _⟩ => ⟨_, h2⟩) (fun G => evo_none) (fun G => evo_some ev_int)) fun d ⟨xs, ⟨ds, ⟨d1, ds1, e, e1, d2, ds2, e2, e3, e4⟩, ns2, run0, h1, h2, rv0, hl0⟩, hd⟩ => ?_
  have ens : ns2 = ns := by
    have z : [gD encW ns, fD (List.range ns.length)] = [gD encW ns2, fD (List.range ns2.length)] := by rw [← h1, e, e1, e2, e3, e4]
    exact (gD_inj encW_inj (List.cons.inj z).1).symm
  subst ens
  have exs := PyData.tuple.inj h2
  subst exs
  have hd : d = .tuple ((run0.take 7).map PyData.int) := by rw [hd, cutD_take]
  subst hd
  have rv := rv0.take 7
  have hl : (run0.take 7).length ≤ 7 := by rw [List.length_take]; omega
  generalize run0.take 7 = run at rv hl
  have hrt : ∀ (G' : Gm), (∀ H', G'.p H' → (gN (nW K H p x ns2 (List.range ns2.length))).p H') → ∀ (l : List WS) (D : Ends), D.rt = Q → Honest rule way l → RtD K G' D (.tuple (l.map encW)) := fun G' hG l D hD ho v H' g' a => by
    rw [hD]
    exact q v _ H' (hG _ g').1.1 (hG _ g').2 ⟨rule, way, l, rfl, rfl, ho⟩ a
  refine q_forW (n := run.length + 1) (f := fun i => .int ((run.length : Int) - (i : Nat))) (fun j => [.v (.ref p), .d (.str rule), .d (.str way), .d (gD encW ns2), .d (fD (List.range ns2.length)), .d (.tuple (run.map .int)), .no, .v (.ref x), .d (.str kind), .no, .no, .no]) (evw_down (eva_cons (ev_toD (ev_len rfl (ev_var rfl)) (by rw [List.length_map])) (eva_cons (ev_neg ev_int) (eva_cons (ev_neg ev_int) eva_nil))) (by omega)) ⟨.inr rfl, .inr rfl, .inr rfl, .inr rfl, .inr rfl, .inr rfl, .inr rfl, .inr rfl, .inr rfl, .inr rfl, .inr rfl, .inr rfl, trivial⟩ (fun G' hG i hi => ?_) (st_ret (d := .tuple []) (ev_tup eva_nil) (hrt _ (fun _ h => h) [] _ rfl honest_nil))
  obtain ⟨m, hm⟩ : ∃ m : Nat, (run.length : Int) - (i : Nat) = m := ⟨run.length - i, by omega⟩
  rw [hm]
  have hml : m ≤ run.length := by omega
  have hlen : (stepsW ns2 (run.take m)).length ≤ 7 := by rw [stepsW_len, List.length_take]; omega
  have hok := stepsW_ok g rv m hml
  have henc := stepsW_enc rv m hml
  have hsteps : ∀ {G2 : Gm} {ss : List SV}, (∀ H', G2.p H' → G'.p H') → ss[7]? = some (.v (.ref x)) → ss[5]? = some (.d (.tuple (run.map .int))) → ss[6]? = some (.d (.int m)) → EvD K G2 (tMt a_Writer "steps" (spWS K) (tVar 7) (tCons (tSl (rSlA K) (tVar 5) tNoPart (tPart (tVar 6))) tNil)) ss (.tuple ((stepsW ns2 (run.take m)).map encW)) := fun hG2 h7 h5 h6 =>
    ev_to' (ev_wsteps h7 (fun H' g' => (hG _ (hG2 _ g')).1.2) g (rv.take m) (by rw [List.length_take]; omega) (ev_to' (ev_slice (lo := none) (hi := some (m : Int)) (ev_var h5) evo_none (evo_some (ev_var h6))) (cutD_to hml))) henc
  generalize stepsW ns2 (run.take m) = l at hlen hok hsteps
  refine q_unpack (is := [10, 11]) (ds := [.none, .tuple []]) rfl rfl (ev_tup (eva_cons ev_non (eva_cons (ev_tup eva_nil) eva_nil))) rfl ?_
  refine q_forW (n := l.length) (fun j => [.v (.ref p), .d (.str rule), .d (.str way), .d (gD encW ns2), .d (fD (List.range ns2.length)), .d (.tuple (run.map .int)), .d (.int m), .v (.ref x), .d (.str kind), .no, .d (oD (foldT rule (l.take j)).1), .d (sD (foldT rule (l.take j)).2)]) (evw_tupM (h := encW) (l := l) .again (hsteps (fun _ h => h) rfl rfl rfl)) ⟨.inr rfl, .inr rfl, .inr rfl, .inr rfl, .inr rfl, .inr rfl, .inr rfl, .inr rfl, .inr rfl, .inr rfl, .inr rfl, .inr rfl, trivial⟩ (fun G2 hG2 j hj => ?_) ?_
  · have hts : l.take (j + 1) = l.take j ++ [l.getD j .again] := by
      rw [List.take_succ, List.getD_eq_getElem?_getD, List.getElem?_eq_getElem hj] <;> rfl
    have hf := foldT_ok (rule := rule) (l.take j) fun s hs => hok s (List.mem_of_mem_take hs)
    have hl9 : (foldT rule (l.take j)).2.length ≤ 900 := by
      have := hf.2.2
      rw [List.length_take] at this
      omega
    have hst : oD (foldT rule (l.take (j + 1))).1 = oD (written rule (foldT rule (l.take j)) (l.getD j .again)).1 ∧ sD (foldT rule (l.take (j + 1))).2 = sD (written rule (foldT rule (l.take j)) (l.getD j .again)).2 := by rw [hts, foldT_snoc]; exact ⟨rfl, rfl⟩
    rw [hst.1, hst.2]
    refine q_unpack (us := tNext) (is := [10, 11]) (ds := [oD (written rule (foldT rule (l.take j)) (l.getD j .again)).1, sD (written rule (foldT rule (l.take j)) (l.getD j .again)).2]) rfl rfl (ev_cl (eva_cons (ev_var rfl) (eva_cons (ev_var rfl) (eva_cons (ev_var rfl) (eva_cons (ev_var rfl) eva_nil)))) ⟨rule, foldT rule (l.take j), l.getD j .again, rfl, hl9, rfl⟩) rfl (st_nxV rfl ⟨.inr rfl, .inr rfl, .inr rfl, .inr rfl, .inr rfl, .inr rfl, .inr rfl, .inr rfl, .inr rfl, .inl rfl, .inr rfl, .inr rfl, trivial⟩)
  · rw [List.take_length]
    have hf := foldT_ok (rule := rule) l hok
    refine s_if (evt_not (evt_test (ev_cl (eva_cons (ev_var rfl) (eva_cons (ev_var rfl) (eva_cons (ev_var rfl) eva_nil))) ⟨kind, (foldT rule l).1, (foldT rule l).2, rfl, hf.1, hf.2.1, rfl⟩))) (fun hb => ?_) (fun _ => st_nxV rfl ⟨.inr rfl, .inr rfl, .inr rfl, .inr rfl, .inr rfl, .inr rfl, .inl rfl, .inr rfl, .inr rfl, .inl rfl, .inl rfl, .inl rfl, trivial⟩)
    refine st_ret (hsteps (fun _ h => h) rfl rfl rfl) (hrt G' hG l _ rfl ⟨hlen, hok, ?_⟩)
    rw [hk]
    simpa using hb
end
end KX
set_option maxHeartbeats 4000000
namespace KX
open PySem PySem.Spec PyProof.Rows L2
/-! ### what bob commits -/
def rowS (t : List Row × Option Str) : WS → List Row × Option Str
  | .set z => (t.1 ++ [.set z], some z)
  | .say z => (t.1 ++ [.say z], t.2)
  | .again => match t.2 with
    | none => t
    | some z => (t.1 ++ [.say z], t.2)
def rowF (l : List WS) : List Row × Option Str := l.foldl rowS ([], none)
theorem rowF_snoc {l : List WS} {s : WS} : rowF (l ++ [s]) = rowS (rowF l) s := by
  unfold rowF
  rw [List.foldl_append] <;> rfl
def KS.commitB (rule : Str) (l : List WS) (s : KS) : KS := { s with w0 := (setW (rowF l).1).getD s.w0, n0 := if (setW (rowF l).1).isSome then s.np + 1 else s.n0, np := s.np + 1, ents := s.ents ++ (foldW rule (saidW (rowF l).1)).map fun z => (s.np + 1, z) }
theorem paired_append {α β : Type} {G : α → β → Prop} {l l' : List α} {m m' : List β} (h : Paired G l m) (h2 : Paired G l' m') : Paired G (l ++ l') (m ++ m') := by
  induction h with
  | nil => exact h2
  | cons a t ih => exact .cons a ih
theorem rowS_len (t : List Row × Option Str) (s : WS) : (rowS t s).1.length ≤ t.1.length + 1 := by
  obtain ⟨rs, last⟩ := t
  cases s with
  | set z => simp [rowS]
  | say z => simp [rowS]
  | again => cases last <;> simp [rowS]
structure RowsOk (t : List Row × Option Str) (n : Nat) : Prop where
  len : t.1.length ≤ n
  said : ∀ z ∈ saidW t.1, z ∈ wwords
  last : ∀ z, t.2 = some z → z ∈ wwords
  wish : wishW t.1 = none
theorem rowF_ok : ∀ (n : Nat) (l : List WS), l.length = n → (∀ x ∈ l, WOk x) → RowsOk (rowF l) n := fun n => by
  induction n with
  | zero =>
    intro l h0 _
    rw [List.length_eq_zero_iff.mp h0]
    exact ⟨Nat.le_refl _, (fun z h => by cases h), (fun z h => by cases h), rfl⟩
  | succ n ih =>
    intro l hl h
    obtain ⟨l, s, rfl⟩ : ∃ l' s, l = l' ++ [s] := ⟨l.dropLast, l.getLast (fun z => by rw [z] at hl; cases hl), (List.dropLast_concat_getLast _).symm⟩
    have ih := ih l (by rw [List.length_append, List.length_singleton] at hl; omega) fun x hx => h x (List.mem_append_left _ hx)
    have hs := h s (List.mem_append_right _ (List.mem_singleton.mpr rfl))
    rw [rowF_snoc]
    generalize rowF l = t at ih ⊢
    obtain ⟨rs, last⟩ := t
    obtain ⟨i1, i2, i3, i4⟩ := ih
    have say : ∀ z, z ∈ wwords → RowsOk (rs ++ [.say z], last) (n + 1) := fun z hz => ⟨by simpa using i1, fun y hy => by
      rw [saidW_snoc] at hy
      rcases List.mem_append.mp hy with h | h
      · exact i2 y h
      · rw [List.mem_singleton.mp h]; exact hz, i3, by unfold wishW; rw [selS_snoc]; exact i4⟩
    cases s with
    | set z => exact ⟨by simpa [rowS] using i1, fun y hy => i2 y (by rw [show (rowS (rs, last) (.set z)).1 = rs ++ [.set z] from rfl, saidW_snoc, List.append_nil] at hy; exact hy), fun y hy => by cases hy; exact hs, by
        show wishW (rs ++ [.set z]) = none
        unfold wishW
        rw [selS_snoc]
        exact i4⟩
    | say z => exact say z hs
    | again =>
      cases hlast : last with
      | none =>
        subst hlast
        exact ⟨Nat.le_succ_of_le i1, i2, i3, i4⟩
      | some z =>
        subst hlast
        exact say z (i3 z rfl)
theorem foldW_len (rule : Str) (ws : List Str) : (foldW rule ws).length ≤ ws.length := by
  unfold foldW
  split
  · exact onceW_len ws
  · split
    · rw [List.length_reverse]
      have := onceW_len ws.reverse
      rw [List.length_reverse] at this
      exact this
    · exact Nat.le_refl _
/-- bob's open transaction -/
structure BobI (a : Ads) (tc DB x dx SD : Addr) (bg : Int) (RL ML : Addr) (H0 : Hp) (rs : List V) (rows : List Row) (H : Hp) : Prop where
  fr : ∀ b o, H0 b = some o → b ≠ a.B → H b = some o
  hB : H a.B = some (.ins a_Client a.dB (cliF a.S "bob" (.ref x) DB (posV none)))
  hx : H x = some (.ins a_Transaction dx (trF a.S a.B SD bg RL ML true))
  hSD : H SD = some (.dK [(.inr "a", .ref tc)])
  hRL : H RL = some (.lst rs)
  hr : Paired (RowV H) rs rows
theorem BobI.same {a : Ads} {tc DB x dx SD : Addr} {bg : Int} {RL ML : Addr} {H0 : Hp} {rs : List V} {rows : List Row} {H H' : Hp} (h : BobI a tc DB x dx SD bg RL ML H0 rs rows H) (e : Same H H') : BobI a tc DB x dx SD bg RL ML H0 rs rows H' :=
  ⟨fun b o hb hn => e _ _ (h.fr b o hb hn), e _ _ h.hB, e _ _ h.hx, e _ _ h.hSD, e _ _ h.hRL, Paired.mapP h.hr fun _ _ r => r.mono e⟩
theorem BobI.push {a : Ads} {tc DB x dx SD : Addr} {bg : Int} {RL ML : Addr} {H0 : Hp} {rs : List V} {rows : List Row} {H H' : Hp} {v : V} {r : Row} (h : BobI a tc DB x dx SD bg RL ML H0 rs rows H) (f : ∀ b o, H b = some o → b ≠ RL → H' b = some o) (hL : H' RL = some (.lst (rs ++ [v]))) (hv : RowV H' v r) (h0 : H0 RL = none) : BobI a tc DB x dx SD bg RL ML H0 (rs ++ [v]) (rows ++ [r]) H' := by
  have hRL := h.hRL
  refine ⟨fun b o hb hn => f _ _ (h.fr b o hb hn) (fun z => by rw [z, h0] at hb; cases hb), f _ _ h.hB (fun z => by have q := h.hB; rw [z, hRL] at q; cases q), f _ _ h.hx (fun z => by have q := h.hx; rw [z, hRL] at q; cases q), f _ _ h.hSD (fun z => by have q := h.hSD; rw [z, hRL] at q; cases q), hL, ?_⟩
  refine paired_append (Paired.mapP h.hr fun _ _ r => RowV.imm (fun b o hb hi => f b o hb fun z => ?_) r) (.cons hv .nil)
  rw [z, hRL] at hb
  cases hb
  rcases hi with ⟨_, hi⟩ | ⟨_, _, hi⟩ <;> cases hi
section
variable {P : Program} {w : World} {K : PySem.W.Frag} {mg : Str → Option Value} {base : Heap} {p : Addr}
theorem sc_L_committed : FnScope ["_law_client", "_law_steps", "_law_step", "_law_work", "_law_last"] ["_law_client", "_law_steps"] (defScope s_L_committed) := ⟨rfl, rfl, rfl, by decide +kernel, rfl, by decide +kernel, by decide +kernel⟩
theorem ok__law_committed (T : Tx w K mg) : FnN P w K mg base 7 a__law_committed (fun vs H Q => ∃ a s tc D DB ps qs wk N v l, vs = [.ref a.B, v] ∧ KH a s tc D DB ps qs wk N H ∧ DT K H v (.tuple (l.map encW)) ∧ l.length ≤ 7 ∧ (∀ x ∈ l, WOk x) ∧ a.rule ∈ rules ∧ s.np ≤ 800 ∧ s.ents.length + 7 ≤ 190 ∧ s.n0 ≤ s.np ∧
    ∀ H' tc' DB' ps' qs', KH a (s.commitB a.rule l) tc' D DB' ps' qs' wk N H' → FrN N H H' → Q (.bl true) H') := by
  obtain ⟨fd, F⟩ := T.F_L_committed
  refine F.okN rfl sc_L_committed (fun _ _ _ _ _ _ us hl => match us, hl with | [_, _], _ => rfl) (fun vs H Q h => ?_) (fun A outer s H vs Q hr h => ⟨_, (pss_cons (ps_par (i := 3) (j := 4) rfl sc_L_committed.nd rfl rfl (by decide) rfl rfl (pa_cons (pe_mt0 (ok_Sender_begin T) (hr.mono (by decide)) T.c_Client T.me_Client_begin (pv 0)) (pa_cons pe_non pa_nil)) (by rfl)) (pss_cons (ps_for PassesOwn.never rfl (pi_tup (pv 1)) (pg_name (i := 2) sc_L_committed.nd rfl (Or.inl rfl)) (pss_one (ps_if (pt_cmpR op_eq (pe_ix ix_tup (pv 2) pe_int (fun _ _ => rfl)) pe_str (nomark _)) (pss_cons (ps_asg (pe_ix ix_tup (pv 2) pe_int (fun _ _ => rfl)) (pg_sub (pv 3) pe_str (set_own (ok_Transaction_D_setitem_D T) (hr.mono (by decide)) T.noseq_Transaction T.o_Transaction_setitem (T.F_Transaction_D_setitem_D.elim fun _ F => F.fn)))) (pss_one (ps_set (i := 4) sc_L_committed.nd rfl (Or.inl rfl) (pe_ix ix_tup (pv 2) pe_int (fun _ _ => rfl))))) (pss_one (ps_if (pt_cmpR op_eq (pe_callB call_len (by rfl) T.z_len PySem.boot_len (pa_cons (pv 2) pa_nil)) pe_int (nomark _)) (pss_one (ps_aug (i := 3) sc_L_committed.nd rfl (Or.inl rfl) (pe_mk (ok_Notice_D_init_D T) (hr.mono (by decide)) T.mk_Notice T.g_Notice (pa_cons pe_str (pa_cons (pe_ix ix_tup (pv 2) pe_int (fun _ _ => rfl)) pa_nil))) (ip_own (op := .Add) (ok_Transaction_D_iadd_D T) (hr.mono (by decide)) T.self_Transaction T.o_Transaction_iadd (T.F_Transaction_D_iadd_D.elim fun _ F => F.fn)))) (pss_one (ps_if (pt_cmpR op_notN (pv 4) pe_non (nomark _)) (pss_one (ps_aug (i := 3) sc_L_committed.nd rfl (Or.inl rfl) (pe_mk (ok_Notice_D_init_D T) (hr.mono (by decide)) T.mk_Notice T.g_Notice (pa_cons pe_str (pa_cons (pv 4) pa_nil))) (ip_own (op := .Add) (ok_Transaction_D_iadd_D T) (hr.mono (by decide)) T.self_Transaction T.o_Transaction_iadd (T.F_Transaction_D_iadd_D.elim fun _ F => F.fn)))) pss_nil))))))) (pss_one (ps_ret (pe_cmpR op_gt (pe_mt0 (ok_Transaction_commit T) (hr.mono (by decide)) T.c_Transaction T.me_Transaction_commit (pv 3)) pe_int (nomark _)))))), ?_⟩)
  · obtain ⟨a, s, tc, D, DB, ps, qs, wk, N, v, l, rfl, _⟩ := h
    rfl
  obtain ⟨a, s, tc, D, DB, ps, qs, wk, N, v, l, rfl, h, dl, hl, hok, hru, hnp, hen, hn0, q⟩ := h
  have s0 : DS K H (L2.start ["_law_client", "_law_steps", "_law_step", "_law_work", "_law_last"] [.ref a.B, v]) [.v (.ref a.B), .d (.tuple (l.map encW)), .no, .no, .no] := .cons (s := .v _) rfl (.cons (s := .d _) ⟨_, rfl, dl⟩ (DS.nos 3))
  cases dl with
  | @tup vb xs _ sq ts =>
  have hx0 : xs.length = l.length := by rw [ts.len, List.length_map]
  refine ⟨.ref a.B, s0.v (i := 0) rfl, a.B, a.dB, _, rfl, h.hB, rfl, a.B, a.dB, a.S, "bob", DB, posV none, a.dS, a.rule, a.C, a.M, a.PL, a.QL, _, ps, rfl, h.hB, h.hS, h.hC, h.hPL, fun x dx SD RL ML H1 fr hB1 hx1 hSD1 hRL1 hML1 nx nSD nRL nML nRM => ?_⟩
  have fr : ∀ b o, H b = some o → ¬ b = a.B → H1 b = some o := fr
  have hb1 : BobI a tc DB x dx SD (ps.length : Nat) RL ML H [] [] H1 := ⟨fun b o hb hn => fr b o hb hn, hB1, hx1, hSD1, hRL1, .nil⟩
  have tpB : ∀ {rs rows H'}, BobI a tc DB x dx SD (ps.length : Nat) RL ML H rs rows H' → Tp K H H' := fun hb b ys hy => hb.fr b _ hy fun z => by
    rw [z, h.hB] at hy
    cases hy
  have s1 := ((s0.mono (tpB hb1)).set (i := 3) (s := .v (.ref x)) (v := .ref x) rfl).set (i := 4) (s := .d .none) (v := .non) ⟨_, rfl, .non⟩
  refine ⟨_, _, rfl, .ref vb, rfl, vb, rfl, ⟨xs, SqT.of (tpB hb1 _ _ sq)⟩, ?_⟩
  refine for_it (walk_tup (K := K) (a := vb) (xs := xs)) (fun j σ' H' => ∃ rs, BobI a tc DB x dx SD (ps.length : Nat) RL ML H rs (rowF (l.take j)).1 H' ∧ DS K H' σ' [.v (.ref a.B), .d (.tuple (l.map encW)), .no, .v (.ref x), .d (oD (rowF (l.take j)).2)]) ⟨[], hb1, s1⟩ (fun j σ' H' _ p => by obtain ⟨rs, hb, _⟩ := p; exact SqT.of (tpB hb _ _ sq)) (fun j xv σ' Hx H' hj ⟨rs, hb, s'⟩ y => ?_) (fun σ' H' ⟨rs, hb, s'⟩ => ?_)
  · obtain ⟨rfl, hxv⟩ := y
    obtain ⟨d, hd, dd⟩ := (ts.mono (tpB hb)).getV hxv
    have hj : j < l.length := by omega
    have hts : l.take (j + 1) = l.take j ++ [l.getD j .again] := by
      rw [List.take_succ, List.getD_eq_getElem?_getD, List.getElem?_eq_getElem hj] <;> rfl
    have hoj : WOk (l.getD j .again) := hok _ (by rw [List.getD_eq_getElem?_getD, List.getElem?_eq_getElem hj]; exact List.getElem_mem hj)
    have hdj : d = encW (l.getD j .again) := by
      rw [List.getElem?_map, List.getElem?_eq_getElem hj] at hd
      rw [List.getD_eq_getElem?_getD, List.getElem?_eq_getElem hj]
      exact (Option.some.inj hd).symm
    subst hdj
    have rok := rowF_ok _ (l.take j) rfl fun x hx => hok x (List.mem_of_mem_take hx)
    have rl : rs.length ≤ 900 := by
      rw [Paired.length hb.hr]
      have := rok.len
      rw [List.length_take] at this
      omega
    rw [hts, rowF_snoc]
    generalize l.getD j .again = sj at dd hoj
    generalize hrf : rowF (l.take j) = rt at hb s' rok
    obtain ⟨rows, last⟩ := rt
    have push : ∀ {H2 : Hp} {v : V} {r : Row}, (∀ b o, H' b = some o → b ≠ RL → H2 b = some o) → H2 RL = some (.lst (rs ++ [v])) → RowV H2 v r → BobI a tc DB x dx SD (ps.length : Nat) RL ML H (rs ++ [v]) (rows ++ [r]) H2 := fun f hL hv => hb.push f hL hv nRL
    have tpR : ∀ {H2 : Hp}, (∀ b o, H' b = some o → b ≠ RL → H2 b = some o) → Tp K H' H2 := fun f b ys hy => f b _ hy fun z => by
      have q := hb.hRL
      rw [← z, hy] at q
      cases q
    have s1 := s'.set (i := 2) (s := .v xv) (v := xv) rfl
    -- work += Notice("a", z)
    have made : ∀ {n dn : Addr} {H2 : Hp}, H' n = none → H' dn = none → dn ≠ n → Fr (fun b => b = n) (upd (upd H' dn (.own n)) n (.ins a_Notice dn [])) H2 → Same H' H2 := fun {n dn H2} hn hdn nne fr2 b o hb => by
      have e5 := Same.new (o := HO.own n) hdn
      have hn5 : upd H' dn (.own n) n = none := (upd_ne nne.symm).trans hn
      have e6 := e5.trans (Same.new (o := HO.ins a_Notice dn []) hn5)
      exact fr2 b o (e6 _ _ hb) fun z => by rw [z, hn] at hb; cases hb
    have told : ∀ {n t : Addr} {z : Str} {H2 H4 : Hp}, Same H' H2 → NotAt H2 n "a" z → Fr (fun b => b = RL) H2 H4 → H4 t = some (.tup [.str "say", .ref n]) → H4 RL = some (.lst (rs ++ [.ref t])) → BobI a tc DB x dx SD (ps.length : Nat) RL ML H (rs ++ [.ref t]) (rows ++ [.say z]) H4 ∧ Tp K H' H4 := fun {n t z H2 H4} e2 hn2 fr4 ht hL4 => by
      have f4 : ∀ b o, H' b = some o → b ≠ RL → H4 b = some o := fun b o hb hne => fr4 b o (e2 _ _ hb) hne
      obtain ⟨dnn, hdnn⟩ := hn2
      refine ⟨push f4 hL4 ⟨t, n, rfl, ht, dnn, fr4 _ _ hdnn fun z => ?_⟩, tpR f4⟩
      have q := e2 _ _ hb.hRL
      rw [← z, hdnn] at q
      cases q
    cases sj with
    | set z =>
      cases dd with
      | @tup t us _ ht ts2 =>
      cases ts2 with
      | cons d1 ts2 =>
      cases ts2 with
      | cons d2 ts2 =>
      cases ts2
      cases d1
      cases d2
      refine ⟨.ref t, s1.v (i := 2) rfl, t, _, 0, _, rfl, rfl, SqT.of ht, rfl, rfl, _, rfl, ?_⟩
      rw [decide_eq_true rfl]
      refine iteT ⟨.ref t, s1.v (i := 2) rfl, t, _, 1, _, rfl, rfl, SqT.of ht, rfl, .ref x, s1.v (i := 3) rfl, x, dx, _, rfl, hb.hx, x, dx, a.S, a.B, SD, _, RL, ML, .ref tc, rs, z, rfl, hb.hx, hb.hSD, hb.hRL, rl, wwords_ok z hoj, fun t2 H2 fr2 nt ht2 hL2 => ?_⟩
      have f2 : ∀ b o, H' b = some o → b ≠ RL → H2 b = some o := fr2
      exact ⟨.ref t, (s1.mono (tpR f2)).v (i := 2) rfl, t, _, 1, _, rfl, rfl, SqT.of (tpR f2 _ _ ht), rfl, rs ++ [.ref t2], push f2 hL2 ⟨t2, rfl, ht2⟩, ((s1.mono (tpR f2)).set (i := 4) (s := .d (.str z)) (v := .str z) ⟨_, rfl, .str z⟩).wk ⟨.inr rfl, .inr rfl, .inl rfl, .inr rfl, .inr rfl, trivial⟩⟩
    | say z =>
      cases dd with
      | @tup t us _ ht ts2 =>
      cases ts2 with
      | cons d1 ts2 =>
      cases ts2 with
      | cons d2 ts2 =>
      cases ts2
      cases d1
      cases d2
      refine ⟨.ref t, s1.v (i := 2) rfl, t, _, 0, _, rfl, rfl, SqT.of ht, rfl, rfl, _, rfl, ?_⟩
      rw [decide_eq_false (fun z => absurd (V.str.inj z) (by decide +kernel))]
      refine iteF ⟨.ref t, s1.v (i := 2) rfl, _, 2, rfl, .inr ⟨_, SqT.of ht, rfl⟩, rfl, _, rfl, ?_⟩
      have e22 : decide (V.int ((2 : Nat) : Int) = V.int 2) = true := decide_eq_true rfl
      rw [e22]
      have hz : z ∈ wwords := hoj
      exact iteT ⟨.ref x, s1.v (i := 3) rfl, .ref t, s1.v (i := 2) rfl, t, _, 1, _, rfl, rfl, SqT.of ht, rfl, fun n dn hn hdn nne => ⟨n, dn, "a", z, rfl, upd_same, nameB_a, wwords_ok z hz, fun H2 fr2 hn2 => ⟨rfl, x, dx, _, rfl, made hn hdn nne fr2 _ _ hb.hx, x, dx, a.S, a.B, SD, _, RL, ML, rs, n, "a", z, rfl, made hn hdn nne fr2 _ _ hb.hx, made hn hdn nne fr2 _ _ hb.hRL, rl, hn2, fun t3 H4 fr4 nt3 ht3 hL4 => ⟨x, rfl, by
        obtain ⟨b4, tp4⟩ := told (made hn hdn nne fr2) hn2 fr4 ht3 hL4
        exact ⟨_, b4, ((s1.mono tp4).set (i := 3) (s := .v (.ref x)) (v := .ref x) rfl).wk ⟨.inr rfl, .inr rfl, .inl rfl, .inr rfl, .inr rfl, trivial⟩⟩⟩⟩⟩⟩
    | again =>
      cases dd with
      | @tup t us _ ht ts2 =>
      cases ts2 with
      | cons d1 ts2 =>
      cases ts2
      cases d1
      refine ⟨.ref t, s1.v (i := 2) rfl, t, _, 0, _, rfl, rfl, SqT.of ht, rfl, rfl, _, rfl, ?_⟩
      rw [decide_eq_false (fun z => absurd (V.str.inj z) (by decide +kernel))]
      refine iteF ⟨.ref t, s1.v (i := 2) rfl, _, 1, rfl, .inr ⟨_, SqT.of ht, rfl⟩, rfl, _, rfl, ?_⟩
      rw [decide_eq_false (fun z => absurd (V.int.inj z) (by decide))]
      obtain ⟨u, hu, du⟩ := s1.d (i := 4) rfl
      cases last with
      | none =>
        cases du
        refine iteF ⟨.non, hu, rfl, _, rfl, ?_⟩
        rw [decide_eq_true rfl]
        exact iteF ⟨rs, hb, s1.wk ⟨.inr rfl, .inr rfl, .inl rfl, .inr rfl, .inr rfl, trivial⟩⟩
      | some z =>
        have hz : z ∈ wwords := rok.last z rfl
        cases du
        refine iteF ⟨.str z, hu, rfl, _, rfl, ?_⟩
        rw [decide_eq_false (fun z => nomatch z)]
        exact iteT ⟨.ref x, s1.v (i := 3) rfl, .str z, hu, fun n dn hn hdn nne => ⟨n, dn, "a", z, rfl, upd_same, nameB_a, wwords_ok z hz, fun H2 fr2 hn2 => ⟨rfl, x, dx, _, rfl, made hn hdn nne fr2 _ _ hb.hx, x, dx, a.S, a.B, SD, _, RL, ML, rs, n, "a", z, rfl, made hn hdn nne fr2 _ _ hb.hx, made hn hdn nne fr2 _ _ hb.hRL, rl, hn2, fun t3 H4 fr4 nt3 ht3 hL4 => ⟨x, rfl, by
        obtain ⟨b4, tp4⟩ := told (made hn hdn nne fr2) hn2 fr4 ht3 hL4
        exact ⟨_, b4, ((s1.mono tp4).set (i := 3) (s := .v (.ref x)) (v := .ref x) rfl).wk ⟨.inr rfl, .inr rfl, .inl rfl, .inr rfl, .inr rfl, trivial⟩⟩⟩⟩⟩⟩
  · rw [hx0, List.take_length] at hb s'
    have rok := rowF_ok _ l rfl hok
    have rl : (rowF l).1.length ≤ 900 := Nat.le_trans rok.len (by omega)
    have hlq := Paired.length h.hq
    have hlp := h.lps
    have hfl := Nat.le_trans (foldW_len a.rule (saidW (rowF l).1)) (Nat.le_trans (saidW_len _) rok.len)
    have f0 : ∀ b o, H b = some o → b ≠ a.B → H' b = some o := hb.fr
    have im0 : ∀ b o, H b = some o → Imm o → H' b = some o := h.imm (M := fun b => b = a.B) f0 fun b hb => .inr (.inl hb)
    have hA := h.hA
    have hB := h.hB
    have hC := h.hC
    have hQ := h.hQL
    have hP := h.hPL
    have hDD := h.hDB
    refine ⟨.ref x, s'.v (i := 3) rfl, x, dx, _, rfl, hb.hx, rfl, x, dx, a.S, a.B, SD, _, RL, ML, a.dS, a.rule, a.C, a.M, a.PL, a.QL, rs, (rowF l).1, a.dB, "bob", .ref x, DB, none, none, a.A, a.dA, "ann", wk, D, s.pos, _, tc, s.w0, _, ps, qs, rfl, hb.hx, f0 _ _ h.hS (ne_of h.hS hB fun z => by cases z), hru, hb.hRL, hb.hr, rl, rok.said, hb.hB, f0 _ _ h.hDB (ne_of h.hDB hB fun z => by cases z), f0 _ _ hA h.nAB, by decide +kernel, f0 _ _ h.hM (ne_of h.hM hB fun z => by cases z), .inr rfl, f0 _ _ hC (ne_of hC hB fun z => by cases z), im0 _ _ h.htc (.inl ⟨_, rfl⟩), .inr (by omega), f0 _ _ hP (ne_of hP hB fun z => by cases z), f0 _ _ hQ (ne_of hQ hB fun z => by cases z), h.nPQ, by omega, by omega, fun H2 ct' row qn D' fr2 c1 c2 c3 c4 c5 c6 c7 c8 c9 => ⟨_, _, rfl, rfl, ?_⟩⟩
    have fr : ∀ b o, H b = some o → ¬ (b = a.B ∨ b = a.C ∨ b = a.QL ∨ b = a.PL) → H2 b = some o := fun b o hb0 hn => fr2 b o (f0 b o hb0 fun z => hn (.inl z)) fun z => by
      rcases z with z | z | z | z | z
      · rw [z, nx] at hb0; cases hb0
      · exact hn (.inl z)
      · exact hn (.inr (.inl z))
      · exact hn (.inr (.inr (.inl z)))
      · exact hn (.inr (.inr (.inr z)))
    have hm : ∀ b, (b = a.B ∨ b = a.C ∨ b = a.QL ∨ b = a.PL) → b = a.A ∨ b = a.B ∨ b = a.C ∨ b = a.QL ∨ b = a.PL ∨ b = a.k ∨ b = a.LG := fun b hb => by
      rcases hb with e | e | e | e
      · exact .inr (.inl e)
      · exact .inr (.inr (.inl e))
      · exact .inr (.inr (.inr (.inl e)))
      · exact .inr (.inr (.inr (.inr (.inl e))))
    have hm2 : ∀ b, (b = a.B ∨ b = a.C ∨ b = a.QL ∨ b = a.PL) → Ours a H b := fun b hb => by
      unfold Ours
      rcases hb with e | e | e | e
      · exact .inr (.inl e)
      · exact .inr (.inr (.inl e))
      · exact .inr (.inr (.inr (.inl e)))
      · exact .inr (.inr (.inr (.inr (.inl e))))
    have im := h.imm (M := fun b => b = a.B ∨ b = a.C ∨ b = a.QL ∨ b = a.PL) fr hm2
    have hk := h.hk
    have hL := h.hL
    have hD := h.hD
    have n1 := h.nAB
    have n2 := h.nPL
    have n3 := h.nQL
    have hno := h.no
    have nDC : D ≠ a.C := fun z => by
      rw [z, hC] at hD
      cases hst : s.st <;> rw [hst] at hD <;> simp [oneI] at hD
    have nk : ∀ b o, H b = some o → b = a.A ∨ b = D ∨ b = a.k ∨ b = a.LG → H2 b = some o := fun b o hb0 hc => fr b o hb0 fun z => by
      clear fr2 fr im f0 im0 q c1 c2 c3 c4 c5 c6 c7 c8 c9 hb s' tpB hb1 hm hm2
      rcases hc with rfl | rfl | rfl | rfl <;> rcases z with e | e | e | e <;> grind
    have np1 : ps.length + 1 = s.np + 1 := by omega
    have hw : wishW (rowF l).1 = none := rok.wish
    rw [hw] at c1 c2
    obtain ⟨tc', w1, hC2, htc2⟩ : ∃ tc', True ∧ H2 a.C = some (.dK [(.inr "a", .ref tc')]) ∧ H2 tc' = some (.tup [.str (s.commitB a.rule l).w0, .int (((s.commitB a.rule l).n0 : Nat) : Int)]) := by
      cases hs : setW (rowF l).1 with
      | none =>
        refine ⟨tc, trivial, by rw [c4, c5 hs], ?_⟩
        unfold KS.commitB
        rw [hs]
        exact im _ _ h.htc (.inl ⟨_, rfl⟩)
      | some z =>
        obtain ⟨t, et, ht⟩ := c6 z hs
        refine ⟨t, trivial, by rw [c4, et], ?_⟩
        unfold KS.commitB
        rw [hs]
        rw [np1] at ht
        exact ht
    obtain ⟨k2, g2⟩ := h.go (M := fun b => b = a.B ∨ b = a.C ∨ b = a.QL ∨ b = a.PL) (s' := s.commitB a.rule l) (tc' := tc') (D' := D) (DB' := D') (ps' := ps ++ [row]) (qs' := qs ++ qn) (wk' := wk) fr hm2 (fun b hb => by rcases hb with rfl | rfl | rfl | rfl; exact hno.2.1; exact hno.2.2.1; exact hno.2.2.2.1; exact hno.2.2.2.2.1) hC2 htc2 c9 c7
      (paired_append (Paired.mapP h.hq fun _ _ q => q.imm im) (by rw [np1] at c8; exact c8)) (nk _ _ hA (.inl rfl)) (nk _ _ hD (.inr (.inl rfl))) c1 c2 (nk _ _ hk (.inr (.inr (.inl rfl)))) (nk _ _ hL (.inr (.inr (.inr rfl)))) (h.keepT (M := fun b => b = a.B ∨ b = a.C ∨ b = a.QL ∨ b = a.PL) fr hm) (by rw [List.length_append, List.length_singleton, hlp] <;> rfl)
    have e0 : decide ((0 : Int) < ((ps.length + 1 : Nat) : Int)) = true := decide_eq_true (by omega)
    show Q (.bl (decide ((0 : Int) < ((ps.length + 1 : Nat) : Int)))) H2
    rw [e0]
    exact q H2 tc' D' _ _ k2 g2
end
end KX
set_option maxHeartbeats 4000000
namespace KX
open PySem PySem.Spec PyProof.Rows L2
/-! ### THE PLAIN LAW: a closed set of states without a bad one, and the store -/
def WishR (p : Int) (o : Option Str) : Prop := (p = 0 ∧ o = none) ∨ (p = 1 ∧ o = some ("listen" : Str)) ∨ (p = 2 ∧ o = some ("unlisten" : Str))
structure Rel (way : Str) (s : KS) (x : Sx) : Prop where
  opn : x.w.1 = 0 ↔ s.tr = none
  snap : ∀ w n rows, s.tr = some (w, n, rows) → (x.w.1 = 1 → w = s.w0) ∧ (x.w.1 = 1 ∨ x.w.1 = 2) ∧ n ≤ s.n0 ∧ WishR x.w.2.1 (wishW rows)
  lis : (x.w.2.2 = 1 ∧ s.st.isSome) ∨ (x.w.2.2 = 0 ∧ s.st = none)
  pos : s.st.isSome = s.pos.isSome
  right : x.p.1 = 1 → s.log.getLast? = some s.w0
  rng : (x.p.1 = 0 ∨ x.p.1 = 1) ∧ (x.p.2 = 0 ∨ x.p.2 = 1)
  waits : x.p.2 = 1 → recL s.st s.pos s.ents ≠ []
  stle : ∀ n, s.st = some n → n ≤ s.ents.length
  posle : ∀ n, s.pos = some n → n ≤ s.ents.length
  num : way ≠ "reread" → s.num ≤ s.n0
  n0 : s.n0 ≤ s.np
  all : way ≠ "reread" → ∀ e ∈ s.ents, e.1 ≤ s.n0
  last : way ≠ "reread" → s.ents ≠ [] → s.ents.getLast? = some (s.n0, s.w0)
theorem rel_first (way w : Str) : Rel way ⟨w, 0, 0, [], none, none, none, [], 0⟩ Sx.first :=
  ⟨⟨fun _ => rfl, fun _ => rfl⟩, fun _ _ _ h => (by cases h), .inr ⟨rfl, rfl⟩, rfl, fun h => absurd h (show ¬ (0 : Int) = 1 by decide), ⟨.inl rfl, .inl rfl⟩, fun h => absurd h (show ¬ (0 : Int) = 1 by decide), fun _ h => (by cases h), fun _ h => (by cases h), fun _ => Nat.le_refl 0, Nat.le_refl 0, fun _ _ h => (by cases h), fun _ h => absurd rfl h⟩
theorem recL_none {α : Type} {st : Option Nat} {qs : List α} : recL st none qs = [] := rfl
theorem updP_num {way cw : Str} {cn : Nat} (hw : way ≠ "reread") : ∀ (es : List (Nat × Str)) (log : List Str) (num : Nat), num ≤ cn → (∀ e ∈ es, e.1 ≤ cn) → (updP way cw cn log num es).2 ≤ cn := by
  have key : ∀ (es : List (Nat × Str)) (p : List Str × Nat), p.2 ≤ cn → (∀ e ∈ es, e.1 ≤ cn) → (es.foldl (fun p e => if way = "take" ∨ p.2 ≤ e.1 then (p.1 ++ [e.2], e.1) else p) p).2 ≤ cn := fun es => by
   induction es with
   | nil => exact fun p h _ => h
   | cons e es ih =>
    intro p h ha
    rw [List.foldl_cons]
    have he := ha e List.mem_cons_self
    have hes := fun e he => ha e (List.mem_cons_of_mem _ he)
    by_cases hc : way = "take" ∨ p.2 ≤ e.1
    · rw [if_pos hc]
      exact ih _ he hes
    · rw [if_neg hc]
      exact ih _ h hes
  intro es log num h ha
  unfold updP
  rw [if_neg hw]
  exact key es (log, num) h ha
/-- what was received ends with the present word -/
theorem updP_last {way cw : Str} {cn : Nat} {es : List (Nat × Str)} {log : List Str} {num : Nat} (hne : es ≠ []) (h1 : way ≠ "reread" → num ≤ cn ∧ (∀ e ∈ es, e.1 ≤ cn) ∧ es.getLast? = some (cn, cw)) : (updP way cw cn log num es).1.getLast? = some cw := by
  by_cases hw : way = "reread"
  · unfold updP
    rw [if_pos hw]
    cases es with
    | nil => exact absurd rfl hne
    | cons e es =>
      show (log ++ [cw]).getLast? = some cw
      rw [List.getLast?_append] <;> rfl
  · obtain ⟨hn, ha, hl⟩ := h1 hw
    obtain ⟨ys, rfl⟩ := List.getLast?_eq_some_iff.mp hl
    have q := updP_num (cw := cw) hw ys log num hn fun e he => ha e (List.mem_append_left _ he)
    unfold updP at q ⊢
    rw [if_neg hw] at q ⊢
    rw [List.foldl_append]
    show ((if way = "take" ∨ (ys.foldl _ (log, num)).2 ≤ cn then _ else _ : List Str × Nat)).1.getLast? = _
    rw [if_pos (.inr q)]
    rw [List.getLast?_append] <;> rfl
section
variable {way : Str} {s : KS} {x : Sx} {th : Nat}
theorem Rel.rec_facts (h : Rel way s x) (hne : recL s.st s.pos s.ents ≠ []) : way ≠ "reread" → s.num ≤ s.n0 ∧ (∀ e ∈ recL s.st s.pos s.ents, e.1 ≤ s.n0) ∧ (recL s.st s.pos s.ents).getLast? = some (s.n0, s.w0) := fun hw => by
  refine ⟨h.num hw, ?_, ?_⟩
  · cases hp : s.pos with
    | none => rw [hp] at hne; exact absurd rfl hne
    | some p => exact fun e he => h.all hw e (List.mem_of_mem_drop he)
  · cases hp : s.pos with
    | none => rw [hp] at hne; exact absurd rfl hne
    | some p =>
      rw [hp] at hne
      have hne : s.ents.drop (recM s.st p s.ents.length) ≠ [] := hne
      have h0 : s.ents ≠ [] := fun z => by rw [z] at hne; simp at hne
      show (s.ents.drop (recM s.st p s.ents.length)).getLast? = _
      have hlt : recM s.st p s.ents.length < s.ents.length := by
        rcases Nat.lt_or_ge (recM s.st p s.ents.length) s.ents.length with q | q
        · exact q
        · exact absurd (List.drop_eq_nil_of_le q) hne
      rw [List.getLast?_drop, if_neg (by omega)]
      exact h.last hw h0
/-- behind wishes that took effect -/
theorem Rel.beh (h : Rel way s x) {p : Int} {wish : Option Str} (hw : WishR p wish) :
    Rel way { s with st := behS wish s.st s.ents.length, pos := behP wish s.st s.pos s.ents.length, np := s.np + 1, tr := none } ⟨th, (if p = 2 then (((0, 0, 0) : W3), lostP x.p) else ((0, 0, if p = 1 then 1 else x.w.2.2), x.p)).1, (if p = 2 then (((0, 0, 0) : W3), lostP x.p) else ((0, 0, if p = 1 then 1 else x.w.2.2), x.p)).2⟩ := by
  have hn : s.n0 ≤ s.np + 1 := Nat.le_succ_of_le h.n0
  rcases hw with ⟨rfl, rfl⟩ | ⟨rfl, rfl⟩ | ⟨rfl, rfl⟩
  · have e1 : behS none s.st s.ents.length = s.st := rfl
    have e2 : behP none s.st s.pos s.ents.length = s.pos := by
      have hp := h.pos
      cases hs : s.st with
      | none =>
        rw [hs] at hp
        cases hq : s.pos with
        | none => rfl
        | some q => rw [hq] at hp; cases hp
      | some q => rfl
    rw [e1, e2]
    exact ⟨⟨fun _ => rfl, fun _ => rfl⟩, fun _ _ _ h => (by cases h), h.lis, h.pos, h.right, h.rng, h.waits, h.stle, h.posle, h.num, hn, h.all, h.last⟩
  · have hp := h.pos
    cases hs : s.st with
    | none =>
      rw [hs] at hp
      have hq : s.pos = none := by
        cases hq : s.pos with
        | none => rfl
        | some q => rw [hq] at hp; cases hp
      have hw0 : ¬ x.p.2 = 1 := fun z => h.waits z (by rw [hq]; rfl)
      rw [hq]
      exact ⟨⟨fun _ => rfl, fun _ => rfl⟩, fun _ _ _ h => (by cases h), .inl ⟨rfl, rfl⟩, rfl, h.right, h.rng, fun z => absurd z hw0, fun n hn => (by cases hn; exact Nat.le_refl _), fun n hn => (by cases hn; exact Nat.le_refl _), h.num, hn, h.all, h.last⟩
    | some q =>
      have e1 : behS (some ("listen" : Str)) (some q) s.ents.length = some q := rfl
      have e2 : behP (some ("listen" : Str)) (some q) s.pos s.ents.length = s.pos := rfl
      rw [e1, e2]
      have hwt := h.waits
      have hst := h.stle
      rw [hs] at hp hwt hst
      exact ⟨⟨fun _ => rfl, fun _ => rfl⟩, fun _ _ _ h => (by cases h), .inl ⟨rfl, rfl⟩, hp, h.right, h.rng, hwt, hst, h.posle, h.num, hn, h.all, h.last⟩
  · have e1 : behS (some ("unlisten" : Str)) s.st s.ents.length = none := by unfold behS keepS; rw [if_neg (by decide +kernel), if_pos rfl]
    have e2 : behP (some ("unlisten" : Str)) s.st s.pos s.ents.length = none := by unfold behP keepP keepS; rw [if_neg (by decide +kernel), if_pos rfl]
    rw [e1, e2]
    exact ⟨⟨fun _ => rfl, fun _ => rfl⟩, fun _ _ _ h => (by cases h), .inr ⟨rfl, rfl⟩, rfl, h.right, ⟨h.rng.1, .inl rfl⟩, fun z => absurd z (show ¬ (0 : Int) = 1 by decide), fun n hn => (by cases hn), fun n hn => (by cases hn), h.num, hn, h.all, h.last⟩
theorem wishW_snoc_lis (rows : List Row) : wishW (rows ++ [.lis]) = some ("listen" : Str) := by unfold wishW; rw [selS_snoc]
theorem wishW_snoc_unl (rows : List Row) : wishW (rows ++ [.unl]) = some ("unlisten" : Str) := by unfold wishW; rw [selS_snoc]
/-- the receiving -/
theorem Rel.recv (h : Rel way s x) (ht : s.tr = none) : Rel way (({ s with pos := recP s.pos s.ents.length } : KS).upd way (recL s.st s.pos s.ents)) ⟨th, (0, 0, x.w.2.2), receivedP x.p⟩ ∧ ((x.p.1 = 1 ∨ x.p.2 = 1) → (updP way s.w0 s.n0 s.log s.num (recL s.st s.pos s.ents)).1.getLast? = some s.w0) := by
  have hr : x.p.1 = 1 ∨ x.p.2 = 1 → (updP way s.w0 s.n0 s.log s.num (recL s.st s.pos s.ents)).1.getLast? = some s.w0 := fun hc => by
    by_cases hne : recL s.st s.pos s.ents = []
    · have hp1 : x.p.1 = 1 := hc.elim id fun z => absurd hne (h.waits z)
      rw [hne]
      have e : (updP way s.w0 s.n0 s.log s.num []).1 = s.log := by
        unfold updP
        split <;> rfl
      rw [e]
      exact h.right hp1
    · exact updP_last hne (h.rec_facts hne)
  refine ⟨⟨⟨fun _ => ht, fun _ => rfl⟩, fun w n rows e => (by have e : s.tr = _ := e; rw [ht] at e; cases e), h.lis, ?_, ?_, ?_, ?_, h.stle, ?_, fun hw => ?_, h.n0, h.all, h.last⟩, hr⟩
  · show s.st.isSome = (recP s.pos s.ents.length).isSome
    rw [h.pos]
    cases s.pos <;> rfl
  · intro e
    refine hr ?_
    unfold receivedP at e
    by_cases h2 : x.p.2 = 1
    · exact .inr h2
    · rw [if_neg h2] at e
      exact .inl e
  · unfold receivedP
    split
    · exact ⟨.inr rfl, .inl rfl⟩
    · exact h.rng
  · intro e
    unfold receivedP at e
    by_cases h2 : x.p.2 = 1
    · rw [if_pos h2] at e
      cases e
    · rw [if_neg h2] at e
      exact absurd e h2
  · intro n hn
    have hn : recP s.pos s.ents.length = some n := hn
    cases hp : s.pos with
    | none => rw [hp] at hn; cases hn
    | some q => rw [hp] at hn; cases hn; exact Nat.le_refl _
  · refine updP_num hw _ _ _ (h.num hw) fun e he => ?_
    cases hp : s.pos with
    | none => rw [hp] at he; cases he
    | some p =>
      rw [hp] at he
      exact h.all hw e (List.mem_of_mem_drop he)
/-- A STEP of the mirror -/
theorem Rel.step (h : Rel way s x) (z : Str) : Rel way (s.step way z) (x.by (z, th)) := by
  unfold KS.step Sx.by behindP
  by_cases h1 : z = "disconnect"
  · rw [if_pos h1]
    simp only [if_pos h1]
    exact ⟨⟨fun _ => rfl, fun _ => rfl⟩, fun _ _ _ h => (by cases h), .inr ⟨rfl, rfl⟩, rfl, h.right, ⟨h.rng.1, .inl rfl⟩, fun z => absurd z (show ¬ (0 : Int) = 1 by decide), fun n hn => (by cases hn), fun n hn => (by cases hn), h.num, h.n0, h.all, h.last⟩
  simp only [if_neg h1]
  by_cases h2 : z = "read"
  · simp only [if_pos h2]
    have hlog : ∀ w : Str, (s.log ++ [w]).getLast? = some w := fun w => by rw [List.getLast?_append] <;> rfl
    cases ht : s.tr with
    | none =>
      refine ⟨⟨fun _ => ht, fun _ => h.opn.mpr ht⟩, fun w n rows e => (by have e : s.tr = _ := e; rw [ht] at e; cases e), h.lis, h.pos, fun _ => hlog s.w0, ⟨?_, h.rng.2⟩, h.waits, h.stle, h.posle, fun _ => Nat.le_refl _, h.n0, h.all, h.last⟩
      unfold copiedP
      dsimp only
      split
      · exact .inl rfl
      · exact .inr rfl
    | some t =>
      obtain ⟨w, n, rows⟩ := t
      obtain ⟨sn1, sn2, sn3, sn4⟩ := h.snap w n rows ht
      refine ⟨h.opn, h.snap, h.lis, h.pos, fun e => ?_, ⟨?_, h.rng.2⟩, h.waits, h.stle, h.posle, fun _ => sn3, h.n0, h.all, h.last⟩
      · have hw1 : x.w.1 = 1 := by
          unfold copiedP at e
          dsimp only at e
          by_cases h3 : x.w.1 = 2
          · rw [if_pos h3] at e
            cases e
          · exact sn2.elim id fun z => absurd z h3
        show (s.log ++ [w]).getLast? = some s.w0
        rw [hlog, sn1 hw1]
      · unfold copiedP
        dsimp only
        split
        · exact .inl rfl
        · exact .inr rfl
  simp only [if_neg h2]
  cases ht : s.tr with
  | none =>
    have hx0 := h.opn.mpr ht
    simp only [if_pos hx0]
    have es : s = { s with tr := none } := by rw [← ht]
    unfold KS.alone aloneP
    by_cases h3 : z = "begin"
    · simp only [if_pos h3]
      refine ⟨⟨fun z => absurd z (show ¬ (1 : Int) = 0 by decide), fun z => (by cases z)⟩, fun w n rows e => ?_, h.lis, h.pos, h.right, h.rng, h.waits, h.stle, h.posle, h.num, h.n0, h.all, h.last⟩
      cases e
      exact ⟨fun _ => rfl, .inl rfl, Nat.le_refl _, .inl ⟨rfl, rfl⟩⟩
    simp only [if_neg h3]
    by_cases h4 : z = "listen"
    · simp only [if_pos h4, if_pos (Or.inl h4 : z = "listen" ∨ z = "unlisten")]
      have q := h.beh (th := th) (p := 1) (wish := some ("listen" : Str)) (.inr (.inl ⟨rfl, rfl⟩))
      rw [h4]
      rw [← ht] at q
      exact q
    simp only [if_neg h4]
    by_cases h5 : z = "unlisten"
    · simp only [if_pos h5, if_pos (Or.inr h5 : z = "listen" ∨ z = "unlisten")]
      have q := h.beh (th := th) (p := 2) (wish := some ("unlisten" : Str)) (.inr (.inr ⟨rfl, rfl⟩))
      rw [h5]
      rw [← ht] at q
      exact q
    have h45 : ¬ (z = "listen" ∨ z = "unlisten") := fun e => e.elim h4 h5
    simp only [if_neg h5, if_neg h45]
    by_cases h6 : z = "receive"
    · simp only [if_pos h6]
      exact (h.recv ht).1
    · simp only [if_neg h6]
      exact ⟨⟨fun _ => ht, fun _ => rfl⟩, fun w n rows e => (by have e : s.tr = _ := e; rw [ht] at e; cases e), h.lis, h.pos, h.right, h.rng, h.waits, h.stle, h.posle, h.num, h.n0, h.all, h.last⟩
  | some t =>
    have hx0 : ¬ x.w.1 = 0 := fun e => by rw [h.opn.mp e] at ht; cases ht
    simp only [if_neg hx0]
    obtain ⟨w, n, rows⟩ := t
    obtain ⟨sn1, sn2, sn3, sn4⟩ := h.snap w n rows ht
    unfold KS.within withinP
    by_cases h3 : z = "rollback"
    · have a1 : ¬ z = "listen" := fun e => by rw [h3] at e; exact absurd e (by decide +kernel)
      have a2 : ¬ z = "unlisten" := fun e => by rw [h3] at e; exact absurd e (by decide +kernel)
      have a3 : ¬ z = "commit" := fun e => by rw [h3] at e; exact absurd e (by decide +kernel)
      simp only [if_pos h3, if_neg a1, if_neg a2, if_neg a3]
      exact ⟨⟨fun _ => rfl, fun _ => rfl⟩, fun w n rows e => (by cases e), h.lis, h.pos, h.right, h.rng, h.waits, h.stle, h.posle, h.num, h.n0, h.all, h.last⟩
    simp only [if_neg h3]
    by_cases h4 : z = "listen"
    · simp only [if_pos h4]
      refine ⟨⟨fun e => absurd e hx0, fun e => (by cases e)⟩, fun w' n' rows' e => ?_, h.lis, h.pos, h.right, h.rng, h.waits, h.stle, h.posle, h.num, h.n0, h.all, h.last⟩
      cases e
      exact ⟨sn1, sn2, sn3, .inr (.inl ⟨rfl, wishW_snoc_lis rows⟩)⟩
    simp only [if_neg h4]
    by_cases h5 : z = "unlisten"
    · simp only [if_pos h5]
      refine ⟨⟨fun e => absurd e hx0, fun e => (by cases e)⟩, fun w' n' rows' e => ?_, h.lis, h.pos, h.right, h.rng, h.waits, h.stle, h.posle, h.num, h.n0, h.all, h.last⟩
      cases e
      exact ⟨sn1, sn2, sn3, .inr (.inr ⟨rfl, wishW_snoc_unl rows⟩)⟩
    simp only [if_neg h5]
    by_cases h6 : z = "commit"
    · simp only [if_pos h6]
      exact h.beh (th := th) sn4
    · simp only [if_neg h6]
      refine ⟨⟨fun e => absurd e hx0, fun e => ?_⟩, h.snap, h.lis, h.pos, h.right, h.rng, h.waits, h.stle, h.posle, h.num, h.n0, h.all, h.last⟩
      rw [ht] at e
      cases e
end
end KX
set_option maxHeartbeats 4000000
namespace KX
open PySem PySem.Spec PyProof.Rows L2
/-! ### what a writer that does not lie leaves -/
theorem onceW_head (ws : List Str) : (onceW ws).head? = ws.head? := by
  have key : ∀ (l acc : List Str), acc ≠ [] → (l.foldl (fun acc z => if z ∈ acc then acc else acc ++ [z]) acc).head? = acc.head? := fun l => by
    induction l with
    | nil => intro acc _; rfl
    | cons z l ih =>
      intro acc h
      rw [List.foldl_cons]
      by_cases hz : z ∈ acc
      · rw [if_pos hz]
        exact ih acc h
      · rw [if_neg hz, ih _ (by simp)]
        cases acc with
        | nil => exact absurd rfl h
        | cons a acc => rfl
  cases ws with
  | nil => rfl
  | cons z ws =>
    unfold onceW
    rw [List.foldl_cons]
    exact key ws _ (by simp)
theorem setW_snoc {rows : List Row} {r : Row} : setW (rows ++ [r]) = match r with | .set z => some z | _ => setW rows := by
  unfold setW
  rw [List.foldl_append]
  cases r <;> rfl
theorem foldR (rule : Str) : ∀ (n : Nat) (l : List WS), l.length = n → (foldT rule l).1 = (rowF l).2 ∧ setW (rowF l).1 = (rowF l).2 ∧ (rule = "first" → (foldT rule l).2 = onceW (saidW (rowF l).1)) ∧ (rule ≠ "first" → (foldT rule l).2.getLast? = (saidW (rowF l).1).getLast?) := fun n => by
  induction n with
  | zero =>
    intro l h0
    rw [List.length_eq_zero_iff.mp h0]
    exact ⟨rfl, rfl, fun _ => rfl, fun _ => rfl⟩
  | succ n ih =>
    intro l hl
    obtain ⟨l, s, rfl⟩ : ∃ l' s, l = l' ++ [s] := ⟨l.dropLast, l.getLast (fun z => by rw [z] at hl; cases hl), (List.dropLast_concat_getLast _).symm⟩
    obtain ⟨i1, i2, i3, i4⟩ := ih l (by rw [List.length_append, List.length_singleton] at hl; omega)
    rw [foldT_snoc, rowF_snoc]
    generalize rowF l = rt at i1 i2 i3 i4 ⊢
    generalize foldT rule l = ft at i1 i2 i3 i4 ⊢
    obtain ⟨rows, last⟩ := rt
    obtain ⟨word, said⟩ := ft
    have i1 : word = last := i1
    subst i1
    have say : ∀ z : Str, (rule = "first" → sayW rule said z = onceW (saidW (rows ++ [.say z]))) ∧ (rule ≠ "first" → (sayW rule said z).getLast? = (saidW (rows ++ [.say z])).getLast?) := fun z => by
      rw [saidW_snoc]
      constructor
      · intro hr
        have e := i3 hr
        have e : said = onceW (saidW rows) := e
        show sayW rule said z = onceW (saidW rows ++ [z])
        rw [onceW_snoc, ← e]
        unfold sayW
        by_cases hz : z ∈ said
        · rw [if_pos ⟨hr, hz⟩, if_pos hz]
        · rw [if_neg (fun q => hz q.2), if_neg hz]
          have ef : said.filter (fun y => !decide (y = z)) = said := List.filter_eq_self.mpr fun y hy => by
            rw [decide_eq_false (fun e => hz (by rw [← e]; exact hy))] <;> rfl
          rw [ef]
      · intro hr
        unfold sayW
        rw [if_neg (fun q => hr q.1)]
        show (_ ++ [z]).getLast? = (saidW rows ++ [z]).getLast?
        rw [List.getLast?_append, List.getLast?_append] <;> rfl
    cases s with
    | set z =>
      refine ⟨rfl, by show setW (rows ++ [.set z]) = _; rw [setW_snoc] <;> rfl, fun hr => ?_, fun hr => ?_⟩
      · show said = onceW (saidW (rows ++ [.set z]))
        rw [saidW_snoc, List.append_nil]
        exact i3 hr
      · show said.getLast? = (saidW (rows ++ [.set z])).getLast?
        rw [saidW_snoc, List.append_nil]
        exact i4 hr
    | say z =>
      exact ⟨rfl, by show setW (rows ++ [.say z]) = _; rw [setW_snoc]; exact i2, (say z).1, (say z).2⟩
    | again =>
      cases word with
      | none => exact ⟨rfl, i2, i3, i4⟩
      | some z => exact ⟨rfl, by show setW (rows ++ [.say z]) = _; rw [setW_snoc]; exact i2, (say z).1, (say z).2⟩
theorem foldW_last {rule : Str} {said ws : List Str} (h1 : rule = "first" → said = onceW ws) (h2 : rule ≠ "first" → said.getLast? = ws.getLast?) : (foldW rule ws).getLast? = said.getLast? := by
  unfold foldW
  by_cases hf : rule = "first"
  · rw [if_pos hf, h1 hf]
  · rw [if_neg hf, h2 hf]
    split
    · rw [List.getLast?_reverse, onceW_head, List.head?_reverse]
    · rfl
/-- what bob's commit brings -/
theorem honest_brings {rule way : Str} {l : List WS} (h : Honest rule way l) :
    (setW (rowF l).1 = none → way ≠ "reread" → foldW rule (saidW (rowF l).1) = []) ∧ (∀ z, setW (rowF l).1 = some z → foldW rule (saidW (rowF l).1) ≠ [] ∧ (way ≠ "reread" → (foldW rule (saidW (rowF l).1)).getLast? = some z)) := by
  obtain ⟨_, _, hl⟩ := h
  obtain ⟨e1, e2, e3, e4⟩ := foldR rule _ l rfl
  have ew := foldW_last e3 e4
  rw [e2, ← e1]
  generalize foldT rule l = t at hl ew ⊢
  obtain ⟨word, said⟩ := t
  dsimp only at hl ew ⊢
  unfold lies at hl
  constructor
  · rintro rfl hw
    rw [if_neg hw, if_neg (by decide +kernel)] at hl
    have : said = [] := by simpa using hl
    rw [this] at ew
    exact List.getLast?_eq_none_iff.mp ew
  · rintro z rfl
    by_cases hw : way = "reread"
    · rw [if_pos hw, if_pos rfl] at hl
      have hs : said ≠ [] := by simpa using hl
      exact ⟨fun q => by
        rw [q] at ew
        exact hs (List.getLast?_eq_none_iff.mp ew.symm), fun q => absurd hw q⟩
    · rw [if_neg hw, if_neg (by decide +kernel)] at hl
      have hs : said.getLast? = some z := by simpa using hl
      rw [hs] at ew
      exact ⟨(fun q => by rw [q] at ew; cases ew), fun _ => ew⟩
theorem recL_more {α : Type} {st pos : Option Nat} {l m : List α} (hs : ∀ n, st = some n → n ≤ l.length) (h2 : st.isSome = pos.isSome) (h : recL st pos l ≠ []) : recL st pos (l ++ m) ≠ [] := by
  cases hp : pos with
  | none => rw [hp] at h; exact absurd rfl h
  | some p =>
    rw [hp] at h h2
    cases hst : st with
    | none => rw [hst] at h2; cases h2
    | some n =>
      rw [hst] at h
      have h : l.drop (max p n) ≠ [] := h
      show (l ++ m).drop (max p n) ≠ []
      intro q
      have q2 := List.drop_eq_nil_iff.mp q
      rw [List.length_append] at q2
      exact h (List.drop_eq_nil_of_le (by omega))
theorem recL_new {α : Type} {st pos : Option Nat} {l m : List α} (hs : ∀ n, st = some n → n ≤ l.length) (hp : ∀ n, pos = some n → n ≤ l.length) (h1 : st.isSome) (h2 : st.isSome = pos.isSome) (hm : m ≠ []) : recL st pos (l ++ m) ≠ [] := by
  cases hpp : pos with
  | none => rw [hpp, h1] at h2; cases h2
  | some p =>
    cases hst : st with
    | none => rw [hst] at h1; cases h1
    | some n =>
      show (l ++ m).drop (max p n) ≠ []
      intro q
      have q2 := List.drop_eq_nil_iff.mp q
      rw [List.length_append] at q2
      have a := hs n hst
      have b := hp p hpp
      have c := List.length_pos_iff.mpr hm
      omega
section
variable {way : Str} {s : KS} {x : Sx} {th : Nat} {rule : Str} {l : List WS}
/-- A COMMIT of another client -/
theorem Rel.told (h : Rel way s x) (ho : Honest rule way l) : Rel way (s.commitB rule l) x ∨ Rel way (s.commitB rule l) x.told := by
  obtain ⟨b1, b2⟩ := honest_brings ho
  unfold KS.commitB
  have hst : ∀ {m : List (Nat × Str)} n, s.st = some n → n ≤ (s.ents ++ m).length := fun n hn => by
    have := h.stle n hn
    rw [List.length_append]
    omega
  have hps : ∀ {m : List (Nat × Str)} n, s.pos = some n → n ≤ (s.ents ++ m).length := fun n hn => by
    have := h.posle n hn
    rw [List.length_append]
    omega
  cases hs : setW (rowF l).1 with
  | none =>
    left
    refine ⟨h.opn, h.snap, h.lis, h.pos, h.right, h.rng, fun e => recL_more h.stle h.pos (h.waits e), hst, hps, h.num, Nat.le_succ_of_le h.n0, fun hw => ?_, fun hw => ?_⟩
    · rw [b1 hs hw, List.map_nil, List.append_nil]
      exact h.all hw
    · rw [b1 hs hw, List.map_nil, List.append_nil]
      exact h.last hw
  | some z =>
    right
    obtain ⟨hne, hl⟩ := b2 z hs
    have hne2 : ((foldW rule (saidW (rowF l).1)).map fun z => (s.np + 1, z)) ≠ [] := fun e => hne (List.map_eq_nil_iff.mp e)
    have hn0 : s.n0 ≤ s.np + 1 := Nat.le_succ_of_le h.n0
    refine ⟨?_, fun w n rows e => ?_, h.lis, h.pos, fun e => absurd e (show ¬ (0 : Int) = 1 by decide), ⟨.inl rfl, ?_⟩, fun e => ?_, hst, hps, fun hw => Nat.le_trans (h.num hw) hn0, Nat.le_refl _, fun hw e he => ?_, fun hw _ => ?_⟩
    · show (if 0 < x.w.1 then (2 : Int) else 0) = 0 ↔ s.tr = none
      rw [← h.opn]
      cases ht : s.tr with
      | none =>
        have q := h.opn.mpr ht
        rw [q]
        exact ⟨fun _ => rfl, fun _ => rfl⟩
      | some t =>
        obtain ⟨w, n, rows⟩ := t
        have q := (h.snap w n rows ht).2.1
        have hp : 0 < x.w.1 := by omega
        rw [if_pos hp]
        exact ⟨fun z => absurd z (by decide), fun z => by omega⟩
    · have e : s.tr = some (w, n, rows) := e
      obtain ⟨q1, q2, q3, q4⟩ := h.snap w n rows e
      have hp : 0 < x.w.1 := by omega
      have ew : x.told.w.1 = 2 := by
        show (if 0 < x.w.1 then (2 : Int) else 0) = 2
        rw [if_pos hp]
      exact ⟨fun e => by rw [ew] at e; exact absurd e (by decide), .inr ew, Nat.le_trans q3 hn0, q4⟩
    · show x.w.2.2 = 0 ∨ x.w.2.2 = 1
      exact h.lis.elim (fun q => .inr q.1) fun q => .inl q.1
    · have e : x.w.2.2 = 1 := e
      have hsome : s.st.isSome := h.lis.elim (fun q => q.2) fun q => by rw [q.1] at e; exact absurd e (by decide)
      exact recL_new h.stle h.posle hsome h.pos hne2
    · rcases List.mem_append.mp he with q | q
      · exact Nat.le_trans (h.all hw e q) hn0
      · obtain ⟨y, _, rfl⟩ := List.mem_map.mp q
        exact Nat.le_refl _
    · show (s.ents ++ _).getLast? = some (s.np + 1, z)
      rw [List.getLast?_append, List.getLast?_map, hl hw] <;> rfl
/-- all of it, behind a run -/
structure Bn (j : Nat) (s : KS) : Prop where
  np : s.np ≤ j
  ents : s.ents.length ≤ 7 * j
  log : s.log.length ≤ 200 * j
  rows : ∀ t, s.tr = some t → t.2.2.length ≤ j
theorem Bn.mono {i j : Nat} (h : Bn i s) (e : i ≤ j) : Bn j s := ⟨Nat.le_trans h.np e, Nat.le_trans h.ents (by omega), Nat.le_trans h.log (by omega), fun t ht => Nat.le_trans (h.rows t ht) e⟩
theorem Bn.bd {j : Nat} (h : Bn j s) (hj : j ≤ 20) : Bd s := ⟨Nat.le_trans h.np (by omega), Nat.le_trans h.ents (by omega), Nat.le_trans h.log (by omega), fun t ht => Nat.le_trans (h.rows t ht) (by omega)⟩
theorem updP_len {cw : Str} {cn : Nat} (es : List (Nat × Str)) (log : List Str) (num : Nat) : (updP way cw cn log num es).1.length ≤ log.length + es.length := by
  unfold updP
  by_cases hw : way = "reread"
  · rw [if_pos hw]
    cases es with
    | nil => exact Nat.le_refl _
    | cons e es =>
      show (log ++ [cw]).length ≤ log.length + (es.length + 1)
      rw [List.length_append, List.length_singleton]
      omega
  · rw [if_neg hw]
    have key : ∀ (es : List (Nat × Str)) (p : List Str × Nat), (es.foldl (fun p e => if way = "take" ∨ p.2 ≤ e.1 then (p.1 ++ [e.2], e.1) else p) p).1.length ≤ p.1.length + es.length := fun es => by
      induction es with
      | nil => exact fun p => Nat.le_refl _
      | cons e es ih =>
        intro p
        rw [List.foldl_cons, List.length_cons]
        have q := ih (if way = "take" ∨ p.2 ≤ e.1 then (p.1 ++ [e.2], e.1) else p)
        have q2 : (if way = "take" ∨ p.2 ≤ e.1 then (p.1 ++ [e.2], e.1) else p).1.length ≤ p.1.length + 1 := by
          split
          · rw [List.length_append, List.length_singleton]
            exact Nat.le_refl _
          · omega
        omega
    exact key es (log, num)
theorem recL_len {α : Type} {st pos : Option Nat} {l : List α} : (recL st pos l).length ≤ l.length := by
  cases pos with
  | none => exact Nat.zero_le _
  | some p =>
    show (l.drop _).length ≤ _
    rw [List.length_drop]
    omega
theorem Bn.step {j : Nat} (h : Bn j s) (hj : j ≤ 20) (z : Str) : Bn (j + 1) (s.step way z) := by
  have h1 : Bn (j + 1) s := h.mono (Nat.le_succ j)
  have hn := h.np
  have hl := h.log
  have he := h.ents
  unfold KS.step
  split
  · exact ⟨h1.np, h1.ents, h1.log, fun t ht => by cases ht⟩
  split
  · cases ht : s.tr with
    | none => exact ⟨h1.np, h1.ents, by show (s.log ++ [_]).length ≤ _; rw [List.length_append, List.length_singleton]; omega, fun t e => by have e : s.tr = _ := e; rw [ht] at e; cases e⟩
    | some t => exact ⟨h1.np, h1.ents, by show (s.log ++ [_]).length ≤ _; rw [List.length_append, List.length_singleton]; omega, h1.rows⟩
  cases ht : s.tr with
  | none =>
    have hr : ∀ t, s.tr = some t → t.2.2.length ≤ j + 1 := fun t e => by rw [ht] at e; cases e
    show Bn (j + 1) (s.alone way z)
    unfold KS.alone
    split
    · exact ⟨h1.np, h1.ents, h1.log, fun t ht => by cases ht; exact Nat.zero_le _⟩
    split
    · exact ⟨Nat.succ_le_succ hn, h1.ents, h1.log, hr⟩
    split
    · refine ⟨h1.np, h1.ents, ?_, hr⟩
      show (updP way s.w0 s.n0 s.log s.num (recL s.st s.pos s.ents)).1.length ≤ _
      have a := updP_len (way := way) (cw := s.w0) (cn := s.n0) (recL s.st s.pos s.ents) s.log s.num
      have b := recL_len (st := s.st) (pos := s.pos) (l := s.ents)
      omega
    · exact h1
  | some t =>
    obtain ⟨w, n, rows⟩ := t
    have hrw := h.rows _ ht
    have hrw : rows.length ≤ j := hrw
    show Bn (j + 1) (s.within z (w, n, rows))
    unfold KS.within
    split
    · exact ⟨h1.np, h1.ents, h1.log, fun t ht => by cases ht; show (rows ++ [_]).length ≤ _; rw [List.length_append, List.length_singleton]; omega⟩
    split
    · exact ⟨h1.np, h1.ents, h1.log, fun t ht => by cases ht; show (rows ++ [_]).length ≤ _; rw [List.length_append, List.length_singleton]; omega⟩
    split
    · exact ⟨Nat.succ_le_succ hn, h1.ents, h1.log, fun t ht => by cases ht⟩
    split
    · exact ⟨h1.np, h1.ents, h1.log, fun t ht => by cases ht⟩
    · exact h1
theorem Bn.told {j : Nat} (h : Bn j s) (ho : Honest rule way l) : Bn (j + 1) (s.commitB rule l) := by
  have rok := rowF_ok _ l rfl ho.2.1
  have hfl := Nat.le_trans (foldW_len rule (saidW (rowF l).1)) (Nat.le_trans (saidW_len _) rok.len)
  have hl7 := ho.1
  have he := h.ents
  refine ⟨Nat.succ_le_succ h.np, ?_, (h.mono (Nat.le_succ j)).log, (h.mono (Nat.le_succ j)).rows⟩
  show (s.ents ++ _).length ≤ _
  rw [List.length_append, List.length_map]
  omega
theorem step_other : s.step way "other" = s := by
  unfold KS.step
  rw [if_neg (by decide +kernel), if_neg (by decide +kernel)]
  cases s.tr with
  | none =>
    show s.alone way "other" = s
    unfold KS.alone
    rw [if_neg (by decide +kernel), if_neg (by decide +kernel), if_neg (by decide +kernel)]
  | some t =>
    show s.within "other" t = s
    unfold KS.within
    rw [if_neg (by decide +kernel), if_neg (by decide +kernel), if_neg (by decide +kernel), if_neg (by decide +kernel)]
/-- whether a transaction is open -/
theorem open_step {ls : LS} (h : ls.work = none ↔ s.tr = none) {z : Str} (hz : ¬ z = "other") : (ls.after z).work = none ↔ (s.step way z).tr = none := by
  unfold LS.after KS.step
  rw [if_neg hz]
  by_cases h1 : z = "disconnect"
  · rw [if_pos h1, if_pos h1]
    exact ⟨fun _ => rfl, fun _ => rfl⟩
  rw [if_neg h1, if_neg h1]
  by_cases h2 : z = "read"
  · rw [if_pos h2, if_pos h2]
    cases ht : s.tr with
    | none => exact h.trans (by rw [ht]; exact ⟨fun _ => ht, fun _ => rfl⟩)
    | some t => exact h
  rw [if_neg h2, if_neg h2]
  cases ht : s.tr with
  | none =>
    rw [h.mpr ht]
    show (ls.alone z).work = none ↔ (s.alone way z).tr = none
    have hw := h.mpr ht
    unfold LS.alone KS.alone
    by_cases h3 : z = "begin"
    · rw [if_pos h3, if_pos h3]
      exact ⟨(fun z => by cases z), fun z => by cases z⟩
    rw [if_neg h3, if_neg h3]
    have hk : ({ s with st := behS (some z) s.st s.ents.length, pos := behP (some z) s.st s.pos s.ents.length, np := s.np + 1 } : KS).tr = none := ht
    have hk2 : (({ s with pos := recP s.pos s.ents.length } : KS).upd way (recL s.st s.pos s.ents)).tr = none := ht
    have r1 : ∀ (c : LS), c.work = none → ∀ (k : KS), k.tr = none → (c.work = none ↔ k.tr = none) := fun c hc k hk => ⟨fun _ => hk, fun _ => hc⟩
    refine r1 _ ?_ _ ?_
    · split
      · rfl
      split
      · rfl
      split
      · rfl
      · exact hw
    · split
      · exact hk
      split
      · exact hk2
      · exact ht
  | some t =>
    cases hw : ls.work with
    | none => rw [h.mp hw] at ht; cases ht
    | some k =>
      show (ls.within k z).work = none ↔ (s.within z t).tr = none
      unfold LS.within KS.within
      by_cases h3 : z = "rollback"
      · have a1 : ¬ z = "listen" := fun e => by rw [h3] at e; exact absurd e (by decide +kernel)
        have a2 : ¬ z = "unlisten" := fun e => by rw [h3] at e; exact absurd e (by decide +kernel)
        have a3 : ¬ z = "commit" := fun e => by rw [h3] at e; exact absurd e (by decide +kernel)
        rw [if_pos h3, if_neg a1, if_neg a2, if_neg a3, if_pos h3]
        exact ⟨fun _ => rfl, fun _ => rfl⟩
      rw [if_neg h3]
      by_cases h4 : z = "listen"
      · rw [if_pos (Or.inl h4), if_pos h4]
        exact ⟨(fun z => by cases z), fun z => by cases z⟩
      by_cases h5 : z = "unlisten"
      · rw [if_pos (Or.inr h5), if_neg h4, if_pos h5]
        exact ⟨(fun z => by cases z), fun z => by cases z⟩
      rw [if_neg (fun e => e.elim h4 h5 : ¬ (z = "listen" ∨ z = "unlisten")), if_neg h4, if_neg h5]
      by_cases h6 : z = "commit"
      · rw [if_pos h6, if_pos h6]
        refine ⟨fun _ => rfl, fun _ => ?_⟩
        split <;> rfl
      · rw [if_neg h6, if_neg h6, if_neg h3]
        rw [hw, ht]
        exact ⟨(fun z => by cases z), fun z => by cases z⟩
theorem open_other {ls : LS} (h : ls.work = none ↔ s.tr = none) : (ls.after "other").work = none ↔ (s.commitB rule l).tr = none := by
  unfold LS.after
  rw [if_pos rfl]
  exact h
structure Sim (way : Str) (ns : NSt) (S : List Sx) (run : List Int) (s : KS) : Prop where
  ex : ∃ x, Rel way s x ∧ x ∈ S ∧ x.node = (fol ns run).1
  opn : (lsAt (fol ns run).2).work = none ↔ s.tr = none
  bn : Bn run.length s
theorem Sim.nil {ns : NSt} {S : List Sx} {w : Str} (cl : Cl ns S) : Sim way ns S [] ⟨w, 0, 0, [], none, none, none, [], 0⟩ :=
  ⟨⟨_, rel_first way w, cl.first, rfl⟩, ⟨fun _ => rfl, fun _ => rfl⟩, ⟨Nat.le_refl 0, Nat.le_refl 0, Nat.le_refl 0, fun t h => by cases h⟩⟩
theorem Sim.byE {ns : NSt} {S : List Sx} {run : List Int} (cl : Cl ns S) (g : GOk (· ∈ msteps) ns) (h : Sim way ns S run s) {k : Int} (h0 : 0 ≤ k) (h1 : k < ((ns.getD (fol ns run).1 []).length : Int)) (hj : run.length ≤ 18) :
    Sim way ns S (run ++ [k]) (s.step way ((ns.getD (fol ns run).1 []).getD k.toNat default).1) := by
  obtain ⟨⟨x, hr, hx, hn⟩, ho, hb⟩ := h
  have hne : ¬ k = -1 := by omega
  have hk : k.toNat < (ns.getD (fol ns run).1 []).length := by omega
  have e0 : nxS ns (fol ns run).1 k = (((ns.getD (fol ns run).1 []).getD k.toNat default).2, some ((ns.getD (fol ns run).1 []).getD k.toNat default).1) := by
    unfold nxS
    rw [if_neg hne]
  have hlt : (fol ns run).1 < ns.length := by rw [← hn]; exact cl.node x hx
  have hmem : ns.getD (fol ns run).1 [] ∈ ns := by rw [List.getD_eq_getElem?_getD, List.getElem?_eq_getElem hlt]; exact List.getElem_mem hlt
  have hem : (ns.getD (fol ns run).1 []).getD k.toNat default ∈ ns.getD (fol ns run).1 [] := by
    generalize ns.getD (fol ns run).1 [] = es at hk ⊢
    rw [List.getD_eq_getElem?_getD, List.getElem?_eq_getElem hk]
    exact List.getElem_mem hk
  have hz : ¬ ((ns.getD (fol ns run).1 []).getD k.toNat default).1 = "other" := fun e => by
    have q := g.step _ hmem _ hem
    rw [e] at q
    exact absurd q (by decide +kernel)
  have heq : (ns.getD (fol ns run).1 []).getD k.toNat ("", 0) = (ns.getD (fol ns run).1 []).getD k.toNat default := by
    generalize ns.getD (fol ns run).1 [] = es at hk ⊢
    rw [List.getD_eq_getElem?_getD, List.getD_eq_getElem?_getD, List.getElem?_eq_getElem hk] <;> rfl
  rw [show Sim way ns S (run ++ [k]) = Sim way ns S (run ++ [k]) from rfl]
  generalize hee : (ns.getD (fol ns run).1 []).getD k.toNat default = e at e0 heq hz
  refine ⟨⟨x.by e, by obtain ⟨z, th⟩ := e; exact hr.step z, ?_, ?_⟩, ?_, ?_⟩
  · refine cl.cl x hx (k, x.by e) ?_
    unfold mvs mv
    refine List.mem_cons_of_mem _ (List.mem_map.mpr ⟨k.toNat, List.mem_range.mpr (by rw [hn]; exact hk), ?_⟩)
    rw [hn, heq, Int.toNat_of_nonneg h0]
  · rw [fol_snoc, e0] <;> rfl
  · rw [fol_snoc, e0]
    show (lsAt ((fol ns run).2 ++ [some e.1])).work = none ↔ _
    rw [lsAt_snoc]
    exact open_step ho hz
  · rw [List.length_append, List.length_singleton]
    exact hb.step (by omega) _
theorem Sim.told {ns : NSt} {S : List Sx} {run : List Int} (cl : Cl ns S) (h : Sim way ns S run s) (ho : Honest rule way l) : Sim way ns S (run ++ [-1]) ((s.commitB rule l).step way "other") := by
  obtain ⟨⟨x, hr, hx, hn⟩, hop, hb⟩ := h
  have e0 : nxS ns (fol ns run).1 (-1) = ((fol ns run).1, none) := rfl
  rw [step_other]
  refine ⟨?_, ?_, ?_⟩
  · rw [fol_snoc, e0]
    rcases hr.told ho with q | q
    · exact ⟨x, q, hx, hn⟩
    · refine ⟨x.told, q, cl.cl x hx (-1, x.told) ?_, hn⟩
      unfold mvs mv
      exact List.mem_cons_self
  · rw [fol_snoc, e0]
    show (lsAt ((fol ns run).2 ++ [none])).work = none ↔ _
    rw [lsAt_snoc]
    exact open_other hop
  · rw [List.length_append, List.length_singleton]
    exact hb.told ho
/-- AT REST: what was received last is the present word -/
theorem Sim.rest {ns : NSt} {S : List Sx} {run : List Int} {fs : List Nat} (nb : ∀ x ∈ S, x.bad fs = false) (h : Sim way ns S run s) (hf : (fol ns run).1 ∈ fs) (hw : (lsAt (fol ns run).2).work = none) : (s.step way "receive").log.getLast? = some s.w0 ∧ (s.step way "receive").w0 = s.w0 := by
  obtain ⟨⟨x, hr, hx, hn⟩, ho, _⟩ := h
  have ht := ho.mp hw
  have hb := nb x hx
  have h0 := hr.opn.mpr ht
  unfold Sx.bad at hb
  rw [decide_eq_true (hn ▸ hf : x.node ∈ fs), decide_eq_true h0] at hb
  have hc : x.p.1 = 1 ∨ x.p.2 = 1 := by
    rcases hr.rng.1 with a | a
    · rcases hr.rng.2 with b | b
      · rw [decide_eq_true a, decide_eq_true b] at hb
        cases hb
      · exact .inr b
    · exact .inl a
  have e : s.step way "receive" = ({ s with pos := recP s.pos s.ents.length } : KS).upd way (recL s.st s.pos s.ents) := by
    unfold KS.step
    rw [if_neg (by decide +kernel), if_neg (by decide +kernel), ht]
    show s.alone way "receive" = _
    unfold KS.alone
    rw [if_neg (by decide +kernel), if_neg (by decide +kernel), if_pos rfl, ← ht]
  rw [e]
  exact ⟨(hr.recv (th := 0) ht).2 hc, rfl⟩
end
end KX
set_option maxHeartbeats 4000000
namespace KX
open PySem PySem.Spec PyProof.Rows L2 RZ
theorem ev_max2 {K : PySem.W.Frag} {G : Gm} {ss : List SV} {ta tb : TE} {a b : Int} {r : List V → Hp → VK → Prop} (hr : r = fun xs H Q => ∃ i j, xs = [.int i, .int j] ∧ Q (.int (if j > i then j else i)) H) (h1 : EvD K G ta ss (.int a)) (h2 : EvD K G tb ss (.int b)) : EvD K G (tCB r (tCons ta (tCons tb tNil))) ss (.int (if b > a then b else a)) := fun σ H g s Q q => by
  subst hr
  refine h1 σ H g s _ fun v H1 e1 a1 => h2 σ H1 (G.mono _ _ g e1) (s.mono e1.tp) _ fun w H2 e2 a2 => ?_
  cases a1
  cases a2
  exact ⟨_, _, rfl, q _ H2 (e1.trans e2) (.int _)⟩
theorem st_retLst {K : PySem.W.Frag} {G : Gm} {ss : List SV} {tA : TA} {D : Ends} {ds : List PyData} (h : EvA K G tA ss ds) (hl : ds.length ≤ 1000) (k : ∀ H vs L, G.p H → DTs K H vs ds → H L = none → D.rt (.ref L) (upd H L (.lst vs))) : StD K G (tRet (tLst tA)) D ss := fun σ H g s =>
  h σ H g s _ fun vs H1 e1 a => ⟨Nat.le_of_lt (small1000 (by rw [a.len]; exact hl)), fun L hL => k H1 vs L (G.mono _ _ g e1) a hL⟩
def spPen : SpN := fun vs H Q => ∃ c : Int, vs = [.int c] ∧ ∀ L H', Same H H' → H L = none → PenAt H' L → Q (.ref L) H'
def spCell (K : PySem.W.Frag) : SpN := fun vs H Q => ∃ (a : Addr) (ns : List Int) (k : Nat), vs = [.ref a, .int (k : Nat)] ∧ SqL K H a (ns.map V.int) ∧ ∀ i : Int, Q (.int i) H
section
variable {P : Program} {w : World} {K : PySem.W.Frag} {mg : Str → Option Value} {base : Heap} {p : Addr}
theorem sc_L_pen : FnScope ["_law_cell"] ["_law_cell"] (defScope s_L_pen) := ⟨rfl, rfl, rfl, by decide +kernel, rfl, by decide +kernel, by decide +kernel⟩
theorem ok__law_pen (T : Tx w K mg) : FnN P w K mg base 2 a__law_pen spPen := by
  obtain ⟨fd, F⟩ := T.F_L_pen
  refine F.okN rfl sc_L_pen (fun _ _ _ _ _ _ us hl => match us, hl with | [_], _ => rfl) (fun vs H Q h => ?_) (fun A outer s H vs Q hr h => ⟨_, (pss_one (ps_ret (pe_lst (pa_cons (pe_callB (call_max2 (by rfl)) (by rfl) T.z_max (by decide +kernel) (pa_cons pe_int (pa_cons (pe_op op_sub (pv 0) (pe_op op_pow pe_int pe_int)) pa_nil))) (pa_cons (pe_op op_add (pe_cl (ok__law_rest T) (hr.mono (by decide)) T.kp__law_rest T.g__law_rest (pa_cons (pv 0) (pa_cons pe_int pa_nil))) pe_int) (pa_cons pe_int pa_nil)))))), ?_⟩)
  · obtain ⟨c, rfl, _⟩ := h
    rfl
  obtain ⟨c, rfl, q⟩ := h
  have s0 : DS K H (start ["_law_cell"] [.int c]) [.d (.int c)] := .cons (s := .d _) ⟨_, rfl, .int c⟩ .nil
  refine StD.go (G := gS H) (st_retLst (ds := [.int (if c - 10 ^ 18 > 0 then c - 10 ^ 18 else 0), .int (c % 2147483629 + 1), .int 0]) ?_ (Nat.le_of_ble_eq_true rfl) fun H1 vs L g a hL => ?_) (Same.refl H) s0
  · exact eva_cons (ev_max2 rfl ev_int (ev_rI (ev_var rfl) (ev_rIC ev_int ev_int ⟨by decide, by decide, by decide⟩))) (eva_cons (ev_rI (ev_cl (eva_cons (ev_var rfl) (eva_cons ev_int eva_nil)) ⟨_, _, rfl, ⟨by decide, by decide⟩, rfl⟩) ev_int) (eva_cons ev_int eva_nil))
  · have g : Same H H1 := g
    have ev := a.flat (as := [.int _, .int _, .int _]) rfl
    subst ev
    exact q L _ (g.trans (Same.new hL)) (g.free hL) ⟨_, _, _, upd_same⟩
theorem sc_L_cell_at : FnScope ["_law_script", "_law_k"] ["_law_script", "_law_k"] (defScope s_L_cell_at) := ⟨rfl, rfl, rfl, by decide +kernel, rfl, by decide +kernel, by decide +kernel⟩
theorem ok__law_cell_at (T : Tx w K mg) : FnN P w K mg base 1 a__law_cell_at (spCell K) := by
  obtain ⟨fd, F⟩ := T.F_L_cell_at
  refine F.okN rfl sc_L_cell_at (fun _ _ _ _ _ _ us hl => match us, hl with | [_, _], _ => rfl) (fun vs H Q h => ?_) (fun A outer s H vs Q hr h => ⟨_, (pss_cons (ps_if (pt_cmpR op_lt (pv 1) (pe_callB call_len_seq (by rfl) T.z_len PySem.boot_len (pa_cons (pv 0) pa_nil)) (nomark _)) (pss_one (ps_ret (pe_ix ix_list (pv 0) (pv 1) (fun _ _ => rfl)))) pss_nil) (pss_one (ps_ret pe_int))), ?_⟩)
  · obtain ⟨a, ns, k, rfl, _⟩ := h
    rfl
  obtain ⟨a, ns, k, rfl, sq, q⟩ := h
  refine ⟨_, rfl, _, rfl, a, _, rfl, .inl sq, _, _, rfl, rfl, _, rfl, ?_⟩
  rw [List.length_map]
  by_cases h : k < ns.length
  · rw [decide_eq_true (by omega : (k : Int) < (ns.length : Nat))]
    exact iteT ⟨_, rfl, _, rfl, a, _, k, .int (ns[k]), rfl, rfl, sq, atI_nat (by rw [List.getElem?_map, List.getElem?_eq_getElem h] <;> rfl), q _⟩
  · rw [decide_eq_false (by omega : ¬ (k : Int) < (ns.length : Nat))]
    exact iteF (q 0)
theorem sc_L_pens : FnScope ["_law_script", "_law_many", "_law_k"] ["_law_script", "_law_many"] (defScope s_L_pens) := ⟨rfl, rfl, rfl, by decide +kernel, rfl, by decide +kernel, by decide +kernel⟩
theorem ok__law_pens (T : Tx w K mg) : FnN P w K mg base 3 a__law_pens (fun vs H Q => ∃ (a : Addr) (ns : List Int), vs = [.ref a, .int 3] ∧ SqL K H a (ns.map V.int) ∧ ∀ (L : Addr) (ps : List Addr) (H' : Hp), Same H H' → H L = none → H' L = some (.lst (ps.map V.ref)) → (∀ p ∈ ps, PenAt H' p ∧ H p = none ∧ p ≠ L) → ps.Nodup → ps.length ≤ 3 → Q (.ref L) H') := by
  obtain ⟨fd, F⟩ := T.F_L_pens
  refine F.okN rfl sc_L_pens (fun _ _ _ _ _ _ us hl => match us, hl with | [_, _], _ => rfl) (fun vs H Q h => ?_) (fun A outer s H vs Q hr h => ⟨_, (pss_one (ps_ret (pe_lc (own := [("_law_k", 2)]) (by rfl) sc_L_pens.nd (pi_range1 (by rfl) T.z_range (pa_cons (pe_callB (call_max2 (by rfl)) (by rfl) T.z_max (by decide +kernel) (pa_cons pe_int (pa_cons (pe_callB (call_min2 (by rfl)) (by rfl) T.z_min (by decide +kernel) (pa_cons (pe_callB call_len_seq (by rfl) T.z_len PySem.boot_len (pa_cons (pv 0) pa_nil)) (pa_cons (pv 1) pa_nil))) pa_nil))) pa_nil)) (blkOk_by (N := ["_law_script", "_law_many", "_law_k"]) (sc := defScope s_L_pens) (by decide +kernel)) (fun _ _ _ _ _ => by exact (pg_name (i := 2) sc_L_pens.nd rfl (Or.inl rfl))) (fun _ _ _ _ _ => pts_nil) (fun _ _ _ _ _ => (pe_cl (ok__law_pen T) (hr.mono (by decide)) T.kp__law_pen T.g__law_pen (pa_cons (pe_cl (ok__law_cell_at T) (hr.mono (by decide)) T.kp__law_cell_at T.g__law_cell_at (pa_cons (pv 0) (pa_cons (pv 2) pa_nil))) pa_nil)))))), ?_⟩)
  · obtain ⟨a, ns, rfl, _⟩ := h
    rfl
  obtain ⟨a, ns, rfl, sq, q⟩ := h
  refine ⟨_, rfl, a, _, rfl, .inl sq, _, rfl, _, _, rfl, _, _, rfl, ?_⟩
  obtain ⟨N, hN, hN3⟩ : ∃ N : Nat, (if (if (3 : Int) < ((ns.map V.int).length : Nat) then (3 : Int) else ((ns.map V.int).length : Nat)) > 1 then (if (3 : Int) < ((ns.map V.int).length : Nat) then (3 : Int) else ((ns.map V.int).length : Nat)) else 1) = (N : Nat) ∧ N ≤ 3 := by
    refine ⟨(if (if (3 : Int) < ((ns.map V.int).length : Nat) then (3 : Int) else ((ns.map V.int).length : Nat)) > 1 then (if (3 : Int) < ((ns.map V.int).length : Nat) then (3 : Int) else ((ns.map V.int).length : Nat)) else 1).toNat, ?_, ?_⟩
    · repeat' split
      all_goals omega
    · repeat' split
      all_goals omega
  rw [hN]
  refine ⟨(N : Nat), rfl, by omega, by omega, fun D hD => ?_⟩
  rw [show (N : Int).toNat = N from Int.toNat_natCast N]
  refine lc_it (walk_range (lo := 0) (n := N)) (fun i H' => Same H H' ∧ ∃ ps : List Addr, ps.length = i ∧ H' D = some (.lst (ps.map V.ref)) ∧ (∀ p ∈ ps, PenAt H' p ∧ H p = none ∧ p ≠ D) ∧ ps.Nodup) ⟨Same.new hD, [], rfl, upd_same, fun p h => absurd h List.not_mem_nil, List.nodup_nil⟩ (fun _ _ _ _ => trivial) (fun i xv H2 H3 hi ⟨e2, ps, hl, hv, hps, nd⟩ y => ?_) fun H2 ⟨e2, ps, hl, hv, hps, nd⟩ => q D ps H2 e2 hD hv hps nd (by omega)
  obtain ⟨rfl, rfl⟩ := y
  refine ⟨rfl, ?_⟩
  have sq3 : SqL K H3 a (ns.map V.int) := by
    rcases sq with (h | ⟨o, h⟩) | h
    · exact .inl (.inl (e2 _ _ h))
    · exact .inl (.inr ⟨o, e2 _ _ h⟩)
    · exact .inr h
  have ei : (0 : Int) + (i : Nat) = (i : Nat) := Int.zero_add _
  refine ⟨.ref a, rfl, .int (i : Nat), by rw [← ei] <;> rfl, a, ns, i, rfl, sq3, fun c => ⟨c, rfl, fun p H4 e4 hp pp => ?_⟩⟩
  have hv4 := e4 _ _ hv
  have hpD : p ≠ D := fun z => by rw [z, hv] at hp; cases hp
  refine ⟨_, hv4, small1000 (by rw [List.length_map]; omega), Same.upd (e2.trans e4) hD, ps ++ [p], by rw [List.length_append, hl] <;> rfl, by rw [upd_same, List.map_append] <;> rfl, fun r hr => ?_, ?_⟩
  · have mvP : ∀ r, r ≠ D → PenAt H4 r → PenAt (upd H4 D (.lst (ps.map V.ref ++ [.ref p]))) r := fun r hn ⟨x, y, z, h⟩ => ⟨x, y, z, (upd_ne hn).trans h⟩
    rcases List.mem_append.mp hr with hr | hr
    · obtain ⟨h1, h2, h3⟩ := hps r hr
      exact ⟨mvP r h3 (h1.mono e4), h2, h3⟩
    · have e : r = p := by simpa using hr
      rw [e]
      exact ⟨mvP p hpD pp, e2.free hp, hpD⟩
  · rw [List.nodup_append]
    refine ⟨nd, by simp, fun x hx y hy e => ?_⟩
    have e3 : y = p := by simpa using hy
    obtain ⟨h1, _, _⟩ := hps x hx
    obtain ⟨_, _, _, h1⟩ := h1
    rw [e, e3, hp] at h1
    cases h1
end
end KX
set_option maxHeartbeats 4000000
namespace KX
open PySem PySem.Spec PyProof.Rows L2
section
variable {a : Ads} {s : KS} {tc D DB : Addr} {ps qs : List V} {wk : V} {N : Addr → Prop} {H H' : Hp} {p : Addr}
/-- the pen was drawn from -/
theorem KH.pen (h : KH a s tc D DB ps qs wk N H) (f : FrP p H H') (hp : PenAt H p) (np : N p) (hp' : PenAt H' p) : KH a s tc D DB ps qs wk N H' := by
  have hp0 := hp
  obtain ⟨z1, z2, z3, hpl⟩ := hp
  have nk : ∀ b o, H b = some o → (∀ l, o ≠ .lst l) → H' b = some o := fun b o hb ho => f b o hb fun z => by
    rw [z, hpl] at hb
    exact ho _ (Option.some.inj hb).symm
  have nl : ∀ b o, H b = some o → ¬ N b → H' b = some o := fun b o hb ho => f b o hb fun z => ho (z ▸ np)
  have im : ∀ b o, H b = some o → Imm o → H' b = some o := fun b o hb hi => nk b o hb fun l e => by
    subst e
    rcases hi with ⟨_, hi⟩ | ⟨_, _, hi⟩ <;> cases hi
  have no := h.no
  refine ⟨fun b hb => ?_, nk _ _ h.hS (fun _ z => by cases z), nk _ _ h.hC (fun _ z => by cases z), nk _ _ h.htc (fun _ z => by cases z), nk _ _ h.hM (fun _ z => by cases z), nl _ _ h.hPL no.2.2.2.2.1, nl _ _ h.hQL no.2.2.2.1, Paired.mapP h.hq fun _ _ q => q.imm im, nk _ _ h.hA (fun _ z => by cases z), nk _ _ h.hD (fun _ z => by cases z), nk _ _ h.hB (fun _ z => by cases z), nk _ _ h.hDB (fun _ z => by cases z), nk _ _ h.hk (fun _ z => by cases z), nl _ _ h.hL no.2.2.2.2.2.2, ?_, h.lps, h.nPQ, h.nPL, h.nQL, h.nAB, h.no⟩
  · by_cases e : b = p
    · rw [e]
      obtain ⟨_, _, _, q⟩ := hp'
      rw [q]
      exact fun z => by cases z
    · cases hh : H b with
      | none => exact absurd hh (h.hN b hb)
      | some o =>
        rw [f b o hh e]
        exact fun z => by cases z
  · have ht := h.tr
    cases hs : s.tr with
    | none => rw [hs] at ht; exact ht
    | some t =>
      rw [hs] at ht
      obtain ⟨w, n, rows⟩ := t
      obtain ⟨x, dx, SD, ts, bg, RL, ML, rs, e1, hx, hSD, hts, hRL, hr, n1, n2, n3, n4, n5, n6, n7⟩ := ht
      exact ⟨x, dx, SD, ts, bg, RL, ML, rs, e1, nk _ _ hx (fun _ z => by cases z), nk _ _ hSD (fun _ z => by cases z), nk _ _ hts (fun _ z => by cases z), nl _ _ hRL n6, Paired.mapP hr fun _ _ h => RowV.imm im h, n1, n2, n3, n4, n5, n6, n7⟩
end
theorem fol_get {α : Type} [Inhabited α] {ns : List (List (α × Nat))} : ∀ (n : Nat) (r : List Int), r.length = n → ∀ j, j < n → (fol ns r).2[j]? = some (nxS ns (fol ns (r.take j)).1 (r.getD j 0)).2 := fun n => by
  induction n with
  | zero => intro r _ j hj; exact absurd hj (Nat.not_lt_zero j)
  | succ n ih =>
    intro r hl j hj
    obtain ⟨r, l, rfl⟩ : ∃ r' l, r = r' ++ [l] := ⟨r.dropLast, r.getLast (fun z => by rw [z] at hl; cases hl), (List.dropLast_concat_getLast _).symm⟩
    have hl : r.length = n := by rw [List.length_append, List.length_singleton] at hl; omega
    rw [fol_snoc]
    have hf : (fol ns r).2.length = n := by rw [fol_len, hl]
    by_cases h : j < n
    · rw [List.getElem?_append_left (by rw [hf]; exact h), ih r hl j h, List.take_append_of_le_length (by omega)]
      rw [List.getD_eq_getElem?_getD, List.getD_eq_getElem?_getD, List.getElem?_append_left (by omega)]
    · have e : j = n := by omega
      subst e
      rw [List.getElem?_append_right (by omega), hf, Nat.sub_self, List.getElem?_cons_zero, ← hl, List.take_left, List.getD_eq_getElem?_getD, List.getElem?_append_right (Nat.le_refl _), Nat.sub_self] <;> rfl
theorem old_ok : wordB "old" := by
  have h : decide (1 ≤ ("old" : Str).length) && decide (("old" : Str).length ≤ 6) && (List.range ("old" : Str).cps.size).all (fun i => decide (("old" : Str).cps.getD i 0 ∈ ("abcdefghijklmnopqrstuvwxyz0123456789" : Str).cps.toList)) = true := by decide +kernel
  simp only [Bool.and_eq_true, decide_eq_true_eq, List.all_eq_true, List.mem_range] at h
  exact ⟨h.1.1, h.1.2, h.2⟩
theorem names_ok : ∀ z ∈ (["ann", "bob"] : List Str), nameB z := by
  intro z hz
  have h2 : ∀ z ∈ (["ann", "bob"] : List Str), decide (1 ≤ z.length) && decide (z.length ≤ 6) && (List.range z.cps.size).all (fun i => decide (z.cps.getD i 0 ∈ ("abcdefghijklmnopqrstuvwxyz" : Str).cps.toList)) = true := by decide +kernel
  have h := h2 z hz
  simp only [Bool.and_eq_true, decide_eq_true_eq, List.all_eq_true, List.mem_range] at h
  exact ⟨h.1.1, h.1.2, h.2⟩
section
variable {P : Program} {w : World} {K : PySem.W.Frag} {mg : Str → Option Value} {base : Heap} {p : Addr}
theorem q_parN {g : Gn p} {tA : TA} {ss : List SV} {us : TS} {D : Ends} {i j : Nat} {RA : List PyData → Prop} (h : EvNA K p tA ss RA) (hl : ∀ ds, RA ds → ds.length = 2) (k : ∀ d1 d2, RA [d1, d2] → StD K (gN g) us D ((ss.set i (.d d1)).set j (.d d2))) : StD K (gN g) (tSeq (tPar i j tA) us) D ss := fun σ H gp s =>
  h σ H gp.2 s _ fun vs ds H1 e1 p1 r a => by
    have h2 := hl ds r
    match ds, h2, r, a with
    | [d1, d2], _, r, a =>
      cases a with
      | cons a1 a =>
      cases a with
      | cons a2 a =>
      cases a
      exact ⟨_, _, rfl, k d1 d2 r _ H1 ⟨g.mono _ _ gp.1 gp.2 e1, p1⟩ (((s.mono (e1.tp gp.2)).set (i := i) (s := .d d1) ⟨_, rfl, a1⟩).set (i := j) (s := .d d2) ⟨_, rfl, a2⟩)⟩
theorem evn_clO {tA : TA} {ss : List SV} {Pre : List PyData → Prop} {R : List PyData → PyData → Prop} {RA : List PyData → Prop} (h : EvNA K p tA ss RA) (pre : ∀ ds, RA ds → Pre ds) : EvN K p (tCl (spO K Pre R) tA) ss (fun d => ∃ ds, RA ds ∧ R ds d) := fun σ H hp s Q q =>
  h σ H hp s _ fun vs ds H1 e1 p1 r a => ⟨ds, a, pre ds r, fun v d H2 e2 r2 b => q v d H2 (e1.trans e2.frP) (p1.mono e2) ⟨ds, r, r2⟩ b⟩
theorem str_inj (a b : Str) (h : PyData.str a = PyData.str b) : a = b := PyData.str.inj h
theorem ints_inj {l l' : List Int} (h : PyData.tuple (l.map PyData.int) = .tuple (l'.map PyData.int)) : l = l' := (List.map_inj_right fun x y h => PyData.int.inj h).mp (PyData.tuple.inj h)
theorem fD_inj {l l' : List Nat} (h : fD l = fD l') : l = l' := by
  have q := ints_inj h
  exact (List.map_inj_right fun x y h => by omega).mp q
theorem sc_law : FnScope ["_law_script", "_law_pen_here", "_law_way", "_law_finals", "_law_run", "_law_store", "_law_step", "_law_nodes", "_law_rule_here", "_law_keeper", "_law_sender"] ["_law_script"] (defScope s_law) := ⟨rfl, rfl, rfl, by decide +kernel, rfl, by decide +kernel, by decide +kernel⟩
def spLaw (K : PySem.W.Frag) : Sp := fun vs H Q _ => ∃ a ns, vs = [.ref a] ∧ SqL K H a ((ns : List Int).map V.int) ∧ ∀ H', Q (.bl true) H'
/-- the law's own def: its promise over every base -/
theorem FunC.okL {k : Nat} {N ps : List Str} {d : FD} {fd : FuncData} {sp : Sp} (F : FunC K d fd) (hc : d.clo = []) (S : FnScope N ps (defScope d.st))
    (hb : ∀ (kV doc pm : Value) (an : Option Addr) (cdv ct : Value) (us : List Value), us.length = ps.length → bindArgs (PySem.W.fnOf d.name d.qual (defArgs d.st) (defBody d.st) (defScope d.st) .none kV doc pm an cdv ct) ⟨us, []⟩ = pure (ps.zip us))
    (len : ∀ vs H Q E, sp vs H Q E → vs.length = ps.length)
    (hbody : ∀ (base : Heap) (A : Around) (outer : List Env) (s : Shared) (H : Hp) (vs : List V) (Q : VK) (E : XK), Room k (A.deeper (envOfC d.qual (defScope d.st) s.heap.objs.size d.at_ (.ref d.code))) → sp vs H Q E →
      ∃ t, PSs (bcx P w K mg base N d A outer s H) (defBody d.st) t ∧ t { nx := fun _ H' => Q .non H', rt := Q } (L2.start N vs) H) :
    ∃ fd', (∀ (s : Shared) (us : List Value), us.length = ps.length → BindsTo s fd' ⟨us, []⟩ (ps.zip us)) ∧ ∀ base : Heap, FnOk P w K mg base CX0 (k + 1) d.at_ fd' ps sp := by
  obtain ⟨od, kV, doc, pm, an, ct, osl, rfl, lk, hcd⟩ := F.ex
  rw [hc] at lk
  exact ⟨_, fun s us hl => .of_eq (hb kV doc pm an (.ref d.code) ct us hl), fun base => fn_of lk hcd S len fun A outer s H vs Q E hr hsp => by
    obtain ⟨t, h, q⟩ := hbody base A outer s H vs Q E hr hsp
    exact ⟨t, PSs.nox ⟨h.run⟩, q⟩⟩
theorem ok_law (T : Tx w K mg) (Pf : PF P) : ∃ fd', (∀ (s : Shared) (us : List Value), us.length = 1 → BindsTo s fd' ⟨us, []⟩ ((["_law_script"] : List Str).zip us)) ∧ ∀ base : Heap, FnOk P w K mg base CX0 11 a_law fd' ["_law_script"] (spLaw K) := by
  obtain ⟨fd, F⟩ := T.F_law
  refine F.okL rfl sc_law (fun _ _ _ _ _ _ us hl => match us, hl with | [_], _ => rfl) (fun vs H Q E h => ?_) (fun base A outer s H vs Q E hr h => ⟨_, (pss_cons (ps_for PassesOwn.never rfl (pi_list (pe_cl (ok__law_pens T) (hr.mono (by decide)) T.kp__law_pens T.g__law_pens (pa_cons (pv 0) (pa_cons pe_int pa_nil)))) (pg_name (i := 1) sc_law.nd rfl (Or.inl rfl)) (pss_one (ps_for PassesOwn.never rfl (pi_list (pe_lst (pa_cons pe_str (pa_cons pe_str (pa_cons pe_str pa_nil))))) (pg_name (i := 2) sc_law.nd rfl (Or.inl rfl)) (pss_cons (ps_par (i := 7) (j := 8) rfl sc_law.nd rfl rfl (by decide) rfl rfl (pa_cons (pe_cl (ok__law_good_mirror T Pf) (hr.mono (by decide)) T.kp__law_good_mirror T.g__law_good_mirror (pa_cons (pv 1) pa_nil)) (pa_cons (pe_cl (ok__law_rule T) (hr.mono (by decide)) T.kp__law_rule T.g__law_rule (pa_cons (pv 1) pa_nil)) pa_nil)) (by rfl)) (pss_cons (ps_set (i := 3) sc_law.nd rfl (Or.inl rfl) (pe_tup (pa_cons (pe_op op_sub (pe_callB call_len (by rfl) T.z_len PySem.boot_len (pa_cons (pv 7) pa_nil)) pe_int) pa_nil))) (pss_cons (ps_set (i := 4) sc_law.nd rfl (Or.inl rfl) (pe_cl (ok__law_cut_at_rest T) (hr.mono (by decide)) T.kp__law_cut_at_rest T.g__law_cut_at_rest (pa_cons (pv 7) (pa_cons (pv 3) (pa_cons (pe_cl (ok__law_mirror_drawn T) (hr.mono (by decide)) T.kp__law_mirror_drawn T.g__law_mirror_drawn (pa_cons (pv 1) (pa_cons (pv 7) (pa_cons pe_int pa_nil)))) pa_nil))))) (pss_cons (ps_set (i := 5) sc_law.nd rfl (Or.inl rfl) (pe_mkSt T.mk_Store (ok_Store_init T) (hr.mono (by decide)) T.g_Store (pa_cons (pv 8) pa_nil) (pk_cons pe_int (pk_cons pe_str pk_nil)))) (pss_cons (ps_par (i := 9) (j := 10) rfl sc_law.nd rfl rfl (by decide) rfl rfl (pa_cons (pe_mk (ok_Keeper_D_init_D T) (hr.mono (by decide)) T.mk_Keeper T.g_Keeper (pa_cons (pe_mt (ok_Store_client T Pf) (hr.mono (by decide)) T.c_Store T.me_Store_client (pv 5) (pa_cons pe_str pa_nil)) (pa_cons pe_str (pa_cons (pv 2) pa_nil)))) (pa_cons (pe_mt (ok_Store_client T Pf) (hr.mono (by decide)) T.c_Store T.me_Store_client (pv 5) (pa_cons pe_str pa_nil)) pa_nil)) (by rfl)) (pss_cons (ps_for PassesOwn.never rfl (pi_tup (pe_mt (ok_Mirror_steps T) (hr.mono (by decide)) T.c_Mirror T.me_Mirror_steps (pe_mk (ok_Mirror_D_init_D T Pf) (hr.mono (by decide)) T.mk_Mirror T.g_Mirror (pa_cons (pv 7) (pa_cons (pv 3) pa_nil))) (pa_cons (pe_ifExp (pt_cmpR op_notN (pv 4) pe_non (nomark _)) (pv 4) (pe_tup pa_nil)) pa_nil))) (pg_name (i := 6) sc_law.nd rfl (Or.inl rfl)) (pss_cons (ps_if (PW.pt (pw_and (pt_cmpR op_eq (pv 6) pe_str (nomark _)) (pw_and1 (pt_not (pt_val (pe_cl (ok__law_committed T) (hr.mono (by decide)) T.kp__law_committed T.g__law_committed (pa_cons (pv 10) (pa_cons (pe_cl (ok__law_honest T Pf) (hr.mono (by decide)) T.kp__law_honest T.g__law_honest (pa_cons (pv 1) (pa_cons (pv 8) (pa_cons (pv 2) pa_nil)))) pa_nil)))))))) (pss_one (ps_ret pe_bl)) pss_nil) (pss_one (ps_expr (StX.pe_callO (C := a_Keeper) (pv 9) ⟨T.o_Keeper_call, T.F_Keeper_D_call_D.elim fun _ F => F.fn, T.F_Keeper_D_call_D.elim fun _ F => F.fi⟩ (ok_Keeper_call T) (hr.mono (by decide)) pass0 (pa_cons (pv 6) pa_nil)))))) (pss_cons (ps_expr (StX.pe_callO (C := a_Keeper) (pv 9) ⟨T.o_Keeper_call, T.F_Keeper_D_call_D.elim fun _ F => F.fn, T.F_Keeper_D_call_D.elim fun _ F => F.fi⟩ (ok_Keeper_call T) (hr.mono (by decide)) pass0 (pa_cons pe_str pa_nil))) (pss_one (ps_if (PW.pt (pw_and (pt_cmpR op_notN (pv 4) pe_non (nomark _)) (pw_and1 (pt_cmpR op_ne (pe_pr (ok_Keeper_held T) (hr.mono (by decide)) T.c_Keeper T.p_Keeper_held (pv 9) rfl) (pe_mt (ok_Store_present T) (hr.mono (by decide)) T.c_Store T.me_Store_present (pv 5) (pa_cons pe_str pa_nil)) (nomark _))))) (pss_one (ps_ret pe_bl)) pss_nil)))))))))))) (pss_one (ps_ret pe_bl))), ?_⟩)
  · obtain ⟨a, ns, rfl, _⟩ := h
    rfl
  obtain ⟨a, ns, rfl, hs, q⟩ := h
  have s0 : DS K H (L2.start ["_law_script", "_law_pen_here", "_law_way", "_law_finals", "_law_run", "_law_store", "_law_step", "_law_nodes", "_law_rule_here", "_law_keeper", "_law_sender"] [.ref a]) [.v (.ref a), .no, .no, .no, .no, .no, .no, .no, .no, .no, .no] := .cons (s := .v _) rfl (DS.nos 10)
  refine ⟨.ref a, rfl, a, ns, rfl, hs, fun L ps H1 e1 L0 hL hps nd hlen => ⟨L, rfl, ⟨_, SqL.of hL⟩, ?_⟩⟩
  refine for_it (walk_list (K := K) (a := L) (xs := ps.map V.ref)) (fun j σ' H' => H' L = some (.lst (ps.map V.ref)) ∧ (∀ p ∈ ps, PenAt H' p ∧ p ≠ L) ∧ DS K H' σ' [.v (.ref a), .no, .no, .no, .no, .no, .no, .no, .no, .no, .no]) ⟨hL, fun p hp => ⟨(hps p hp).1, (hps p hp).2.2⟩, s0.mono e1.tp⟩ (fun j σ' H' _ p => SqL.of p.1) (fun j xv σ' Hx H' hj ⟨hL', hps', s'⟩ y => ?_) (fun σ' H' _ => q H')
  obtain ⟨rfl, hxv⟩ := y
  obtain ⟨p, hpm, rfl⟩ : ∃ p, p ∈ ps ∧ xv = .ref p := by
    obtain ⟨p, hp, e⟩ := List.mem_map.mp (List.mem_of_getElem? hxv)
    exact ⟨p, hp, e.symm⟩
  have s1 := s'.set (i := 1) (s := .v (.ref p)) (v := .ref p) rfl
  refine ⟨show 3 ≤ sizeLine by decide, fun W hW => ⟨W, rfl, ⟨_, SqL.of upd_same⟩, ?_⟩⟩
  have eW := Same.new (o := HO.lst [V.str "take", V.str "newer", V.str "reread"]) hW
  refine for_it (walk_list (K := K) (a := W) (xs := [V.str "take", V.str "newer", V.str "reread"])) (fun j σ' H' => H' L = some (.lst (ps.map V.ref)) ∧ (∀ p ∈ ps, PenAt H' p ∧ p ≠ L) ∧ H' W = some (.lst [V.str "take", V.str "newer", V.str "reread"]) ∧ DS K H' σ' [.v (.ref a), .v (.ref p), .no, .no, .no, .no, .no, .no, .no, .no, .no]) ⟨eW _ _ hL', fun p hp => ⟨(hps' p hp).1.mono eW, (hps' p hp).2⟩, upd_same, s1.mono eW.tp⟩ (fun j σ' H' _ p => SqL.of p.2.2.1) (fun j xv σ' Hx H0 hj ⟨hL0, hps0, hW0, s2⟩ y => ?_) (fun σ' H' ⟨hL', hps', _, s'⟩ => ⟨hL', hps', s'.wk ⟨.inr rfl, .inl rfl, .inr rfl, .inr rfl, .inr rfl, .inr rfl, .inr rfl, .inr rfl, .inr rfl, .inr rfl, .inr rfl, trivial⟩⟩)
  obtain ⟨rfl, hxv⟩ := y
  obtain ⟨way, hway, rfl⟩ : ∃ way, way ∈ ways ∧ xv = .str way := by
    have hm := List.mem_of_getElem? hxv
    obtain ⟨z, hz, e⟩ := List.mem_map.mp (show xv ∈ ways.map V.str from hm)
    exact ⟨z, hz, e.symm⟩
  have hp0 : PenAt H0 p := (hps0 p hpm).1
  have hWp : W ≠ p := fun z => by
    obtain ⟨_, _, _, hp0⟩ := hp0
    rw [← z, hW0] at hp0
    cases hp0
  have s3 := s2.set (i := 2) (s := .d (.str way)) (v := .str way) ⟨_, rfl, .str _⟩
  -- the end of a round
  have fin : ∀ σ' H', FrP p H0 H' → PenAt H' p → DS K H' σ' [.v (.ref a), .v (.ref p), .no, .no, .no, .no, .no, .no, .no, .no, .no] → H' L = some (.lst (ps.map V.ref)) ∧ (∀ p ∈ ps, PenAt H' p ∧ p ≠ L) ∧ H' W = some (.lst [V.str "take", V.str "newer", V.str "reread"]) ∧ DS K H' σ' [.v (.ref a), .v (.ref p), .no, .no, .no, .no, .no, .no, .no, .no, .no] := fun σ' H' f hp' s' =>
    ⟨f _ _ hL0 (hps0 p hpm).2.symm, fun p2 hp2 => ⟨by
      by_cases e : p2 = p
      · rw [e]; exact hp'
      · obtain ⟨x, y, z, hq⟩ := (hps0 p2 hp2).1
        exact ⟨x, y, z, f _ _ hq e⟩, (hps0 p2 hp2).2⟩, f _ _ hW0 hWp, s'⟩
  dsimp only [gName]
  refine StD.go (G := gN (nS H0 p)) (ss := [.v (.ref a), .v (.ref p), .d (.str way), .no, .no, .no, .no, .no, .no, .no, .no]) ?_ ⟨FrP.refl, hp0⟩ s3
  refine q_parN (evna_cons (evn_pen rfl evna_nil fun _ h => h) (evna_cons (evn_pen rfl evna_nil fun _ h => h) evna_nil)) (fun ds ⟨d, ds1, e, _, d2, ds2, e2, _, e3⟩ => by rw [e, e2, e3] <;> rfl) fun d1 d2 ⟨d, ds1, e, ⟨_, _, ns, ed1, gm⟩, d', ds2, e2, ⟨_, _, rule, hru, ed2⟩, _⟩ => ?_
  obtain ⟨rfl, rfl⟩ := List.cons.inj e
  obtain ⟨rfl, rfl⟩ := List.cons.inj e2
  subst ed1 ed2
  obtain ⟨g, S, cl, nb⟩ := gm
  refine q_setN (evn_of (d := fD [ns.length - 1]) (ev_tup (eva_cons (ev_toD (ev_rI (f := fun i j => i - j) (ev_len (ds := ns.map (rowD PyData.str)) rfl (ev_var rfl)) ev_int) (by
    have h1 := g.one
    rw [List.length_map]
    show PyData.int _ = .int ((ns.length - 1 : Nat) : Int)
    rw [Int.ofNat_sub h1] <;> rfl)) eva_nil))) fun d hd => ?_
  subst hd
  have drawn : ∀ {ss : List SV}, ss[1]? = some (.v (.ref p)) → ss[7]? = some (.d (gD PyData.str ns)) → EvN K p (tCl (spP K (fun ds => ∃ ns m, ∃ ok : Str → Prop, ds = [gD PyData.str ns, .int (m : Nat)] ∧ GOk ok ns ∧ m ≤ 900) fun ds d => ∃ ns m run, ds = [gD PyData.str ns, .int (m : Nat)] ∧ d = .tuple (run.map PyData.int) ∧ RunV true ns run ∧ run.length ≤ m) (tCons (tVar 1) (tCons (tVar 7) (tCons (tC (.int 18)) tNil)))) ss (fun d => ∃ run, d = .tuple (run.map PyData.int) ∧ RunV true ns run ∧ run.length ≤ 18) := fun h1 h7 =>
    (evn_pen h1 (evna_cons (evn_of (ev_var h7)) (evna_cons (evn_of ev_int) evna_nil)) fun ds ⟨d, ds1, e, e1, d2, ds2, e2, e3, e4⟩ => ⟨ns, 18, _, by rw [e, e1, e2, e3, e4] <;> rfl, g, by decide⟩).imp fun d ⟨ds, ⟨d4, ds1, e, e1, d2, ds2, e2, e3, e4⟩, ns', m', run, e10, e11, rv, hl⟩ => by
      have z : [gD PyData.str ns, .int (18 : Int)] = [gD PyData.str ns', .int (m' : Nat)] := by rw [← e10, e, e1, e2, e3, e4]
      obtain ⟨z1, z2⟩ := List.cons.inj z
      have z1 := gD_inj str_inj z1
      have z2 := PyData.int.inj (List.cons.inj z2).1
      subst z1
      exact ⟨run, e11, rv, by omega⟩
  have cut : ∀ {ss : List SV}, ss[1]? = some (.v (.ref p)) → ss[7]? = some (.d (gD PyData.str ns)) → ss[3]? = some (.d (fD [ns.length - 1])) → EvN K p (tCl (spO K (fun ds => ∃ (ns : List (List (Str × Nat))) (fs : List Nat) (run : List Int), ∃ ok : Str → Prop, ds = [gD PyData.str ns, fD fs, .tuple (run.map .int)] ∧ GOk ok ns ∧ RunV true ns run ∧ run.length ≤ 900)
      fun ds r => ∃ (ns : List (List (Str × Nat))) (fs : List Nat) (run : List Int), ds = [gD PyData.str ns, fD fs, .tuple (run.map .int)] ∧ (r = .none ∨ ∃ j, j ≤ run.length ∧ r = .tuple ((run.take j).map .int) ∧ (fol ns (run.take j)).1 ∈ fs ∧ (lsAt (fol ns (run.take j)).2).work = none)) (tCons (tVar 7) (tCons (tVar 3) (tCons (tCl (spP K (fun ds => ∃ ns m, ∃ ok : Str → Prop, ds = [gD PyData.str ns, .int (m : Nat)] ∧ GOk ok ns ∧ m ≤ 900) fun ds d => ∃ ns m run, ds = [gD PyData.str ns, .int (m : Nat)] ∧ d = .tuple (run.map PyData.int) ∧ RunV true ns run ∧ run.length ≤ m) (tCons (tVar 1) (tCons (tVar 7) (tCons (tC (.int 18)) tNil)))) tNil)))) ss
      (fun d => ∃ r, RunV true ns r ∧ r.length ≤ 18 ∧ ((d = .none ∧ r = []) ∨ (d = .tuple (r.map PyData.int) ∧ (fol ns r).1 ∈ [ns.length - 1] ∧ (lsAt (fol ns r).2).work = none))) := fun h1 h7 h3 =>
    (evn_clO (evna_cons (evn_of (ev_var h7)) (evna_cons (evn_of (ev_var h3)) (evna_cons (drawn h1 h7) evna_nil))) fun ds ⟨d, ds1, e, e1, d2, ds2, e2, e3, d3, ds3, e4, ⟨run, e5, rv, hl⟩, e6⟩ => ⟨ns, [ns.length - 1], run, _, by rw [e, e1, e2, e3, e4, e5, e6], g, rv, by omega⟩).imp fun d ⟨ds, ⟨d0, ds1, e, e1, d2, ds2, e2, e3, d3, ds3, e4, ⟨run, e5, rv, hl⟩, e6⟩, ns', fs', run', e7, hr⟩ => by
      have z : [gD PyData.str ns, fD [ns.length - 1], .tuple (run.map .int)] = [gD PyData.str ns', fD fs', .tuple (run'.map .int)] := by rw [← e7, e, e1, e2, e3, e4, e5, e6]
      obtain ⟨z1, z2⟩ := List.cons.inj z
      obtain ⟨z2, z3⟩ := List.cons.inj z2
      have z1 := gD_inj str_inj z1
      have z2 := fD_inj z2
      have z3 := ints_inj (List.cons.inj z3).1
      subst z1 z2 z3
      rcases hr with hr | ⟨j, hj, hr, h1, h2⟩
      · exact ⟨[], fun j hj => absurd hj (Nat.not_lt_zero j), Nat.zero_le _, .inl ⟨hr, rfl⟩⟩
      · exact ⟨run.take j, rv.take j, by rw [List.length_take]; omega, .inr ⟨hr, h1, h2⟩⟩
  refine q_setN (cut rfl rfl rfl) fun d ⟨r, rv, hrl, hd⟩ => ?_
  clear drawn cut
  intro σs Hs gs ss
  obtain ⟨fs0, ps0⟩ := gs
  have hSlots : DS K Hs σs [.v (.ref a), .v (.ref p), .d (.str way), .d (fD [ns.length - 1]), .d d, .no, .no, .d (gD PyData.str ns), .d (.str rule), .no, .no] := ss
  -- the store
  refine ⟨.str rule, hSlots.d1 (i := 8) rfl, .str rule, .int 200, .str "old", rfl, rfl, fun aS dS hS0 hdS0 neS CD hCD => ?_⟩
  have n1 : upd Hs dS (.own aS) aS = none := (upd_ne neS.symm).trans hS0
  have u1 := (Same.new (o := HO.own aS) hdS0).trans (Same.new (o := HO.ins a_Store dS []) n1)
  have u2 := u1.trans (Same.new (o := HO.dK [(.inr "a", V.str "old")]) hCD)
  have nCDS : CD ≠ aS := fun z => by rw [z, upd_same] at hCD; cases hCD
  refine ⟨aS, dS, rule, CD, "old", rfl, (upd_ne nCDS.symm).trans upd_same, upd_same, hru, old_ok, fun C M PL QL tc H3 fr3 hS3 hC3 htc3 hM3 hPL3 hQL3 nC ntc nM nPL nQL nCM nPQ => ⟨rfl, ?_⟩⟩
  have e03 : Same Hs H3 := fun b o hb => fr3 b o (u2 _ _ hb) fun z => by rw [z, hS0] at hb; cases hb
  have zC := u2.free nC
  have ztc := u2.free ntc
  have zM := u2.free nM
  have zPL := u2.free nPL
  have zQL := u2.free nQL
  have s5 := (hSlots.mono e03.tp).set (i := 5) (s := .v (.ref aS)) (v := .ref aS) rfl
  -- ann, the keeper, bob
  refine ⟨.ref aS, s5.v (i := 5) rfl, aS, dS, _, rfl, hS3, rfl, aS, dS, rule, C, M, PL, QL, "ann", [], rfl, names_ok _ (by decide +kernel), hS3, hM3, rfl, Nat.zero_le _, fun A dA D H4 fr4 hM4 hA4 hD4 nA nD => ?_⟩
  have fr4 : ∀ b o, H3 b = some o → ¬ b = M → H4 b = some o := fr4
  have e04 : Same Hs H4 := fun b o hb => fr4 b o (e03 _ _ hb) fun z => by rw [z, zM] at hb; cases hb
  have zA := e03.free nA
  refine ⟨.str way, s5.d1 (i := 2) rfl, fun k dk hk0 hdk0 nek => ?_⟩
  have zk := e04.free hk0
  have n2 : upd H4 dk (.own k) k = none := (upd_ne nek.symm).trans hk0
  have u4 := (Same.new (o := HO.own k) hdk0).trans (Same.new (o := HO.ins a_Keeper dk []) n2)
  have nSM : aS ≠ M := ne_of hS3 hM3 (fun z => by cases z)
  refine ⟨k, dk, A, way, dA, "ann", .non, D, .non, aS, dS, rule, C, M, PL, QL, tc, "old", 0, rfl, upd_same, hway, u4 _ _ hA4, u4 _ _ (fr4 _ _ hS3 nSM), u4 _ _ (fr4 _ _ hC3 nCM), u4 _ _ (fr4 _ _ htc3 (ne_of htc3 hM3 fun z => by cases z)), fun LG H5 fr5 hk5 hL5 nLG => ⟨rfl, ?_⟩⟩
  have f45 : ∀ b o, H4 b = some o → H5 b = some o := fun b o hb => fr5 b o (u4 _ _ hb) fun z => by rw [z, hk0] at hb; cases hb
  have e45 : Same H4 H5 := f45
  have e05 := e04.trans e45
  refine ⟨.ref aS, s5.v (i := 5) rfl, aS, dS, _, rfl, f45 _ _ (fr4 _ _ hS3 nSM), rfl, aS, dS, rule, C, M, PL, QL, "bob", [(.inr "ann", .ref A)], rfl, names_ok _ (by decide +kernel), f45 _ _ (fr4 _ _ hS3 nSM), f45 _ _ hM4, rfl, Nat.le_of_ble_eq_true rfl, fun B dB DB H6 fr6 hM6 hB6 hDB6 nB nDB => ⟨_, _, rfl, ?_⟩⟩
  have fr6 : ∀ b o, H5 b = some o → ¬ b = M → H6 b = some o := fr6
  have e06 : Same Hs H6 := fun b o hb => fr6 b o (e05 _ _ hb) fun z => by rw [z, zM] at hb; cases hb
  dsimp only
  have s6 := ((((hSlots.mono e06.tp).set (i := 5) (s := .v (.ref aS)) (v := .ref aS) rfl).set (i := 9) (s := .v (.ref k)) (v := .ref k) rfl).set (i := 10) (s := .v (.ref B)) (v := .ref B) rfl)
  have s60 := ((((hSlots).set (i := 5) (s := .v (.ref aS)) (v := .ref aS) rfl).set (i := 9) (s := .v (.ref k)) (v := .ref k) rfl).set (i := 10) (s := .v (.ref B)) (v := .ref B) rfl)
  -- the mirror and its steps
  obtain ⟨v7, h7, d7⟩ := s6.d (i := 7) rfl
  obtain ⟨v3, h3, d3⟩ := s6.d (i := 3) rfl
  refine ⟨v7, h7, v3, h3, fun mx dmx hmx hdmx nem => ?_⟩
  have n3 : upd H6 dmx (.own mx) mx = none := (upd_ne nem.symm).trans hmx
  have u6 := (Same.new (o := HO.own mx) hdmx).trans (Same.new (o := HO.ins a_Mirror dmx []) n3)
  refine ⟨mx, dmx, v7, v3, ns, [ns.length - 1], rfl, upd_same, d7.mono u6.tp, d3.mono u6.tp, g, ⟨fun i hi => ?_, fun i hi => ?_, Nat.le_of_ble_eq_true rfl⟩, trivial, fun H7 fr7 ga => ⟨rfl, ?_⟩⟩
  · have h1 := g.one
    have : i = 0 := by simpa using hi
    subst this
    show ns.length - 1 < ns.length
    omega
  · have : i + 1 < 1 := hi
    omega
  have e67 : Same H6 H7 := fun b o hb => fr7 b o (u6 _ _ hb) fun z => by rw [z, hmx] at hb; cases hb
  obtain ⟨dm7, w1, w2, hm7, _, _⟩ := id ga
  refine ⟨mx, dm7, _, rfl, hm7, rfl, ?_⟩
  refine (eva_cons (ev_if (b := !isNoneD d) (evt_test (ev_notN (ev_var (i := 4) rfl))) (fun hb => ev_toD (ev_var (i := 4) rfl) (by
    rcases hd with ⟨rfl, _⟩ | ⟨rfl, _⟩
    · cases hb
    · rfl)) (fun hb => ev_toD (ev_tup eva_nil) (by
    rcases hd with ⟨rfl, rfl⟩ | ⟨rfl, _⟩
    · rfl
    · cases hb))) eva_nil : EvA K (gS H7) _ _ [.tuple (r.map .int)]) _ H7 (Same.refl _) (s6.mono e67.tp) _ fun vs H8 e8 a8 => ?_
  cases a8 with
  | @cons vr vs1 _ _ dr a8 =>
  cases a8
  have e78 : Same H7 H8 := e8
  refine ⟨mx, vr, ns, [ns.length - 1], r, rfl, ga.mono e78, g, dr, rv, by omega, fun vS H9 e9 dS9 => ?_⟩
  cases dS9 with
  | @tup St xs _ hSt ts =>
  have e69 : Same H6 H9 := (e67.trans e78).trans e9
  have e09 : Same Hs H9 := e06.trans e69
  have e5x : ∀ b o, H5 b = some o → ¬ b = M → H9 b = some o := fun b o hb hn => e69 _ _ (fr6 b o hb hn)
  have nM4 := hM4
  have g3 : ∀ b o, H3 b = some o → ¬ b = M → H9 b = some o := fun b o hb hn => e5x b o (f45 _ _ (fr4 b o hb hn)) hn
  have nDM : D ≠ M := fun z => by rw [z, hM3] at nD; cases nD
  have hM5 := f45 _ _ hM4
  have hA9 : H9 A = some (.ins a_Client dA (cliF aS "ann" .non D .non)) := e5x _ _ (f45 _ _ hA4) (ne_of (f45 _ _ hA4) hM5 fun z => by cases z)
  have hB9 := e69 _ _ hB6
  have hk9 : H9 k = some (.ins a_Keeper dk (kpF A way .non 0 LG)) := e5x _ _ hk5 (ne_of hk5 hM5 fun z => by cases z)
  have hL9 : H9 LG = some (.lst []) := e5x _ _ hL5 (ne_of hL5 hM5 fun z => by cases z)
  have hC9 := g3 _ _ hC3 nCM
  have hQ9 := g3 _ _ hQL3 (ne_of hQL3 hM3 fun z => by cases z)
  have hP9 := g3 _ _ hPL3 (ne_of hPL3 hM3 fun z => by cases z)
  let ad : Ads := ⟨aS, dS, C, M, PL, QL, A, dA, B, dB, k, dk, LG, rule, way⟩
  have zB : Hs B = none := e05.free nB
  have zLG : Hs LG = none := (e04.trans u4).free nLG
  have hx4 : ∀ b o, H3 b = some o → ¬ b = M → ¬ b = LG := fun b o hb hn z => by
    have q := u4 _ _ (fr4 b o hb hn)
    rw [z, nLG] at q
    cases q
  have k0 : KH ad ⟨"old", 0, 0, [], none, none, none, [], 0⟩ tc D DB [] [] .non (fun b => Hs b ≠ none ∨ b = St) H9 := by
    refine ⟨fun b hb => ?_, g3 _ _ hS3 nSM, hC9, g3 _ _ htc3 (ne_of htc3 hM3 fun z => by cases z), e69 _ _ hM6, hP9, hQ9, .nil, hA9, e5x _ _ (f45 _ _ hD4) nDM, hB9, e69 _ _ hDB6, hk9, hL9, rfl, rfl, nPQ, hx4 _ _ hPL3 (ne_of hPL3 hM3 fun z => by cases z), hx4 _ _ hQL3 (ne_of hQL3 hM3 fun z => by cases z), fun z => ?_, ?_⟩
    · rcases hb with hb | rfl
      · cases hh : Hs b with
        | none => exact absurd hh hb
        | some o =>
          rw [e09 _ _ hh]
          exact fun z => by cases z
      · rw [hSt]
        exact fun z => by cases z
    · have q := f45 _ _ hA4
      rw [show A = B from z, nB] at q
      cases q
    · have nSt : ∀ b o, H9 b = some o → (∀ ys, o ≠ .tup ys) → Hs b = none → ¬ (Hs b ≠ none ∨ b = St) := fun b o hb ho hz hc => by
        rcases hc with hc | rfl
        · exact hc hz
        · rw [hSt] at hb
          exact ho _ (Option.some.inj hb).symm
      exact ⟨nSt _ _ hA9 (fun _ z => by cases z) zA, nSt _ _ hB9 (fun _ z => by cases z) zB, nSt _ _ hC9 (fun _ z => by cases z) zC, nSt _ _ hQ9 (fun _ z => by cases z) zQL, nSt _ _ hP9 (fun _ z => by cases z) zPL, nSt _ _ hk9 (fun _ z => by cases z) zk, nSt _ _ hL9 (fun _ z => by cases z) zLG⟩
  have hps9 : PenAt H9 p := ps0.mono e09
  have tps : ∀ {H' : Hp}, FrP p Hs H' → Tp K Hs H' := fun f => f.tp ps0
  have xl : xs.length = r.length := by rw [ts.len, List.length_map, fol_len]
  refine ⟨St, rfl, ⟨xs, SqT.of hSt⟩, ?_⟩
  refine for_it (walk_tup (K := K) (a := St) (xs := xs)) (fun j σ' H' => ∃ s tc D DB qs qq wk, KH ad s tc D DB qs qq wk (fun b => Hs b ≠ none ∨ b = St) H' ∧ FrP p Hs H' ∧ PenAt H' p ∧ Sim way ns S (r.take j) s ∧ H' St = some (.tup xs) ∧ DS K Hs σ' [.v (.ref a), .v (.ref p), .d (.str way), .d (fD [ns.length - 1]), .d d, .v (.ref aS), .no, .d (gD PyData.str ns), .d (.str rule), .v (.ref k), .v (.ref B)])
    ⟨_, _, _, _, _, _, _, k0, e09.frP, hps9, by rw [List.take_zero]; exact Sim.nil cl, hSt, s60⟩ (fun j σ' H' _ p => by obtain ⟨_, _, _, _, _, _, _, _, _, _, _, h, _⟩ := p; exact SqT.of h) (fun j xv σ' Hx H' hj ⟨s, tc, D, DB, qs, qq, wk, kh, f, hpp, sim, hSt', ds⟩ y => ?_) (fun σ' H' ⟨s, tc, D, DB, qs, qq, wk, kh, f, hpp, sim, hSt', ds⟩ => ?_)
  · obtain ⟨rfl, hxv⟩ := y
    have hjr : j < r.length := by omega
    have np : (fun b => Hs b ≠ none ∨ b = St) p := .inl (by obtain ⟨_, _, _, q⟩ := ps0; rw [q]; exact fun z => by cases z)
    have nStp : St ≠ p := fun z => by
      obtain ⟨_, _, _, q⟩ := hpp
      rw [← z, hSt'] at q
      cases q
    have hlj : (r.take j).length = j := by rw [List.length_take]; omega
    have hts := take_succ' hjr
    have hget := fol_get (ns := ns) r.length r rfl j hjr
    obtain ⟨dd, hdd, dx⟩ := ts.getV hxv
    have edd : dd = stD PyData.str (nxS ns (fol ns (r.take j)).1 (r.getD j 0)).2 := by
      rw [List.getElem?_map, hget] at hdd
      exact (Option.some.inj hdd).symm
    subst edd
    have bd := sim.bn
    rw [hlj] at bd
    have hrel : s.n0 ≤ s.np := by
      obtain ⟨x, hx, _⟩ := sim.ex
      exact hx.n0
    rcases rv j hjr with ⟨h1, _⟩ | ⟨h1, h2⟩
    · rw [h1] at dx hts
      have dx : DT K H9 xv (.str "other") := dx
      cases dx
      have ds1 := ds.set (i := 6) (s := .d (.str "other")) (v := .str "other") ⟨_, rfl, .str _⟩
      refine ⟨.str "other", ds1.d1 (i := 6) rfl, rfl, _, rfl, ?_⟩
      rw [decide_eq_true rfl]
      refine iteT ⟨.ref B, ds1.v (i := 10) rfl, .ref p, ds1.v (i := 1) rfl, .str rule, ds1.d1 (i := 8) rfl, .str way, ds1.d1 (i := 2) rfl, p, [.str rule, .str way], [.str rule, .str way], rfl, hpp, .cons (.str _) (.cons (.str _) .nil), ⟨rule, way, rfl⟩, fun v dv0 H2 f2 p2 ⟨rule', way', l, e, ed, ho⟩ dv => ?_⟩
      obtain ⟨e1, e2⟩ := List.cons.inj e
      have e1 := PyData.str.inj e1
      have e2 := PyData.str.inj (List.cons.inj e2).1
      subst e1 e2 ed
      have k2 := kh.pen f2 hpp np p2
      refine ⟨ad, s, tc, D, DB, qs, qq, wk, _, v, l, rfl, k2, dv, ho.1, ho.2.1, hru, Nat.le_trans bd.np (by omega), by have := bd.ents; omega, hrel, fun H3 tc' DB' ps' qs' k3 f3 => ⟨true, rfl, ?_⟩⟩
      refine iteF ⟨.ref k, ds1.v (i := 9) rfl, k, rfl, .str "other", ds1.d1 (i := 6) rfl, .inr ⟨dk, _, k3.hk⟩, ad, _, tc', D, DB', ps', qs', wk, _, "other", rfl, k3, (bd.told ho).bd (by omega), hru, .inr rfl, fun v H4 tc4 D4 ps4 qs4 wk4 k4 f4 => ?_⟩
      refine ⟨_, tc4, D4, DB', ps4, qs4, wk4, k4, fun b o hb hn => f4 b o (.inl (by rw [hb]; exact fun z => by cases z)) (f3 b o (.inl (by rw [hb]; exact fun z => by cases z)) (f2 b o (f b o hb hn) hn)), ?_, ?_, f4 _ _ (.inr rfl) (f3 _ _ (.inr rfl) (f2 _ _ hSt' nStp)), ds1.wk ⟨.inr rfl, .inr rfl, .inr rfl, .inr rfl, .inr rfl, .inr rfl, .inl rfl, .inr rfl, .inr rfl, .inr rfl, .inr rfl, trivial⟩⟩
      · obtain ⟨x, y, z, q⟩ := p2
        exact ⟨x, y, z, f4 _ _ np (f3 _ _ np q)⟩
      · rw [hts]
        exact sim.told cl ho
    · have hne : ¬ r.getD j 0 = -1 := by omega
      have e0 : nxS ns (fol ns (r.take j)).1 (r.getD j 0) = (((ns.getD (fol ns (r.take j)).1 []).getD (r.getD j 0).toNat default).2, some ((ns.getD (fol ns (r.take j)).1 []).getD (r.getD j 0).toNat default).1) := by
        unfold nxS
        rw [if_neg hne]
      rw [e0] at dx
      have hlt := fol_lt g rv j (by omega)
      have hzm : ((ns.getD (fol ns (r.take j)).1 []).getD (r.getD j 0).toNat default).1 ∈ msteps := by
        have hl2 : (r.getD j 0).toNat < (ns.getD (fol ns (r.take j)).1 []).length := by omega
        refine g.step (ns.getD (fol ns (r.take j)).1 []) ?_ _ ?_
        · rw [List.getD_eq_getElem?_getD, List.getElem?_eq_getElem hlt]; exact List.getElem_mem hlt
        · generalize ns.getD (fol ns (r.take j)).1 [] = es at hl2 ⊢
          rw [List.getD_eq_getElem?_getD, List.getElem?_eq_getElem hl2]
          exact List.getElem_mem hl2
      have sim2 := sim.byE cl g h1 h2 (by omega)
      rw [← hts] at sim2
      generalize ((ns.getD (fol ns (r.take j)).1 []).getD (r.getD j 0).toNat default).1 = z at dx hzm sim2
      have dx : DT K H9 xv (.str z) := dx
      cases dx
      have hzo : ¬ V.str z = V.str "other" := fun e => by
        have e := V.str.inj e
        rw [e] at hzm
        exact absurd hzm (by decide +kernel)
      have ds1 := ds.set (i := 6) (s := .d (.str z)) (v := .str z) ⟨_, rfl, .str _⟩
      refine ⟨.str z, ds1.d1 (i := 6) rfl, rfl, _, rfl, ?_⟩
      rw [decide_eq_false hzo]
      refine iteF (iteF ⟨.ref k, ds1.v (i := 9) rfl, k, rfl, .str z, ds1.d1 (i := 6) rfl, .inr ⟨dk, _, kh.hk⟩, ad, s, tc, D, DB, qs, qq, wk, _, z, rfl, kh, bd.bd (by omega), hru, .inl hzm, fun v H4 tc4 D4 ps4 qs4 wk4 k4 f4 => ?_⟩)
      refine ⟨_, tc4, D4, DB, ps4, qs4, wk4, k4, fun b o hb hn => f4 b o (.inl (by rw [hb]; exact fun z => by cases z)) (f b o hb hn), ?_, sim2, f4 _ _ (.inr rfl) hSt', ds1.wk ⟨.inr rfl, .inr rfl, .inr rfl, .inr rfl, .inr rfl, .inr rfl, .inl rfl, .inr rfl, .inr rfl, .inr rfl, .inr rfl, trivial⟩⟩
      obtain ⟨x, y, z, q⟩ := hpp
      exact ⟨x, y, z, f4 _ _ np q⟩
  · rw [xl, List.take_length] at sim
    have np : (fun b => Hs b ≠ none ∨ b = St) p := .inl (by obtain ⟨_, _, _, q⟩ := ps0; rw [q]; exact fun z => by cases z)
    refine ⟨.ref k, ds.v (i := 9) rfl, k, rfl, .inr ⟨dk, _, kh.hk⟩, ad, s, tc, D, DB, qs, qq, wk, _, "receive", rfl, kh, sim.bn.bd (by omega), hru, .inl (by decide +kernel), fun v H4 tc4 D4 ps4 qs4 wk4 k4 f4 => ?_⟩
    have f' : FrP p Hs H4 := fun b o hb hn => f4 b o (.inl (by rw [hb]; exact fun z => by cases z)) (f b o hb hn)
    have p4 : PenAt H4 p := by
      obtain ⟨x, y, z, q⟩ := hpp
      exact ⟨x, y, z, f4 _ _ np q⟩
    have done := fin σ' H4 (fs0.trans f') p4 ((ds.mono (tps f')).wk ⟨.inr rfl, .inr rfl, .inl rfl, .inl rfl, .inl rfl, .inl rfl, .inl rfl, .inl rfl, .inl rfl, .inl rfl, .inl rfl, trivial⟩)
    rcases hd with ⟨rfl, _⟩ | ⟨rfl, hf, hw⟩
    · refine ⟨.non, ds.d1 (i := 4) rfl, rfl, _, rfl, ?_⟩
      rw [decide_eq_true rfl]
      exact iteF (iteF done)
    · obtain ⟨v4, h4, d4⟩ := ds.d (i := 4) rfl
      cases d4
      obtain ⟨r1, r2⟩ := sim.rest nb hf hw
      have eh : heldV (s.step way "receive").log = .str (s.step way "receive").w0 := by
        unfold heldV
        rw [r1, r2]
      refine ⟨_, h4, rfl, _, rfl, ?_⟩
      rw [decide_eq_false (fun z => nomatch z)]
      refine iteT ⟨.ref k, ds.v (i := 9) rfl, k, dk, _, rfl, k4.hk, k, dk, A, way, wk4, _, LG, _, rfl, k4.hk, k4.hL, ?_⟩
      refine ⟨.ref aS, ds.v (i := 5) rfl, aS, dS, _, rfl, k4.hS, rfl, aS, dS, rule, C, M, PL, QL, tc4, _, _, rfl, k4.hS, k4.hC, k4.htc, ?_⟩
      show rNe (heldV (s.step way "receive").log) (.str (s.step way "receive").w0) H4 _
      rw [eh]
      refine ⟨rfl, _, rfl, ?_⟩
      rw [decide_eq_true rfl]
      exact iteF done
end
end KX
set_option maxHeartbeats 0
open PySem PySem.W PySem.Calls PyProof.Rows
theorem PySem.Challenge.cw_closenews_k56_whole_writers_and_mirrors_holds : PySem.Challenge.rw_closenews_k56_whole_writers_and_mirrors.Holds := by
  w_on; o_law
  refine HandSHeadRun.head_any (r := OpenLaw.row PySem.Challenge.rw_closenews_k56_whole_writers_and_mirrors) (q := view (OpenLaw.row PySem.Challenge.rw_closenews_k56_whole_writers_and_mirrors).prog [107]) (H := KX.hk) (ob := KX.ob) (M := 14000) (loose := KX.names) (d := HandSHeadRun.topDef (OpenLaw.row PySem.Challenge.rw_closenews_k56_whole_writers_and_mirrors).prog 107) (kwd := []) KX.ob_eq
    (by kernel_rfl) (fun s => by kernel_rfl) KX.headRun (by kernel_rfl) (by kernel_rfl) (by kernel_rfl) (by rfl) (by first | assumption | decide +kernel) (by decide +kernel) ⟨rfl, rfl, rfl, rfl, rfl, by decide +kernel⟩ ?hw ?hc
  case hw => w_witness2
  case hc =>
    refine L2.walk_ofE (l := PySem.Challenge.rw_closenews_k56_whole_writers_and_mirrors) (n := 63) (k := 11) (x := "_law_script") (CX := L2.CX0) rfl (by decide) (by kernel_rfl) ⟨rfl, by decide, by decide⟩ ?F (fun _ _ _ _ z => z)
    intro w mg fa h Y G hmg0
    have hmg : mg ("law" : PySem.Str) = some (.ref fa) := by
      have e : (HandSHeadRun.topDef (OpenLaw.row PySem.Challenge.rw_closenews_k56_whole_writers_and_mirrors).prog 107).name = ("law" : PySem.Str) := by kernel_rfl
      rw [← e]
      exact hmg0
    have X : (KX.KL w).In h := Y
    have T := KX.Tx.of X G
    have e := hmg.symm.trans T.g_law
    cases e
    have Pf : KX.PF (PySem.Challenge.rw_closenews_k56_whole_writers_and_mirrors).prog := ⟨by decide +kernel, by decide +kernel⟩
    obtain ⟨fd, hb, hF⟩ := KX.ok_law (P := (PySem.Challenge.rw_closenews_k56_whole_writers_and_mirrors).prog) T Pf
    exact ⟨KX.KL w, fd, KX.spLaw (KX.KL w), X, fun s u => hb s [u] rfl, fun H a ns hl _ hS => ⟨a, ns, rfl, hS, fun _ => rfl⟩, fun base _ _ => hF base⟩
