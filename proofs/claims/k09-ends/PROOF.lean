import PyProof.Rows.All
import Wide.All
import OpenK.AllK
import Wide.FinOn
import HandS.Head0
import HandS.Head1
import HandS.Head2
import HandS.HeadHook1
import HandS.HeadHook2
import HandS.HeadHook3
import HandS.HeadHook4
import HandS.HeadEnd
import HandS.Words
import KE.KStateDown
import PySem.Challenge.RW_markedpair_k09_whole_ends_as_rows_of_row
import KE.KCallOwn
import KE.KFmtOwn
import KE.KOwnIter
import HandS.ForMost
import HandS.Evl
import HandS.IsInst
import HandS.OwnEq
import HandS.Star
import HandS.Defaults
import HandS.FStr
import HandS.Zip
import HandS.TupAny
import HandS.Deep
import KE.KSuper
import HandS.ClsMeth
import HandS.MakeKw
import HandS.ExcInit
import KE.KExcSuper
import HandS.IterVal
import HandS.Lambda
import PyProof.EnumMake
import KE.KDictKeyed
import KE.KeyNested
import HandS.Dict
import PyProof.ReprRoads
import HandS.GenOver
import HandS.GenList
import OpenK.XSeg
import HandS.MakeKwOnly
import PyProof.CompUse
import HandS.Steps
import HandS.Wide
import PyProof.StrLawsIn
import HandS.Style
import KE.KExcIs
import HandS.ExcIs
import HandS.EndTab
set_option Elab.async false
set_option linter.all false
set_option maxRecDepth 100000
set_option maxHeartbeats 0
/-! The head: what the top of the linked text leaves. Printed by gen_head.py. -/
namespace Mp
open PySem PySem.Spec PyProof.Rows L2
abbrev R : PySem.W.OpenRow := PySem.W.OpenLaw.row PySem.Challenge.rw_markedpair_k09_whole_ends_as_rows_of_row
abbrev RP : Program := R.prog
def top (i : Nat) : Stmt := PySem.Challenge.pw_markedpair_k09_whole_ends_as_rows_of_row.main.body.getD i (.Pass ⟨0, 0, 0, 0⟩)
def mth (i j : Nat) : Stmt := match top i with
  | .ClassDef _ _ _ b _ _ _ _ _ _ _ => b.getD j (.Pass ⟨0, 0, 0, 0⟩)
  | _ => .Pass ⟨0, 0, 0, 0⟩
/-- the def under the classmethod m of C -/
def cmA (K : PySem.W.Frag) (C : Addr) (m : Str) : Addr := match K.lookup (He.ma K C m) with
  | some ⟨_, _, .fields vs, _⟩ => (match vs.toList with
    | .ref g :: _ => g
    | _ => 0)
  | _ => 0
def cmB (K : PySem.W.Frag) (C : Addr) (m : Str) : Bool := match PySem.W.recIn K (He.ma K C m) "classmethod" with
  | some (.ref g :: _) => decide (g = cmA K C m)
  | _ => false
theorem cmB_ok {K : PySem.W.Frag} {C : Addr} {m : Str} (h : cmB K C m = true) : ∃ rest, PySem.W.recIn K (He.ma K C m) "classmethod" = some (.ref (cmA K C m) :: rest) := by
  unfold cmB at h
  split at h
  · rename_i g rest e
    rw [of_decide_eq_true h] at e
    exact ⟨rest, e⟩
  · cases h
def cfB (K : PySem.W.Frag) (C : Addr) (m : Str) : Bool := match PySem.W.findCls K (.ref C) (.type "type") m with
  | some (.get (.builtin g) (.ref p) .none (.ref C')) => decide (g = "classmethod.__get__") && (decide (p = He.ma K C m) && decide (C' = C))
  | _ => false
theorem cfB_ok {K : PySem.W.Frag} {C : Addr} {m : Str} (h : cfB K C m = true) : PySem.W.findCls K (.ref C) (.type "type") m = some (.get (.builtin "classmethod.__get__") (.ref (He.ma K C m)) .none (.ref C)) := by
  unfold cfB at h
  split at h
  · rename_i g p C' e
    obtain ⟨h1, h2⟩ := He.ba h
    obtain ⟨h3, h4⟩ := He.ba h2
    rw [e, of_decide_eq_true h1, of_decide_eq_true h3, of_decide_eq_true h4]
  · cases h
def fileB (K : PySem.W.Frag) (f : Addr) : Bool := match K.lookup f with
  | some ⟨_, _, .func fd, _⟩ => (match fd.code with
    | .ref c => (match K.lookup c with
      | some ⟨_, _, .fields vs, _⟩ => (match (vs[2]? : Option Value) with
        | some (.str file _) => ((RP.main.file : Str) == file)
        | _ => false)
      | _ => false)
    | _ => false)
  | _ => false
theorem fileB_ok {K : PySem.W.Frag} {f : Addr} {oc : Value} {od : Option Addr} {fd : FuncData} {osl : Array (Option Value)} (h : fileB K f = true) (lk : K.lookup f = some ⟨oc, od, .func fd, osl⟩) :
    ∃ cda ccl cdd vs ccs file tf, fd.code = .ref cda ∧ K.lookup cda = some ⟨ccl, cdd, .fields vs, ccs⟩ ∧ vs[2]? = some (.str file tf) ∧ ((RP.main.file : Str) == file) = true := by
  unfold fileB at h
  rw [lk] at h
  dsimp only at h
  split at h
  · rename_i c e1
    split at h
    · rename_i vs _ e2
      split at h
      · rename_i file t e3
        exact ⟨c, _, _, vs, _, file, t, e1, e2, e3, h⟩
      · cases h
    · cases h
  · cases h
def excB (K : PySem.W.Frag) (C : Addr) : Bool := match K.lookup C with
  | some ⟨.type t, dd, .cls cd, sl⟩ => decide (t = "type") && (match cd.mro, sl.toList with
    | .ref C' :: bm, [k0, k1, k2, k3, some (.builtin n), k5] => decide (C' = C) && decide (n = "ValueError.__new__") && PySem.HandSPX.refsVE bm && cd.hasDict && !cd.hasDel
    | _, _ => false)
  | _ => false
theorem excB_ok {K : PySem.W.Frag} {C : Addr} (h : excB K C = true) : ∃ nm q N bs bm sn sub ab col dd k0 k1 k2 k3 k5, K.lookup C = some (excClassObj nm q C N bs bm true sn sub ab col dd k0 k1 k2 k3 k5 "ValueError.__new__") ∧ PySem.HandSPX.refsVE bm = true := by
  unfold excB at h
  split at h
  · rename_i t dd cd sl ho
    obtain ⟨h0, h⟩ := He.ba h
    have et := of_decide_eq_true h0
    subst et
    split at h
    · rename_i C' bm k0 k1 k2 k3 n k5 hm hs
      simp only [Bool.and_eq_true, Bool.not_eq_true', decide_eq_true_eq] at h
      obtain ⟨_, ⟨⟨⟨h1, h2⟩, h3⟩, h4⟩, h5⟩ := h
      subst h2
      subst h1
      obtain ⟨nm, bs, mro, ns, qn, hdct, sn, sub, ab, col, hdel⟩ := cd
      simp only at hm h4 h5
      subst hm h4 h5
      have es : sl = #[k0, k1, k2, k3, some (.builtin "ValueError.__new__"), k5] := by
        apply Array.ext'
        rw [hs]
      subst es
      exact ⟨nm, qn, ns, bs, bm, sn, sub, ab, col, dd, k0, k1, k2, k3, k5, ho, h3⟩
    · cases h
  · cases h
/-- one def: where it stands, its text; cls: the class that its cell __class__ holds -/
structure MD where
  adr : PySem.W.Frag → Addr
  name : Str
  qual : Str
  st : Stmt
  cls : Option Str
abbrev FnM : Type := Option (Str × Str × Arguments × FuncBody × Scope × Addr × List Str × Addr)
def mdW (K : PySem.W.Frag) (d : MD) : FnM := match K.lookup (d.adr K) with
  | some ⟨_, _, .func fd, _⟩ => some (fd.name, fd.qualname, fd.params, fd.body, fd.scope, fd.globals, fd.closure.map (·.1), fd.builtins)
  | _ => none
def MD.val (d : MD) : FnM := some (d.name, d.qual, defArgs d.st, .stmts (defBody d.st), defScope d.st, mainGlobals, (match d.cls with | some _ => ["__class__"] | none => []), builtinsNs)
def MD.ok (K : PySem.W.Frag) (d : MD) : Bool := PySem.W.keepIn K (.ref (d.adr K)) && (match K.lookup (d.adr K) with
  | some ⟨_, _, .func fd, _⟩ => PySem.W.codeIn K fd.code d.qual && ((match fd.defaults with | .none => true | _ => false) && (match d.cls with
    | none => true
    | some x => (match fd.closure with
      | [(_, cc)] => (match K.lookup cc with
        | some ⟨_, _, .cell (some (.ref D)), _⟩ => decide (D = He.ga K x)
        | _ => false)
      | _ => false)))
  | _ => false)
theorem MD.fun {K : PySem.W.Frag} {d : MD} (e : mdW K d = d.val) (c : d.ok K = true) (hn : d.cls = none) : ∃ fd, FunD K d.name d.qual (defArgs d.st) (defBody d.st) (defScope d.st) [] [] (d.adr K) fd := by
  obtain ⟨kp, c2⟩ := He.ba c
  unfold mdW at e
  cases q : K.lookup (d.adr K) with
  | none =>
    rw [q] at c2
    cases c2
  | some o =>
    obtain ⟨oc, od, dt, osl⟩ := o
    rw [q] at c2 e
    cases dt with
    | func fd =>
      obtain ⟨n1, n2, n3, n4, n5, n6, n7, n8, n9, n10, n11, n12, n13, n14, n15⟩ := fd
      unfold MD.val at e
      rw [hn] at e
      simp only [Option.some.injEq, Prod.mk.injEq] at e
      obtain ⟨h1, h2, h3, h4, h5, h6, h7, h8⟩ := e
      have h7' : n7 = [] := by simpa using h7
      subst h1 h2 h3 h4 h5 h6 h7' h8
      obtain ⟨k1, k2⟩ := He.ba c2
      obtain ⟨k3, k4⟩ := He.ba k2
      have k5 : n8 = .none := by
        revert k3
        cases n8 <;> simp
      subst k5
      exact ⟨_, ⟨oc, od, .none, n9, n10, n11, n12, n13, n14, osl, rfl, q, k1, .inl ⟨rfl, rfl⟩, .inl rfl⟩, kp⟩
    | _ => cases c2
theorem MD.sup {K : PySem.W.Frag} {d : MD} {x : Str} (e : mdW K d = d.val) (c : d.ok K = true) (hn : d.cls = some x) :
    PySem.W.keepIn K (.ref (d.adr K)) = true ∧ ∃ oc od kV doc pm an cdv ct cc osl cl cld csl, K.lookup (d.adr K) = some ⟨oc, od, .func (PySem.W.ksFn d.name d.qual (defArgs d.st) (defBody d.st) (defScope d.st) .none kV doc pm an cdv ct cc), osl⟩ ∧
      PySem.W.codeIn K cdv d.qual = true ∧ K.lookup cc = some ⟨cl, cld, .cell (some (.ref (He.ga K x))), csl⟩ := by
  obtain ⟨kp, c2⟩ := He.ba c
  refine ⟨kp, ?_⟩
  unfold mdW at e
  cases q : K.lookup (d.adr K) with
  | none =>
    rw [q] at c2
    cases c2
  | some o =>
    obtain ⟨oc, od, dt, osl⟩ := o
    rw [q] at c2 e
    cases dt with
    | func fd =>
      obtain ⟨n1, n2, n3, n4, n5, n6, n7, n8, n9, n10, n11, n12, n13, n14, n15⟩ := fd
      unfold MD.val at e
      rw [hn] at e c2
      simp only [Option.some.injEq, Prod.mk.injEq] at e
      obtain ⟨h1, h2, h3, h4, h5, h6, h7, h8⟩ := e
      obtain ⟨k1, k2⟩ := He.ba c2
      obtain ⟨k3, k4⟩ := He.ba k2
      have k5 : n8 = .none := by
        revert k3
        cases n8 <;> simp
      subst k5
      dsimp only at k4 h7
      split at k4
      · rename_i nm cc
        split at k4
        · rename_i oc2 od2 D sl2 q2
          have eD := of_decide_eq_true k4
          have en : nm = ("__class__" : Str) := by simpa using h7
          subst eD en
          subst h1 h2 h3 h4 h5 h6 h8
          exact ⟨oc, od, n9, n10, n11, n12, n13, n14, cc, osl, oc2, od2, sl2, rfl, k1, q2⟩
        · cases k4
      · cases k4
    | _ => cases c2

abbrev s_is_integer : Stmt := top 6
def m_is_integer : MD := ⟨fun K => He.ga K "is_integer", "is_integer", "is_integer", s_is_integer, none⟩
abbrev s_is_within : Stmt := top 7
def m_is_within : MD := ⟨fun K => He.ga K "is_within", "is_within", "is_within", s_is_within, none⟩
abbrev s_is_state : Stmt := top 8
def m_is_state : MD := ⟨fun K => He.ga K "is_state", "is_state", "is_state", s_is_state, none⟩
abbrev s_is_box : Stmt := top 9
def m_is_box : MD := ⟨fun K => He.ga K "is_box", "is_box", "is_box", s_is_box, none⟩
abbrev s_is_number : Stmt := top 10
def m_is_number : MD := ⟨fun K => He.ga K "is_number", "is_number", "is_number", s_is_number, none⟩
abbrev s_need_box : Stmt := top 19
def m_need_box : MD := ⟨fun K => He.ga K "need_box", "need_box", "need_box", s_need_box, none⟩
abbrev s_need_number : Stmt := top 20
def m_need_number : MD := ⟨fun K => He.ga K "need_number", "need_number", "need_number", s_need_number, none⟩
abbrev s_sides_of : Stmt := top 30
def m_sides_of : MD := ⟨fun K => He.ga K "sides_of", "sides_of", "sides_of", s_sides_of, none⟩
abbrev s_integer_in : Stmt := top 31
def m_integer_in : MD := ⟨fun K => He.ga K "integer_in", "integer_in", "integer_in", s_integer_in, none⟩
abbrev s_deed_in : Stmt := top 32
def m_deed_in : MD := ⟨fun K => He.ga K "deed_in", "deed_in", "deed_in", s_deed_in, none⟩
abbrev s_fit_sides : Stmt := top 36
def m_fit_sides : MD := ⟨fun K => He.ga K "fit_sides", "fit_sides", "fit_sides", s_fit_sides, none⟩
abbrev s_need_deeds : Stmt := top 37
def m_need_deeds : MD := ⟨fun K => He.ga K "need_deeds", "need_deeds", "need_deeds", s_need_deeds, none⟩
abbrev s_is_heard : Stmt := top 38
def m_is_heard : MD := ⟨fun K => He.ga K "is_heard", "is_heard", "is_heard", s_is_heard, none⟩
abbrev s_are_boxes : Stmt := top 39
def m_are_boxes : MD := ⟨fun K => He.ga K "are_boxes", "are_boxes", "are_boxes", s_are_boxes, none⟩
abbrev s_rank_of : Stmt := top 40
def m_rank_of : MD := ⟨fun K => He.ga K "rank_of", "rank_of", "rank_of", s_rank_of, none⟩
abbrev s_boxes_text : Stmt := top 43
def m_boxes_text : MD := ⟨fun K => He.ga K "boxes_text", "boxes_text", "boxes_text", s_boxes_text, none⟩
abbrev s_deeds_text : Stmt := top 44
def m_deeds_text : MD := ⟨fun K => He.ga K "deeds_text", "deeds_text", "deeds_text", s_deeds_text, none⟩
abbrev s_word_at : Stmt := top 45
def m_word_at : MD := ⟨fun K => He.ga K "word_at", "word_at", "word_at", s_word_at, none⟩
abbrev s_boxes_in : Stmt := top 46
def m_boxes_in : MD := ⟨fun K => He.ga K "boxes_in", "boxes_in", "boxes_in", s_boxes_in, none⟩
abbrev s_deeds_in : Stmt := top 47
def m_deeds_in : MD := ⟨fun K => He.ga K "deeds_in", "deeds_in", "deeds_in", s_deeds_in, none⟩
abbrev s_row_in : Stmt := top 48
def m_row_in : MD := ⟨fun K => He.ga K "row_in", "row_in", "row_in", s_row_in, none⟩
abbrev s_need_rows : Stmt := top 51
def m_need_rows : MD := ⟨fun K => He.ga K "need_rows", "need_rows", "need_rows", s_need_rows, none⟩
abbrev s_rows_in : Stmt := top 54
def m_rows_in : MD := ⟨fun K => He.ga K "rows_in", "rows_in", "rows_in", s_rows_in, none⟩
abbrev s_law_pen : Stmt := top 59
def m_law_pen : MD := ⟨fun K => He.ga K "_law_pen", "_law_pen", "_law_pen", s_law_pen, none⟩
abbrev s_law_draw : Stmt := top 60
def m_law_draw : MD := ⟨fun K => He.ga K "_law_draw", "_law_draw", "_law_draw", s_law_draw, none⟩
abbrev s_law_pick : Stmt := top 61
def m_law_pick : MD := ⟨fun K => He.ga K "_law_pick", "_law_pick", "_law_pick", s_law_pick, none⟩
abbrev s_law_deed : Stmt := top 62
def m_law_deed : MD := ⟨fun K => He.ga K "_law_deed", "_law_deed", "_law_deed", s_law_deed, none⟩
abbrev s_law_row : Stmt := top 63
def m_law_row : MD := ⟨fun K => He.ga K "_law_row", "_law_row", "_law_row", s_law_row, none⟩
abbrev s_law_text : Stmt := top 64
def m_law_text : MD := ⟨fun K => He.ga K "_law_text", "_law_text", "_law_text", s_law_text, none⟩
abbrev s_law_rows : Stmt := top 65
def m_law_rows : MD := ⟨fun K => He.ga K "_law_rows", "_law_rows", "_law_rows", s_law_rows, none⟩
abbrev s_law_made : Stmt := top 66
def m_law_made : MD := ⟨fun K => He.ga K "_law_made", "_law_made", "_law_made", s_law_made, none⟩
abbrev s_law_heard : Stmt := top 67
def m_law_heard : MD := ⟨fun K => He.ga K "_law_heard", "_law_heard", "_law_heard", s_law_heard, none⟩
abbrev s_law_tells : Stmt := top 68
def m_law_tells : MD := ⟨fun K => He.ga K "_law_tells", "_law_tells", "_law_tells", s_law_tells, none⟩
abbrev s_law_states_right : Stmt := top 69
def m_law_states_right : MD := ⟨fun K => He.ga K "_law_states_right", "_law_states_right", "_law_states_right", s_law_states_right, none⟩
abbrev s_law : Stmt := top 70
def m_law : MD := ⟨fun K => He.ga K "law", "law", "law", s_law, none⟩
abbrev s_NoRow_init : Stmt := mth 16 0
def m_NoRow_init : MD := ⟨fun K => He.ma K (He.ga K "NoRow") "__init__", "__init__", "NoRow.__init__", s_NoRow_init, some "NoRow"⟩
abbrev s_Deed_is_for : Stmt := mth 21 1
def m_Deed_is_for : MD := ⟨fun K => He.ma K (He.ga K "Deed") "is_for", "is_for", "Deed.is_for", s_Deed_is_for, none⟩
abbrev s_BoxDeed_init : Stmt := mth 22 0
def m_BoxDeed_init : MD := ⟨fun K => He.ma K (He.ga K "BoxDeed") "__init__", "__init__", "BoxDeed.__init__", s_BoxDeed_init, none⟩
abbrev s_BoxDeed_str : Stmt := mth 22 2
def m_BoxDeed_str : MD := ⟨fun K => He.ma K (He.ga K "BoxDeed") "__str__", "__str__", "BoxDeed.__str__", s_BoxDeed_str, none⟩
abbrev s_Take_verb : Stmt := mth 23 0
def m_Take_verb : MD := ⟨fun K => He.ma K (He.ga K "Take") "verb", "verb", "Take.verb", s_Take_verb, none⟩
abbrev s_Put_verb : Stmt := mth 24 0
def m_Put_verb : MD := ⟨fun K => He.ma K (He.ga K "Put") "verb", "verb", "Put.verb", s_Put_verb, none⟩
abbrev s_Out_verb : Stmt := mth 25 0
def m_Out_verb : MD := ⟨fun K => He.ma K (He.ga K "Out") "verb", "verb", "Out.verb", s_Out_verb, none⟩
abbrev s_Clear_verb : Stmt := mth 26 0
def m_Clear_verb : MD := ⟨fun K => He.ma K (He.ga K "Clear") "verb", "verb", "Clear.verb", s_Clear_verb, none⟩
abbrev s_Send_init : Stmt := mth 27 0
def m_Send_init : MD := ⟨fun K => He.ma K (He.ga K "Send") "__init__", "__init__", "Send.__init__", s_Send_init, some "Send"⟩
abbrev s_Send_verb : Stmt := mth 27 1
def m_Send_verb : MD := ⟨fun K => He.ma K (He.ga K "Send") "verb", "verb", "Send.verb", s_Send_verb, none⟩
abbrev s_Send_str : Stmt := mth 27 4
def m_Send_str : MD := ⟨fun K => He.ma K (He.ga K "Send") "__str__", "__str__", "Send.__str__", s_Send_str, none⟩
abbrev s_Move_init : Stmt := mth 28 0
def m_Move_init : MD := ⟨fun K => He.ma K (He.ga K "Move") "__init__", "__init__", "Move.__init__", s_Move_init, some "Move"⟩
abbrev s_Move_verb : Stmt := mth 28 1
def m_Move_verb : MD := ⟨fun K => He.ma K (He.ga K "Move") "verb", "verb", "Move.verb", s_Move_verb, none⟩
abbrev s_Move_str : Stmt := mth 28 3
def m_Move_str : MD := ⟨fun K => He.ma K (He.ga K "Move") "__str__", "__str__", "Move.__str__", s_Move_str, none⟩
abbrev s_Answer_init : Stmt := mth 29 0
def m_Answer_init : MD := ⟨fun K => He.ma K (He.ga K "Answer") "__init__", "__init__", "Answer.__init__", s_Answer_init, none⟩
abbrev s_Answer_verb : Stmt := mth 29 1
def m_Answer_verb : MD := ⟨fun K => He.ma K (He.ga K "Answer") "verb", "verb", "Answer.verb", s_Answer_verb, none⟩
abbrev s_Answer_str : Stmt := mth 29 4
def m_Answer_str : MD := ⟨fun K => He.ma K (He.ga K "Answer") "__str__", "__str__", "Answer.__str__", s_Answer_str, none⟩
abbrev s_Row_init : Stmt := mth 42 0
def m_Row_init : MD := ⟨fun K => He.ma K (He.ga K "Row") "__init__", "__init__", "Row.__init__", s_Row_init, none⟩
abbrev s_Row_read : Stmt := mth 42 1
def m_Row_read : MD := ⟨fun K => cmA K (He.ga K "Row") "read", "read", "Row.read", s_Row_read, none⟩
abbrev s_Row_sides : Stmt := mth 42 2
def m_Row_sides : MD := ⟨fun K => He.ma K (He.ga K "Row") "sides", "sides", "Row.sides", s_Row_sides, none⟩
abbrev s_Row_eq : Stmt := mth 42 7
def m_Row_eq : MD := ⟨fun K => He.ma K (He.ga K "Row") "__eq__", "__eq__", "Row.__eq__", s_Row_eq, none⟩
abbrev s_Row_str : Stmt := mth 42 9
def m_Row_str : MD := ⟨fun K => He.ma K (He.ga K "Row") "__str__", "__str__", "Row.__str__", s_Row_str, none⟩
abbrev s_End_init : Stmt := mth 55 1
def m_End_init : MD := ⟨fun K => He.ma K (He.ga K "End") "__init__", "__init__", "End.__init__", s_End_init, none⟩
abbrev s_End_len : Stmt := mth 55 2
def m_End_len : MD := ⟨fun K => He.ma K (He.ga K "End") "__len__", "__len__", "End.__len__", s_End_len, none⟩
abbrev s_End_iter : Stmt := mth 55 3
def m_End_iter : MD := ⟨fun K => He.ma K (He.ga K "End") "__iter__", "__iter__", "End.__iter__", s_End_iter, none⟩
abbrev s_End_getitem : Stmt := mth 55 4
def m_End_getitem : MD := ⟨fun K => He.ma K (He.ga K "End") "__getitem__", "__getitem__", "End.__getitem__", s_End_getitem, none⟩
abbrev s_End_contains : Stmt := mth 55 5
def m_End_contains : MD := ⟨fun K => He.ma K (He.ga K "End") "__contains__", "__contains__", "End.__contains__", s_End_contains, none⟩
abbrev s_End_at_state : Stmt := mth 55 10
def m_End_at_state : MD := ⟨fun K => He.ma K (He.ga K "End") "at_state", "at_state", "End.at_state", s_End_at_state, none⟩
abbrev s_End_eq : Stmt := mth 55 15
def m_End_eq : MD := ⟨fun K => He.ma K (He.ga K "End") "__eq__", "__eq__", "End.__eq__", s_End_eq, none⟩
abbrev s_Sender_init : Stmt := mth 56 1
def m_Sender_init : MD := ⟨fun K => He.ma K (He.ga K "Sender") "__init__", "__init__", "Sender.__init__", s_Sender_init, some "Sender"⟩
abbrev s_Sender_read : Stmt := mth 56 2
def m_Sender_read : MD := ⟨fun K => cmA K (He.ga K "Sender") "read", "read", "Sender.read", s_Sender_read, none⟩
abbrev s_Receiver_init : Stmt := mth 57 1
def m_Receiver_init : MD := ⟨fun K => He.ma K (He.ga K "Receiver") "__init__", "__init__", "Receiver.__init__", s_Receiver_init, some "Receiver"⟩
abbrev s_Receiver_read : Stmt := mth 57 2
def m_Receiver_read : MD := ⟨fun K => cmA K (He.ga K "Receiver") "read", "read", "Receiver.read", s_Receiver_read, none⟩
def fm0 : List MD := [m_is_integer, m_is_within, m_is_state, m_is_box, m_is_number, m_need_box, m_need_number, m_sides_of, m_integer_in, m_deed_in, m_fit_sides, m_need_deeds, m_is_heard, m_are_boxes, m_rank_of, m_boxes_text]
def fm1 : List MD := [m_deeds_text, m_word_at, m_boxes_in, m_deeds_in, m_row_in, m_need_rows, m_rows_in, m_law_pen, m_law_draw, m_law_pick, m_law_deed, m_law_row, m_law_text, m_law_rows, m_law_made, m_law_heard]
def fm2 : List MD := [m_law_tells, m_law_states_right, m_law, m_NoRow_init, m_Deed_is_for, m_BoxDeed_init, m_BoxDeed_str, m_Take_verb, m_Put_verb, m_Out_verb, m_Clear_verb, m_Send_init, m_Send_verb, m_Send_str, m_Move_init, m_Move_verb]
def fm3 : List MD := [m_Move_str, m_Answer_init, m_Answer_verb, m_Answer_str, m_Row_init, m_Row_read, m_Row_sides, m_Row_eq, m_Row_str, m_End_init, m_End_len, m_End_iter, m_End_getitem, m_End_contains, m_End_at_state, m_End_eq]
def fm4 : List MD := [m_Sender_init, m_Sender_read, m_Receiver_init, m_Receiver_read]
def fm : List (List MD) := [fm0, fm1, fm2, fm3, fm4]
def fa0 : List He.Fa := [.glo "is_integer", .glo "is_within", .glo "is_state", .glo "is_box", .glo "is_number", .glo "need_box", .glo "need_number", .glo "sides_of", .glo "integer_in", .glo "deed_in", .glo "fit_sides", .glo "need_deeds", .glo "is_heard", .glo "are_boxes", .glo "rank_of", .glo "boxes_text"]
def fa1 : List He.Fa := [.glo "deeds_text", .glo "word_at", .glo "boxes_in", .glo "deeds_in", .glo "row_in", .glo "need_rows", .glo "rows_in", .glo "_law_pen", .glo "_law_draw", .glo "_law_pick", .glo "_law_deed", .glo "_law_row", .glo "_law_text", .glo "_law_rows", .glo "_law_made", .glo "_law_heard"]
def fa2 : List He.Fa := [.glo "_law_tells", .glo "_law_states_right", .glo "law", .glo "Take", .glo "Put", .glo "Out", .glo "Clear", .glo "Send", .glo "Move", .glo "Answer", .glo "Row", .glo "Sender", .glo "Receiver", .glo "Deed", .glo "End", .glo "LinkError"]
def fa3 : List He.Fa := [.glo "NoRow", .glo "SIDES", .free "len", .free "isinstance", .free "int", .free "bool", .free "str", .free "any", .free "all", .free "tuple", .free "zip", .free "enumerate", .free "range", .free "iter", .free "super", .free "repr"]
def fa4 : List He.Fa := [.free "list", .free "abs", .int "MOST_STATE" 23, .int "MOST_BOX" 2, .int "MOST_NUMBER" 5, .int "MOST_DEEDS" 8, .int "MOST_ROWS" 120, .str "OTHER" "other"]
def fa : List (List He.Fa) := [fa0, fa1, fa2, fa3, fa4]
def fb0 : List (PySem.W.Frag → Bool) := [fun K => decide (PySem.W.plainGet K (He.ga K "Take") Str.empty = true),
  fun K => decide (PySem.W.hasDictIn K (He.ga K "Take") = true),
  fun K => decide (PySem.W.plainOver K (He.ga K "Take") = true),
  fun K => decide (PySem.W.findIn K (.ref (He.ga K "Take")) "__setattr__" = some (some (.builtin "object.__setattr__"))),
  fun K => decide (PySem.W.makesIn K (He.ga K "Take") = true),
  fun K => decide (PySem.W.keepIn K (.ref (He.ga K "Take")) = true),
  fun K => decide (PySem.W.findIn K (.ref (He.ga K "Take")) "__class__" = some (some (.builtin "object.__class__"))),
  fun K => decide (PySem.W.mroIn K (He.ga K "Take") (.type "object") = some true),
  fun K => decide (PySem.W.plainGet K (He.ga K "Put") Str.empty = true),
  fun K => decide (PySem.W.hasDictIn K (He.ga K "Put") = true),
  fun K => decide (PySem.W.plainOver K (He.ga K "Put") = true),
  fun K => decide (PySem.W.findIn K (.ref (He.ga K "Put")) "__setattr__" = some (some (.builtin "object.__setattr__"))),
  fun K => decide (PySem.W.makesIn K (He.ga K "Put") = true),
  fun K => decide (PySem.W.keepIn K (.ref (He.ga K "Put")) = true),
  fun K => decide (PySem.W.findIn K (.ref (He.ga K "Put")) "__class__" = some (some (.builtin "object.__class__"))),
  fun K => decide (PySem.W.mroIn K (He.ga K "Put") (.type "object") = some true)]
def fb1 : List (PySem.W.Frag → Bool) := [fun K => decide (PySem.W.plainGet K (He.ga K "Out") Str.empty = true),
  fun K => decide (PySem.W.hasDictIn K (He.ga K "Out") = true),
  fun K => decide (PySem.W.plainOver K (He.ga K "Out") = true),
  fun K => decide (PySem.W.findIn K (.ref (He.ga K "Out")) "__setattr__" = some (some (.builtin "object.__setattr__"))),
  fun K => decide (PySem.W.makesIn K (He.ga K "Out") = true),
  fun K => decide (PySem.W.keepIn K (.ref (He.ga K "Out")) = true),
  fun K => decide (PySem.W.findIn K (.ref (He.ga K "Out")) "__class__" = some (some (.builtin "object.__class__"))),
  fun K => decide (PySem.W.mroIn K (He.ga K "Out") (.type "object") = some true),
  fun K => decide (PySem.W.plainGet K (He.ga K "Clear") Str.empty = true),
  fun K => decide (PySem.W.hasDictIn K (He.ga K "Clear") = true),
  fun K => decide (PySem.W.plainOver K (He.ga K "Clear") = true),
  fun K => decide (PySem.W.findIn K (.ref (He.ga K "Clear")) "__setattr__" = some (some (.builtin "object.__setattr__"))),
  fun K => decide (PySem.W.makesIn K (He.ga K "Clear") = true),
  fun K => decide (PySem.W.keepIn K (.ref (He.ga K "Clear")) = true),
  fun K => decide (PySem.W.findIn K (.ref (He.ga K "Clear")) "__class__" = some (some (.builtin "object.__class__"))),
  fun K => decide (PySem.W.mroIn K (He.ga K "Clear") (.type "object") = some true)]
def fb2 : List (PySem.W.Frag → Bool) := [fun K => decide (PySem.W.plainGet K (He.ga K "Send") Str.empty = true),
  fun K => decide (PySem.W.hasDictIn K (He.ga K "Send") = true),
  fun K => decide (PySem.W.plainOver K (He.ga K "Send") = true),
  fun K => decide (PySem.W.findIn K (.ref (He.ga K "Send")) "__setattr__" = some (some (.builtin "object.__setattr__"))),
  fun K => decide (PySem.W.makesIn K (He.ga K "Send") = true),
  fun K => decide (PySem.W.keepIn K (.ref (He.ga K "Send")) = true),
  fun K => decide (PySem.W.findIn K (.ref (He.ga K "Send")) "__class__" = some (some (.builtin "object.__class__"))),
  fun K => decide (PySem.W.mroIn K (He.ga K "Send") (.type "object") = some true),
  fun K => decide (PySem.W.plainGet K (He.ga K "Move") Str.empty = true),
  fun K => decide (PySem.W.hasDictIn K (He.ga K "Move") = true),
  fun K => decide (PySem.W.plainOver K (He.ga K "Move") = true),
  fun K => decide (PySem.W.findIn K (.ref (He.ga K "Move")) "__setattr__" = some (some (.builtin "object.__setattr__"))),
  fun K => decide (PySem.W.makesIn K (He.ga K "Move") = true),
  fun K => decide (PySem.W.keepIn K (.ref (He.ga K "Move")) = true),
  fun K => decide (PySem.W.findIn K (.ref (He.ga K "Move")) "__class__" = some (some (.builtin "object.__class__"))),
  fun K => decide (PySem.W.mroIn K (He.ga K "Move") (.type "object") = some true)]
def fb3 : List (PySem.W.Frag → Bool) := [fun K => decide (PySem.W.plainGet K (He.ga K "Answer") Str.empty = true),
  fun K => decide (PySem.W.hasDictIn K (He.ga K "Answer") = true),
  fun K => decide (PySem.W.plainOver K (He.ga K "Answer") = true),
  fun K => decide (PySem.W.findIn K (.ref (He.ga K "Answer")) "__setattr__" = some (some (.builtin "object.__setattr__"))),
  fun K => decide (PySem.W.makesIn K (He.ga K "Answer") = true),
  fun K => decide (PySem.W.keepIn K (.ref (He.ga K "Answer")) = true),
  fun K => decide (PySem.W.findIn K (.ref (He.ga K "Answer")) "__class__" = some (some (.builtin "object.__class__"))),
  fun K => decide (PySem.W.mroIn K (He.ga K "Answer") (.type "object") = some true),
  fun K => decide (PySem.W.plainGet K (He.ga K "Row") Str.empty = true),
  fun K => decide (PySem.W.hasDictIn K (He.ga K "Row") = true),
  fun K => decide (PySem.W.plainOver K (He.ga K "Row") = true),
  fun K => decide (PySem.W.findIn K (.ref (He.ga K "Row")) "__setattr__" = some (some (.builtin "object.__setattr__"))),
  fun K => decide (PySem.W.makesIn K (He.ga K "Row") = true),
  fun K => decide (PySem.W.keepIn K (.ref (He.ga K "Row")) = true),
  fun K => decide (PySem.W.findIn K (.ref (He.ga K "Row")) "__class__" = some (some (.builtin "object.__class__"))),
  fun K => decide (PySem.W.mroIn K (He.ga K "Row") (.type "object") = some true)]
def fb4 : List (PySem.W.Frag → Bool) := [fun K => decide (PySem.W.plainGet K (He.ga K "Sender") Str.empty = true),
  fun K => decide (PySem.W.hasDictIn K (He.ga K "Sender") = true),
  fun K => decide (PySem.W.plainOver K (He.ga K "Sender") = true),
  fun K => decide (PySem.W.findIn K (.ref (He.ga K "Sender")) "__setattr__" = some (some (.builtin "object.__setattr__"))),
  fun K => decide (PySem.W.makesIn K (He.ga K "Sender") = true),
  fun K => decide (PySem.W.keepIn K (.ref (He.ga K "Sender")) = true),
  fun K => decide (PySem.W.findIn K (.ref (He.ga K "Sender")) "__class__" = some (some (.builtin "object.__class__"))),
  fun K => decide (PySem.W.mroIn K (He.ga K "Sender") (.type "object") = some true),
  fun K => decide (PySem.W.plainGet K (He.ga K "Receiver") Str.empty = true),
  fun K => decide (PySem.W.hasDictIn K (He.ga K "Receiver") = true),
  fun K => decide (PySem.W.plainOver K (He.ga K "Receiver") = true),
  fun K => decide (PySem.W.findIn K (.ref (He.ga K "Receiver")) "__setattr__" = some (some (.builtin "object.__setattr__"))),
  fun K => decide (PySem.W.makesIn K (He.ga K "Receiver") = true),
  fun K => decide (PySem.W.keepIn K (.ref (He.ga K "Receiver")) = true),
  fun K => decide (PySem.W.findIn K (.ref (He.ga K "Receiver")) "__class__" = some (some (.builtin "object.__class__"))),
  fun K => decide (PySem.W.mroIn K (He.ga K "Receiver") (.type "object") = some true)]
def fb5 : List (PySem.W.Frag → Bool) := [fun K => decide (PySem.W.specialIn K (.builtin "object.__class__") "__get__" = some (some (.builtin "getset_descriptor.__get__"))),
  fun K => decide (PySem.W.takesIn K (.builtin "object.__class__") = some true),
  fun K => decide (PySem.W.nsIn K cStatics "thirdparty.any" = some none),
  fun K => decide (PySem.W.findIn K (.ref (He.ga K "Take")) "__init__" = some (some (.ref (He.ma K (He.ga K "BoxDeed") "__init__")))),
  fun K => decide (PySem.W.findIn K (.ref (He.ga K "Put")) "__init__" = some (some (.ref (He.ma K (He.ga K "BoxDeed") "__init__")))),
  fun K => decide (PySem.W.findIn K (.ref (He.ga K "Out")) "__init__" = some (some (.ref (He.ma K (He.ga K "BoxDeed") "__init__")))),
  fun K => decide (PySem.W.findIn K (.ref (He.ga K "Clear")) "__init__" = some (some (.ref (He.ma K (He.ga K "BoxDeed") "__init__")))),
  fun K => decide (PySem.W.findIn K (.ref (He.ga K "Send")) "__init__" = some (some (.ref (He.ma K (He.ga K "Send") "__init__")))),
  fun K => decide (PySem.W.findIn K (.ref (He.ga K "Move")) "__init__" = some (some (.ref (He.ma K (He.ga K "Move") "__init__")))),
  fun K => decide (PySem.W.findIn K (.ref (He.ga K "Answer")) "__init__" = some (some (.ref (He.ma K (He.ga K "Answer") "__init__")))),
  fun K => decide (PySem.W.findIn K (.ref (He.ga K "Row")) "__init__" = some (some (.ref (He.ma K (He.ga K "Row") "__init__")))),
  fun K => decide (PySem.W.findIn K (.ref (He.ga K "Sender")) "__init__" = some (some (.ref (He.ma K (He.ga K "Sender") "__init__")))),
  fun K => decide (PySem.W.findIn K (.ref (He.ga K "Receiver")) "__init__" = some (some (.ref (He.ma K (He.ga K "Receiver") "__init__")))),
  fun K => decide (PySem.W.findIn K (.ref (He.ga K "NoRow")) "__init__" = some (some (.ref (He.ma K (He.ga K "NoRow") "__init__")))),
  fun K => decide (PySem.W.findIn K (.ref (He.ga K "Take")) "__str__" = some (some (.ref (He.ma K (He.ga K "BoxDeed") "__str__")))),
  fun K => decide (PySem.W.findIn K (.ref (He.ga K "Put")) "__str__" = some (some (.ref (He.ma K (He.ga K "BoxDeed") "__str__"))))]
def fb6 : List (PySem.W.Frag → Bool) := [fun K => decide (PySem.W.findIn K (.ref (He.ga K "Out")) "__str__" = some (some (.ref (He.ma K (He.ga K "BoxDeed") "__str__")))),
  fun K => decide (PySem.W.findIn K (.ref (He.ga K "Clear")) "__str__" = some (some (.ref (He.ma K (He.ga K "BoxDeed") "__str__")))),
  fun K => decide (PySem.W.findIn K (.ref (He.ga K "Send")) "__str__" = some (some (.ref (He.ma K (He.ga K "Send") "__str__")))),
  fun K => decide (PySem.W.findIn K (.ref (He.ga K "Move")) "__str__" = some (some (.ref (He.ma K (He.ga K "Move") "__str__")))),
  fun K => decide (PySem.W.findIn K (.ref (He.ga K "Answer")) "__str__" = some (some (.ref (He.ma K (He.ga K "Answer") "__str__")))),
  fun K => decide (PySem.W.findIn K (.ref (He.ga K "Row")) "__str__" = some (some (.ref (He.ma K (He.ga K "Row") "__str__")))),
  fun K => decide (PySem.W.findIn K (.ref (He.ga K "Take")) "verb" = some (some (.ref (He.ma K (He.ga K "Take") "verb")))),
  fun K => decide (PySem.W.findIn K (.ref (He.ga K "Take")) "is_for" = some (some (.ref (He.ma K (He.ga K "Deed") "is_for")))),
  fun K => decide (PySem.W.findIn K (.ref (He.ga K "Put")) "verb" = some (some (.ref (He.ma K (He.ga K "Put") "verb")))),
  fun K => decide (PySem.W.findIn K (.ref (He.ga K "Put")) "is_for" = some (some (.ref (He.ma K (He.ga K "Deed") "is_for")))),
  fun K => decide (PySem.W.findIn K (.ref (He.ga K "Out")) "verb" = some (some (.ref (He.ma K (He.ga K "Out") "verb")))),
  fun K => decide (PySem.W.findIn K (.ref (He.ga K "Out")) "is_for" = some (some (.ref (He.ma K (He.ga K "Deed") "is_for")))),
  fun K => decide (PySem.W.findIn K (.ref (He.ga K "Clear")) "verb" = some (some (.ref (He.ma K (He.ga K "Clear") "verb")))),
  fun K => decide (PySem.W.findIn K (.ref (He.ga K "Clear")) "is_for" = some (some (.ref (He.ma K (He.ga K "Deed") "is_for")))),
  fun K => decide (PySem.W.findIn K (.ref (He.ga K "Send")) "verb" = some (some (.ref (He.ma K (He.ga K "Send") "verb")))),
  fun K => decide (PySem.W.findIn K (.ref (He.ga K "Send")) "is_for" = some (some (.ref (He.ma K (He.ga K "Deed") "is_for"))))]
def fb7 : List (PySem.W.Frag → Bool) := [fun K => decide (PySem.W.findIn K (.ref (He.ga K "Move")) "verb" = some (some (.ref (He.ma K (He.ga K "Move") "verb")))),
  fun K => decide (PySem.W.findIn K (.ref (He.ga K "Move")) "is_for" = some (some (.ref (He.ma K (He.ga K "Deed") "is_for")))),
  fun K => decide (PySem.W.findIn K (.ref (He.ga K "Answer")) "verb" = some (some (.ref (He.ma K (He.ga K "Answer") "verb")))),
  fun K => decide (PySem.W.findIn K (.ref (He.ga K "Answer")) "is_for" = some (some (.ref (He.ma K (He.ga K "Deed") "is_for")))),
  fun K => decide (PySem.W.findIn K (.ref (He.ga K "Row")) "__eq__" = some (some (.ref (He.ma K (He.ga K "Row") "__eq__")))),
  fun K => decide (PySem.W.findIn K (.ref (He.ga K "Row")) "sides" = some (some (.ref (He.ma K (He.ga K "Row") "sides")))),
  fun K => decide (PySem.W.findIn K (.ref (He.ga K "Sender")) "__len__" = some (some (.ref (He.ma K (He.ga K "End") "__len__")))),
  fun K => decide (PySem.W.findIn K (.ref (He.ga K "Sender")) "__iter__" = some (some (.ref (He.ma K (He.ga K "End") "__iter__")))),
  fun K => decide (PySem.W.findIn K (.ref (He.ga K "Sender")) "__getitem__" = some (some (.ref (He.ma K (He.ga K "End") "__getitem__")))),
  fun K => decide (PySem.W.findIn K (.ref (He.ga K "Sender")) "__contains__" = some (some (.ref (He.ma K (He.ga K "End") "__contains__")))),
  fun K => decide (PySem.W.findIn K (.ref (He.ga K "Sender")) "at_state" = some (some (.ref (He.ma K (He.ga K "End") "at_state")))),
  fun K => decide (PySem.W.findIn K (.ref (He.ga K "Sender")) "__eq__" = some (some (.ref (He.ma K (He.ga K "End") "__eq__")))),
  fun K => decide (PySem.W.findIn K (.ref (He.ga K "Sender")) "__bool__" = some none),
  fun K => decide (PySem.W.findIn K (.ref (He.ga K "Sender")) "__ne__" = some (some (.builtin "object.__ne__"))),
  fun K => decide (PySem.W.findIn K (.ref (He.ga K "Receiver")) "__len__" = some (some (.ref (He.ma K (He.ga K "End") "__len__")))),
  fun K => decide (PySem.W.findIn K (.ref (He.ga K "Receiver")) "__iter__" = some (some (.ref (He.ma K (He.ga K "End") "__iter__"))))]
def fb8 : List (PySem.W.Frag → Bool) := [fun K => decide (PySem.W.findIn K (.ref (He.ga K "Receiver")) "__getitem__" = some (some (.ref (He.ma K (He.ga K "End") "__getitem__")))),
  fun K => decide (PySem.W.findIn K (.ref (He.ga K "Receiver")) "__contains__" = some (some (.ref (He.ma K (He.ga K "End") "__contains__")))),
  fun K => decide (PySem.W.findIn K (.ref (He.ga K "Receiver")) "at_state" = some (some (.ref (He.ma K (He.ga K "End") "at_state")))),
  fun K => decide (PySem.W.findIn K (.ref (He.ga K "Receiver")) "__eq__" = some (some (.ref (He.ma K (He.ga K "End") "__eq__")))),
  fun K => decide (PySem.W.findIn K (.ref (He.ga K "Receiver")) "__bool__" = some none),
  fun K => decide (PySem.W.findIn K (.ref (He.ga K "Receiver")) "__ne__" = some (some (.builtin "object.__ne__"))),
  fun K => decide (PySem.W.findIn K (.ref (He.ga K "Take")) "box" = some none),
  fun K => decide (PySem.W.findIn K (.ref (He.ga K "Take")) "number" = some none),
  fun K => decide (PySem.W.findIn K (.ref (He.ga K "Take")) "to" = some none),
  fun K => decide (PySem.W.findIn K (.ref (He.ga K "Put")) "box" = some none),
  fun K => decide (PySem.W.findIn K (.ref (He.ga K "Put")) "number" = some none),
  fun K => decide (PySem.W.findIn K (.ref (He.ga K "Put")) "to" = some none),
  fun K => decide (PySem.W.findIn K (.ref (He.ga K "Out")) "box" = some none),
  fun K => decide (PySem.W.findIn K (.ref (He.ga K "Out")) "number" = some none),
  fun K => decide (PySem.W.findIn K (.ref (He.ga K "Out")) "to" = some none),
  fun K => decide (PySem.W.findIn K (.ref (He.ga K "Clear")) "box" = some none)]
def fb9 : List (PySem.W.Frag → Bool) := [fun K => decide (PySem.W.findIn K (.ref (He.ga K "Clear")) "number" = some none),
  fun K => decide (PySem.W.findIn K (.ref (He.ga K "Clear")) "to" = some none),
  fun K => decide (PySem.W.findIn K (.ref (He.ga K "Send")) "box" = some none),
  fun K => decide (PySem.W.findIn K (.ref (He.ga K "Send")) "number" = some none),
  fun K => decide (PySem.W.findIn K (.ref (He.ga K "Send")) "to" = some none),
  fun K => decide (PySem.W.findIn K (.ref (He.ga K "Move")) "box" = some none),
  fun K => decide (PySem.W.findIn K (.ref (He.ga K "Move")) "number" = some none),
  fun K => decide (PySem.W.findIn K (.ref (He.ga K "Move")) "to" = some none),
  fun K => decide (PySem.W.findIn K (.ref (He.ga K "Answer")) "box" = some none),
  fun K => decide (PySem.W.findIn K (.ref (He.ga K "Answer")) "number" = some none),
  fun K => decide (PySem.W.findIn K (.ref (He.ga K "Answer")) "to" = some none),
  fun K => decide (PySem.W.findIn K (.ref (He.ga K "Row")) "state" = some none),
  fun K => decide (PySem.W.findIn K (.ref (He.ga K "Row")) "deeds" = some none),
  fun K => decide (PySem.W.findIn K (.ref (He.ga K "Row")) "then" = some none),
  fun K => decide (PySem.W.findIn K (.ref (He.ga K "Row")) "hear" = some none),
  fun K => decide (PySem.W.findIn K (.ref (He.ga K "Row")) "empty" = some none)]
def fb10 : List (PySem.W.Frag → Bool) := [fun K => decide (PySem.W.findIn K (.ref (He.ga K "Row")) "full" = some none),
  fun K => decide (PySem.W.findIn K (.ref (He.ga K "Row")) "key" = some none),
  fun K => decide (PySem.W.findIn K (.ref (He.ga K "Sender")) "own_side" = some none),
  fun K => decide (PySem.W.findIn K (.ref (He.ga K "Sender")) "own_rows" = some none),
  fun K => decide (PySem.W.findIn K (.ref (He.ga K "Receiver")) "own_side" = some none),
  fun K => decide (PySem.W.findIn K (.ref (He.ga K "Receiver")) "own_rows" = some none),
  fun K => decide (PySem.W.fnIn K (He.ga K "is_integer") = true),
  fun K => decide (PySem.W.isFn K (.ref (He.ga K "is_integer")) = true),
  fun K => decide (PySem.W.keepIn K (.ref (He.ga K "is_integer")) = true),
  fun K => decide (PySem.W.fnIn K (He.ga K "is_within") = true),
  fun K => decide (PySem.W.isFn K (.ref (He.ga K "is_within")) = true),
  fun K => decide (PySem.W.keepIn K (.ref (He.ga K "is_within")) = true),
  fun K => decide (PySem.W.fnIn K (He.ga K "is_state") = true),
  fun K => decide (PySem.W.isFn K (.ref (He.ga K "is_state")) = true),
  fun K => decide (PySem.W.keepIn K (.ref (He.ga K "is_state")) = true),
  fun K => decide (PySem.W.fnIn K (He.ga K "is_box") = true)]
def fb11 : List (PySem.W.Frag → Bool) := [fun K => decide (PySem.W.isFn K (.ref (He.ga K "is_box")) = true),
  fun K => decide (PySem.W.keepIn K (.ref (He.ga K "is_box")) = true),
  fun K => decide (PySem.W.fnIn K (He.ga K "is_number") = true),
  fun K => decide (PySem.W.isFn K (.ref (He.ga K "is_number")) = true),
  fun K => decide (PySem.W.keepIn K (.ref (He.ga K "is_number")) = true),
  fun K => decide (PySem.W.fnIn K (He.ga K "need_box") = true),
  fun K => decide (PySem.W.isFn K (.ref (He.ga K "need_box")) = true),
  fun K => decide (PySem.W.keepIn K (.ref (He.ga K "need_box")) = true),
  fun K => decide (PySem.W.fnIn K (He.ga K "need_number") = true),
  fun K => decide (PySem.W.isFn K (.ref (He.ga K "need_number")) = true),
  fun K => decide (PySem.W.keepIn K (.ref (He.ga K "need_number")) = true),
  fun K => decide (PySem.W.fnIn K (He.ga K "sides_of") = true),
  fun K => decide (PySem.W.isFn K (.ref (He.ga K "sides_of")) = true),
  fun K => decide (PySem.W.keepIn K (.ref (He.ga K "sides_of")) = true),
  fun K => decide (PySem.W.fnIn K (He.ga K "integer_in") = true),
  fun K => decide (PySem.W.isFn K (.ref (He.ga K "integer_in")) = true)]
def fb12 : List (PySem.W.Frag → Bool) := [fun K => decide (PySem.W.keepIn K (.ref (He.ga K "integer_in")) = true),
  fun K => decide (PySem.W.fnIn K (He.ga K "deed_in") = true),
  fun K => decide (PySem.W.isFn K (.ref (He.ga K "deed_in")) = true),
  fun K => decide (PySem.W.keepIn K (.ref (He.ga K "deed_in")) = true),
  fun K => decide (PySem.W.fnIn K (He.ga K "fit_sides") = true),
  fun K => decide (PySem.W.isFn K (.ref (He.ga K "fit_sides")) = true),
  fun K => decide (PySem.W.keepIn K (.ref (He.ga K "fit_sides")) = true),
  fun K => decide (PySem.W.fnIn K (He.ga K "need_deeds") = true),
  fun K => decide (PySem.W.isFn K (.ref (He.ga K "need_deeds")) = true),
  fun K => decide (PySem.W.keepIn K (.ref (He.ga K "need_deeds")) = true),
  fun K => decide (PySem.W.fnIn K (He.ga K "is_heard") = true),
  fun K => decide (PySem.W.isFn K (.ref (He.ga K "is_heard")) = true),
  fun K => decide (PySem.W.keepIn K (.ref (He.ga K "is_heard")) = true),
  fun K => decide (PySem.W.fnIn K (He.ga K "are_boxes") = true),
  fun K => decide (PySem.W.isFn K (.ref (He.ga K "are_boxes")) = true),
  fun K => decide (PySem.W.keepIn K (.ref (He.ga K "are_boxes")) = true)]
def fb13 : List (PySem.W.Frag → Bool) := [fun K => decide (PySem.W.fnIn K (He.ga K "rank_of") = true),
  fun K => decide (PySem.W.isFn K (.ref (He.ga K "rank_of")) = true),
  fun K => decide (PySem.W.keepIn K (.ref (He.ga K "rank_of")) = true),
  fun K => decide (PySem.W.fnIn K (He.ga K "boxes_text") = true),
  fun K => decide (PySem.W.isFn K (.ref (He.ga K "boxes_text")) = true),
  fun K => decide (PySem.W.keepIn K (.ref (He.ga K "boxes_text")) = true),
  fun K => decide (PySem.W.fnIn K (He.ga K "deeds_text") = true),
  fun K => decide (PySem.W.isFn K (.ref (He.ga K "deeds_text")) = true),
  fun K => decide (PySem.W.keepIn K (.ref (He.ga K "deeds_text")) = true),
  fun K => decide (PySem.W.fnIn K (He.ga K "word_at") = true),
  fun K => decide (PySem.W.isFn K (.ref (He.ga K "word_at")) = true),
  fun K => decide (PySem.W.keepIn K (.ref (He.ga K "word_at")) = true),
  fun K => decide (PySem.W.fnIn K (He.ga K "boxes_in") = true),
  fun K => decide (PySem.W.isFn K (.ref (He.ga K "boxes_in")) = true),
  fun K => decide (PySem.W.keepIn K (.ref (He.ga K "boxes_in")) = true),
  fun K => decide (PySem.W.fnIn K (He.ga K "deeds_in") = true)]
def fb14 : List (PySem.W.Frag → Bool) := [fun K => decide (PySem.W.isFn K (.ref (He.ga K "deeds_in")) = true),
  fun K => decide (PySem.W.keepIn K (.ref (He.ga K "deeds_in")) = true),
  fun K => decide (PySem.W.fnIn K (He.ga K "row_in") = true),
  fun K => decide (PySem.W.isFn K (.ref (He.ga K "row_in")) = true),
  fun K => decide (PySem.W.keepIn K (.ref (He.ga K "row_in")) = true),
  fun K => decide (PySem.W.fnIn K (He.ga K "need_rows") = true),
  fun K => decide (PySem.W.isFn K (.ref (He.ga K "need_rows")) = true),
  fun K => decide (PySem.W.keepIn K (.ref (He.ga K "need_rows")) = true),
  fun K => decide (PySem.W.fnIn K (He.ga K "rows_in") = true),
  fun K => decide (PySem.W.isFn K (.ref (He.ga K "rows_in")) = true),
  fun K => decide (PySem.W.keepIn K (.ref (He.ga K "rows_in")) = true),
  fun K => decide (PySem.W.fnIn K (He.ga K "_law_pen") = true),
  fun K => decide (PySem.W.isFn K (.ref (He.ga K "_law_pen")) = true),
  fun K => decide (PySem.W.keepIn K (.ref (He.ga K "_law_pen")) = true),
  fun K => decide (PySem.W.fnIn K (He.ga K "_law_draw") = true),
  fun K => decide (PySem.W.isFn K (.ref (He.ga K "_law_draw")) = true)]
def fb15 : List (PySem.W.Frag → Bool) := [fun K => decide (PySem.W.keepIn K (.ref (He.ga K "_law_draw")) = true),
  fun K => decide (PySem.W.fnIn K (He.ga K "_law_pick") = true),
  fun K => decide (PySem.W.isFn K (.ref (He.ga K "_law_pick")) = true),
  fun K => decide (PySem.W.keepIn K (.ref (He.ga K "_law_pick")) = true),
  fun K => decide (PySem.W.fnIn K (He.ga K "_law_deed") = true),
  fun K => decide (PySem.W.isFn K (.ref (He.ga K "_law_deed")) = true),
  fun K => decide (PySem.W.keepIn K (.ref (He.ga K "_law_deed")) = true),
  fun K => decide (PySem.W.fnIn K (He.ga K "_law_row") = true),
  fun K => decide (PySem.W.isFn K (.ref (He.ga K "_law_row")) = true),
  fun K => decide (PySem.W.keepIn K (.ref (He.ga K "_law_row")) = true),
  fun K => decide (PySem.W.fnIn K (He.ga K "_law_text") = true),
  fun K => decide (PySem.W.isFn K (.ref (He.ga K "_law_text")) = true),
  fun K => decide (PySem.W.keepIn K (.ref (He.ga K "_law_text")) = true),
  fun K => decide (PySem.W.fnIn K (He.ga K "_law_rows") = true),
  fun K => decide (PySem.W.isFn K (.ref (He.ga K "_law_rows")) = true),
  fun K => decide (PySem.W.keepIn K (.ref (He.ga K "_law_rows")) = true)]
def fb16 : List (PySem.W.Frag → Bool) := [fun K => decide (PySem.W.fnIn K (He.ga K "_law_made") = true),
  fun K => decide (PySem.W.isFn K (.ref (He.ga K "_law_made")) = true),
  fun K => decide (PySem.W.keepIn K (.ref (He.ga K "_law_made")) = true),
  fun K => decide (PySem.W.fnIn K (He.ga K "_law_heard") = true),
  fun K => decide (PySem.W.isFn K (.ref (He.ga K "_law_heard")) = true),
  fun K => decide (PySem.W.keepIn K (.ref (He.ga K "_law_heard")) = true),
  fun K => decide (PySem.W.fnIn K (He.ga K "_law_tells") = true),
  fun K => decide (PySem.W.isFn K (.ref (He.ga K "_law_tells")) = true),
  fun K => decide (PySem.W.keepIn K (.ref (He.ga K "_law_tells")) = true),
  fun K => decide (PySem.W.fnIn K (He.ga K "_law_states_right") = true),
  fun K => decide (PySem.W.isFn K (.ref (He.ga K "_law_states_right")) = true),
  fun K => decide (PySem.W.keepIn K (.ref (He.ga K "_law_states_right")) = true),
  fun K => decide (PySem.W.fnIn K (He.ga K "law") = true),
  fun K => decide (PySem.W.isFn K (.ref (He.ga K "law")) = true),
  fun K => decide (PySem.W.keepIn K (.ref (He.ga K "law")) = true),
  fun K => decide (PySem.W.fnIn K (He.ma K (He.ga K "NoRow") "__init__") = true)]
def fb17 : List (PySem.W.Frag → Bool) := [fun K => decide (PySem.W.isFn K (.ref (He.ma K (He.ga K "NoRow") "__init__")) = true),
  fun K => decide (PySem.W.keepIn K (.ref (He.ma K (He.ga K "NoRow") "__init__")) = true),
  fun K => decide (PySem.W.fnIn K (He.ma K (He.ga K "Deed") "is_for") = true),
  fun K => decide (PySem.W.isFn K (.ref (He.ma K (He.ga K "Deed") "is_for")) = true),
  fun K => decide (PySem.W.keepIn K (.ref (He.ma K (He.ga K "Deed") "is_for")) = true),
  fun K => decide (PySem.W.fnIn K (He.ma K (He.ga K "BoxDeed") "__init__") = true),
  fun K => decide (PySem.W.isFn K (.ref (He.ma K (He.ga K "BoxDeed") "__init__")) = true),
  fun K => decide (PySem.W.keepIn K (.ref (He.ma K (He.ga K "BoxDeed") "__init__")) = true),
  fun K => decide (PySem.W.fnIn K (He.ma K (He.ga K "BoxDeed") "__str__") = true),
  fun K => decide (PySem.W.isFn K (.ref (He.ma K (He.ga K "BoxDeed") "__str__")) = true),
  fun K => decide (PySem.W.keepIn K (.ref (He.ma K (He.ga K "BoxDeed") "__str__")) = true),
  fun K => decide (PySem.W.fnIn K (He.ma K (He.ga K "Take") "verb") = true),
  fun K => decide (PySem.W.isFn K (.ref (He.ma K (He.ga K "Take") "verb")) = true),
  fun K => decide (PySem.W.keepIn K (.ref (He.ma K (He.ga K "Take") "verb")) = true),
  fun K => decide (PySem.W.fnIn K (He.ma K (He.ga K "Put") "verb") = true),
  fun K => decide (PySem.W.isFn K (.ref (He.ma K (He.ga K "Put") "verb")) = true)]
def fb18 : List (PySem.W.Frag → Bool) := [fun K => decide (PySem.W.keepIn K (.ref (He.ma K (He.ga K "Put") "verb")) = true),
  fun K => decide (PySem.W.fnIn K (He.ma K (He.ga K "Out") "verb") = true),
  fun K => decide (PySem.W.isFn K (.ref (He.ma K (He.ga K "Out") "verb")) = true),
  fun K => decide (PySem.W.keepIn K (.ref (He.ma K (He.ga K "Out") "verb")) = true),
  fun K => decide (PySem.W.fnIn K (He.ma K (He.ga K "Clear") "verb") = true),
  fun K => decide (PySem.W.isFn K (.ref (He.ma K (He.ga K "Clear") "verb")) = true),
  fun K => decide (PySem.W.keepIn K (.ref (He.ma K (He.ga K "Clear") "verb")) = true),
  fun K => decide (PySem.W.fnIn K (He.ma K (He.ga K "Send") "__init__") = true),
  fun K => decide (PySem.W.isFn K (.ref (He.ma K (He.ga K "Send") "__init__")) = true),
  fun K => decide (PySem.W.keepIn K (.ref (He.ma K (He.ga K "Send") "__init__")) = true),
  fun K => decide (PySem.W.fnIn K (He.ma K (He.ga K "Send") "verb") = true),
  fun K => decide (PySem.W.isFn K (.ref (He.ma K (He.ga K "Send") "verb")) = true),
  fun K => decide (PySem.W.keepIn K (.ref (He.ma K (He.ga K "Send") "verb")) = true),
  fun K => decide (PySem.W.fnIn K (He.ma K (He.ga K "Send") "__str__") = true),
  fun K => decide (PySem.W.isFn K (.ref (He.ma K (He.ga K "Send") "__str__")) = true),
  fun K => decide (PySem.W.keepIn K (.ref (He.ma K (He.ga K "Send") "__str__")) = true)]
def fb19 : List (PySem.W.Frag → Bool) := [fun K => decide (PySem.W.fnIn K (He.ma K (He.ga K "Move") "__init__") = true),
  fun K => decide (PySem.W.isFn K (.ref (He.ma K (He.ga K "Move") "__init__")) = true),
  fun K => decide (PySem.W.keepIn K (.ref (He.ma K (He.ga K "Move") "__init__")) = true),
  fun K => decide (PySem.W.fnIn K (He.ma K (He.ga K "Move") "verb") = true),
  fun K => decide (PySem.W.isFn K (.ref (He.ma K (He.ga K "Move") "verb")) = true),
  fun K => decide (PySem.W.keepIn K (.ref (He.ma K (He.ga K "Move") "verb")) = true),
  fun K => decide (PySem.W.fnIn K (He.ma K (He.ga K "Move") "__str__") = true),
  fun K => decide (PySem.W.isFn K (.ref (He.ma K (He.ga K "Move") "__str__")) = true),
  fun K => decide (PySem.W.keepIn K (.ref (He.ma K (He.ga K "Move") "__str__")) = true),
  fun K => decide (PySem.W.fnIn K (He.ma K (He.ga K "Answer") "__init__") = true),
  fun K => decide (PySem.W.isFn K (.ref (He.ma K (He.ga K "Answer") "__init__")) = true),
  fun K => decide (PySem.W.keepIn K (.ref (He.ma K (He.ga K "Answer") "__init__")) = true),
  fun K => decide (PySem.W.fnIn K (He.ma K (He.ga K "Answer") "verb") = true),
  fun K => decide (PySem.W.isFn K (.ref (He.ma K (He.ga K "Answer") "verb")) = true),
  fun K => decide (PySem.W.keepIn K (.ref (He.ma K (He.ga K "Answer") "verb")) = true),
  fun K => decide (PySem.W.fnIn K (He.ma K (He.ga K "Answer") "__str__") = true)]
def fb20 : List (PySem.W.Frag → Bool) := [fun K => decide (PySem.W.isFn K (.ref (He.ma K (He.ga K "Answer") "__str__")) = true),
  fun K => decide (PySem.W.keepIn K (.ref (He.ma K (He.ga K "Answer") "__str__")) = true),
  fun K => decide (PySem.W.fnIn K (He.ma K (He.ga K "Row") "__init__") = true),
  fun K => decide (PySem.W.isFn K (.ref (He.ma K (He.ga K "Row") "__init__")) = true),
  fun K => decide (PySem.W.keepIn K (.ref (He.ma K (He.ga K "Row") "__init__")) = true),
  fun K => decide (PySem.W.fnIn K (cmA K (He.ga K "Row") "read") = true),
  fun K => decide (PySem.W.isFn K (.ref (cmA K (He.ga K "Row") "read")) = true),
  fun K => decide (PySem.W.keepIn K (.ref (cmA K (He.ga K "Row") "read")) = true),
  fun K => decide (PySem.W.fnIn K (He.ma K (He.ga K "Row") "sides") = true),
  fun K => decide (PySem.W.isFn K (.ref (He.ma K (He.ga K "Row") "sides")) = true),
  fun K => decide (PySem.W.keepIn K (.ref (He.ma K (He.ga K "Row") "sides")) = true),
  fun K => decide (PySem.W.fnIn K (He.ma K (He.ga K "Row") "__eq__") = true),
  fun K => decide (PySem.W.isFn K (.ref (He.ma K (He.ga K "Row") "__eq__")) = true),
  fun K => decide (PySem.W.keepIn K (.ref (He.ma K (He.ga K "Row") "__eq__")) = true),
  fun K => decide (PySem.W.fnIn K (He.ma K (He.ga K "Row") "__str__") = true),
  fun K => decide (PySem.W.isFn K (.ref (He.ma K (He.ga K "Row") "__str__")) = true)]
def fb21 : List (PySem.W.Frag → Bool) := [fun K => decide (PySem.W.keepIn K (.ref (He.ma K (He.ga K "Row") "__str__")) = true),
  fun K => decide (PySem.W.fnIn K (He.ma K (He.ga K "End") "__init__") = true),
  fun K => decide (PySem.W.isFn K (.ref (He.ma K (He.ga K "End") "__init__")) = true),
  fun K => decide (PySem.W.keepIn K (.ref (He.ma K (He.ga K "End") "__init__")) = true),
  fun K => decide (PySem.W.fnIn K (He.ma K (He.ga K "End") "__len__") = true),
  fun K => decide (PySem.W.isFn K (.ref (He.ma K (He.ga K "End") "__len__")) = true),
  fun K => decide (PySem.W.keepIn K (.ref (He.ma K (He.ga K "End") "__len__")) = true),
  fun K => decide (PySem.W.fnIn K (He.ma K (He.ga K "End") "__iter__") = true),
  fun K => decide (PySem.W.isFn K (.ref (He.ma K (He.ga K "End") "__iter__")) = true),
  fun K => decide (PySem.W.keepIn K (.ref (He.ma K (He.ga K "End") "__iter__")) = true),
  fun K => decide (PySem.W.fnIn K (He.ma K (He.ga K "End") "__getitem__") = true),
  fun K => decide (PySem.W.isFn K (.ref (He.ma K (He.ga K "End") "__getitem__")) = true),
  fun K => decide (PySem.W.keepIn K (.ref (He.ma K (He.ga K "End") "__getitem__")) = true),
  fun K => decide (PySem.W.fnIn K (He.ma K (He.ga K "End") "__contains__") = true),
  fun K => decide (PySem.W.isFn K (.ref (He.ma K (He.ga K "End") "__contains__")) = true),
  fun K => decide (PySem.W.keepIn K (.ref (He.ma K (He.ga K "End") "__contains__")) = true)]
def fb22 : List (PySem.W.Frag → Bool) := [fun K => decide (PySem.W.fnIn K (He.ma K (He.ga K "End") "at_state") = true),
  fun K => decide (PySem.W.isFn K (.ref (He.ma K (He.ga K "End") "at_state")) = true),
  fun K => decide (PySem.W.keepIn K (.ref (He.ma K (He.ga K "End") "at_state")) = true),
  fun K => decide (PySem.W.fnIn K (He.ma K (He.ga K "End") "__eq__") = true),
  fun K => decide (PySem.W.isFn K (.ref (He.ma K (He.ga K "End") "__eq__")) = true),
  fun K => decide (PySem.W.keepIn K (.ref (He.ma K (He.ga K "End") "__eq__")) = true),
  fun K => decide (PySem.W.fnIn K (He.ma K (He.ga K "Sender") "__init__") = true),
  fun K => decide (PySem.W.isFn K (.ref (He.ma K (He.ga K "Sender") "__init__")) = true),
  fun K => decide (PySem.W.keepIn K (.ref (He.ma K (He.ga K "Sender") "__init__")) = true),
  fun K => decide (PySem.W.fnIn K (cmA K (He.ga K "Sender") "read") = true),
  fun K => decide (PySem.W.isFn K (.ref (cmA K (He.ga K "Sender") "read")) = true),
  fun K => decide (PySem.W.keepIn K (.ref (cmA K (He.ga K "Sender") "read")) = true),
  fun K => decide (PySem.W.fnIn K (He.ma K (He.ga K "Receiver") "__init__") = true),
  fun K => decide (PySem.W.isFn K (.ref (He.ma K (He.ga K "Receiver") "__init__")) = true),
  fun K => decide (PySem.W.keepIn K (.ref (He.ma K (He.ga K "Receiver") "__init__")) = true),
  fun K => decide (PySem.W.fnIn K (cmA K (He.ga K "Receiver") "read") = true)]
def fb23 : List (PySem.W.Frag → Bool) := [fun K => decide (PySem.W.isFn K (.ref (cmA K (He.ga K "Receiver") "read")) = true),
  fun K => decide (PySem.W.keepIn K (.ref (cmA K (He.ga K "Receiver") "read")) = true),
  fun K => decide (PySem.W.kitOne K (.ref (He.ga K "Take")) (.ref (He.ga K "Deed")) = some true),
  fun K => decide (PySem.W.kitOne K (.ref (He.ga K "Take")) (.ref (He.ga K "Take")) = some true),
  fun K => decide (PySem.W.kitOne K (.ref (He.ga K "Take")) (.ref (He.ga K "Put")) = some false),
  fun K => decide (PySem.W.kitOne K (.ref (He.ga K "Put")) (.ref (He.ga K "Deed")) = some true),
  fun K => decide (PySem.W.kitOne K (.ref (He.ga K "Put")) (.ref (He.ga K "Take")) = some false),
  fun K => decide (PySem.W.kitOne K (.ref (He.ga K "Put")) (.ref (He.ga K "Put")) = some true),
  fun K => decide (PySem.W.kitOne K (.ref (He.ga K "Out")) (.ref (He.ga K "Deed")) = some true),
  fun K => decide (PySem.W.kitOne K (.ref (He.ga K "Out")) (.ref (He.ga K "Take")) = some false),
  fun K => decide (PySem.W.kitOne K (.ref (He.ga K "Out")) (.ref (He.ga K "Put")) = some false),
  fun K => decide (PySem.W.kitOne K (.ref (He.ga K "Clear")) (.ref (He.ga K "Deed")) = some true),
  fun K => decide (PySem.W.kitOne K (.ref (He.ga K "Clear")) (.ref (He.ga K "Take")) = some false),
  fun K => decide (PySem.W.kitOne K (.ref (He.ga K "Clear")) (.ref (He.ga K "Put")) = some false),
  fun K => decide (PySem.W.kitOne K (.ref (He.ga K "Send")) (.ref (He.ga K "Deed")) = some true),
  fun K => decide (PySem.W.kitOne K (.ref (He.ga K "Send")) (.ref (He.ga K "Take")) = some false)]
def fb24 : List (PySem.W.Frag → Bool) := [fun K => decide (PySem.W.kitOne K (.ref (He.ga K "Send")) (.ref (He.ga K "Put")) = some false),
  fun K => decide (PySem.W.kitOne K (.ref (He.ga K "Move")) (.ref (He.ga K "Deed")) = some true),
  fun K => decide (PySem.W.kitOne K (.ref (He.ga K "Move")) (.ref (He.ga K "Take")) = some false),
  fun K => decide (PySem.W.kitOne K (.ref (He.ga K "Move")) (.ref (He.ga K "Put")) = some false),
  fun K => decide (PySem.W.kitOne K (.ref (He.ga K "Answer")) (.ref (He.ga K "Deed")) = some true),
  fun K => decide (PySem.W.kitOne K (.ref (He.ga K "Answer")) (.ref (He.ga K "Take")) = some false),
  fun K => decide (PySem.W.kitOne K (.ref (He.ga K "Answer")) (.ref (He.ga K "Put")) = some false),
  fun K => decide (PySem.W.kitOne K (.type "NoneType") (.ref (He.ga K "Row")) = some false),
  fun K => decide (PySem.W.kitOne K (.type "NoneType") (.ref (He.ga K "End")) = some false),
  fun K => decide (PySem.W.kitOne K (.type "int") (.ref (He.ga K "Row")) = some false),
  fun K => decide (PySem.W.kitOne K (.type "int") (.ref (He.ga K "End")) = some false),
  fun K => decide (PySem.W.kitOne K (.type "bool") (.ref (He.ga K "Row")) = some false),
  fun K => decide (PySem.W.kitOne K (.type "bool") (.ref (He.ga K "End")) = some false),
  fun K => decide (PySem.W.kitOne K (.type "str") (.ref (He.ga K "Row")) = some false),
  fun K => decide (PySem.W.kitOne K (.type "str") (.ref (He.ga K "End")) = some false),
  fun K => decide (PySem.W.kitOne K (.type "list") (.ref (He.ga K "Row")) = some false)]
def fb25 : List (PySem.W.Frag → Bool) := [fun K => decide (PySem.W.kitOne K (.type "list") (.ref (He.ga K "End")) = some false),
  fun K => decide (PySem.W.kitOne K (.type "dict") (.ref (He.ga K "Row")) = some false),
  fun K => decide (PySem.W.kitOne K (.type "dict") (.ref (He.ga K "End")) = some false),
  fun K => decide (PySem.W.kitOne K (.type "tuple") (.ref (He.ga K "Row")) = some false),
  fun K => decide (PySem.W.kitOne K (.type "tuple") (.ref (He.ga K "End")) = some false),
  fun K => decide (PySem.W.kitOne K (.ref (He.ga K "Row")) (.ref (He.ga K "Row")) = some true),
  fun K => decide (PySem.W.kitOne K (.ref (He.ga K "Sender")) (.ref (He.ga K "Row")) = some false),
  fun K => decide (PySem.W.kitOne K (.ref (He.ga K "Sender")) (.ref (He.ga K "End")) = some true),
  fun K => decide (PySem.W.notFirst K (He.ga K "Sender") (.type "NoneType") = true),
  fun K => decide (PySem.W.notFirst K (He.ga K "Sender") (.type "int") = true),
  fun K => decide (PySem.W.notFirst K (He.ga K "Sender") (.type "bool") = true),
  fun K => decide (PySem.W.notFirst K (He.ga K "Sender") (.type "str") = true),
  fun K => decide (PySem.W.notFirst K (He.ga K "Sender") (.type "list") = true),
  fun K => decide (PySem.W.notFirst K (He.ga K "Sender") (.type "dict") = true),
  fun K => decide (PySem.W.notFirst K (He.ga K "Sender") (.type "tuple") = true),
  fun K => decide (PySem.W.notFirst K (He.ga K "Sender") (.ref (He.ga K "Sender")) = true)]
def fb26 : List (PySem.W.Frag → Bool) := [fun K => decide (PySem.W.notFirst K (He.ga K "Sender") (.ref (He.ga K "Receiver")) = true),
  fun K => decide (PySem.W.kitOne K (.ref (He.ga K "Receiver")) (.ref (He.ga K "Row")) = some false),
  fun K => decide (PySem.W.kitOne K (.ref (He.ga K "Receiver")) (.ref (He.ga K "End")) = some true),
  fun K => decide (PySem.W.notFirst K (He.ga K "Receiver") (.type "NoneType") = true),
  fun K => decide (PySem.W.notFirst K (He.ga K "Receiver") (.type "int") = true),
  fun K => decide (PySem.W.notFirst K (He.ga K "Receiver") (.type "bool") = true),
  fun K => decide (PySem.W.notFirst K (He.ga K "Receiver") (.type "str") = true),
  fun K => decide (PySem.W.notFirst K (He.ga K "Receiver") (.type "list") = true),
  fun K => decide (PySem.W.notFirst K (He.ga K "Receiver") (.type "dict") = true),
  fun K => decide (PySem.W.notFirst K (He.ga K "Receiver") (.type "tuple") = true),
  fun K => decide (PySem.W.notFirst K (He.ga K "Receiver") (.ref (He.ga K "Sender")) = true),
  fun K => decide (PySem.W.notFirst K (He.ga K "Receiver") (.ref (He.ga K "Receiver")) = true),
  fun K => decide (PySem.W.notFirst K (He.ga K "Row") (.ref (He.ga K "Row")) = true),
  fun K => decide (PySem.W.mroIn K (He.ga K "Send") (.ref (He.ga K "Send")) = some true),
  fun K => decide (PySem.W.ks_superIn K (He.ga K "Send") (He.ga K "Send") "__init__" = some (some (.ref (He.ma K (He.ga K "BoxDeed") "__init__")))),
  fun K => decide ((PySem.W.clsIn K (He.ga K "Send")).isSome = true)]
def fb27 : List (PySem.W.Frag → Bool) := [fun K => decide (PySem.W.mroIn K (He.ga K "Move") (.ref (He.ga K "Move")) = some true),
  fun K => decide (PySem.W.ks_superIn K (He.ga K "Move") (He.ga K "Move") "__init__" = some (some (.ref (He.ma K (He.ga K "BoxDeed") "__init__")))),
  fun K => decide ((PySem.W.clsIn K (He.ga K "Move")).isSome = true),
  fun K => decide (PySem.W.mroIn K (He.ga K "Sender") (.ref (He.ga K "Sender")) = some true),
  fun K => decide (PySem.W.ks_superIn K (He.ga K "Sender") (He.ga K "Sender") "__init__" = some (some (.ref (He.ma K (He.ga K "End") "__init__")))),
  fun K => decide ((PySem.W.clsIn K (He.ga K "Sender")).isSome = true),
  fun K => decide (PySem.W.mroIn K (He.ga K "Receiver") (.ref (He.ga K "Receiver")) = some true),
  fun K => decide (PySem.W.ks_superIn K (He.ga K "Receiver") (He.ga K "Receiver") "__init__" = some (some (.ref (He.ma K (He.ga K "End") "__init__")))),
  fun K => decide ((PySem.W.clsIn K (He.ga K "Receiver")).isSome = true),
  fun K => decide (PySem.W.typeIn K (.ref (He.ma K (He.ga K "BoxDeed") "__init__")) = some (.type "function")),
  fun K => decide (PySem.W.typeIn K (.ref (He.ma K (He.ga K "End") "__init__")) = some (.type "function")),
  fun K => decide (PySem.W.mroIn K (He.ga K "NoRow") (.ref (He.ga K "NoRow")) = some true),
  fun K => decide (PySem.W.ks_superIn K (He.ga K "NoRow") (He.ga K "NoRow") "__init__" = some (some (.builtin "ValueError.__init__"))),
  fun K => decide (PySem.W.subIn K (.ref (He.ga K "NoRow")) (.type "ValueError") = some true),
  fun K => decide (PySem.W.subIn K (.ref (He.ga K "NoRow")) (.type "BaseException") = some true),
  fun K => decide (PySem.W.typeIn K (.ref (He.ga K "NoRow")) = some (.type "type"))]
def fb28 : List (PySem.W.Frag → Bool) := [fun K => decide (PySem.W.keepIn K (.ref (He.ga K "NoRow")) = true),
  fun K => decide (PySem.W.findIn K (.ref (He.ga K "NoRow")) "__setattr__" = some (some (.builtin "object.__setattr__"))),
  fun K => decide (PySem.W.typeIn K (.ref (He.ma K (He.ga K "NoRow") "__init__")) = some (.type "function")),
  fun K => decide ((PySem.W.clsIn K (He.ga K "NoRow")).isSome = true),
  fun K => decide (PySem.W.findIn K (.ref (He.ga K "NoRow")) "at" = some none),
  fun K => decide (PySem.W.findIn K (.ref (He.ga K "NoRow")) "__getattribute__" = some (some (.builtin "BaseException.__getattribute__"))),
  fun K => decide (PySem.W.findIn K (.ref (He.ga K "NoRow")) "__getattr__" = some none),
  fun K => decide (PySem.W.hasDictIn K (He.ga K "NoRow") = true),
  fun K => decide (PySem.W.findIn K (.ref (He.ga K "NoRow")) "__class__" = some (some (.builtin "object.__class__"))),
  fun K => decide (PySem.W.mroIn K (He.ga K "NoRow") (.type "object") = some true),
  fun K => decide (PySem.W.exmOne K (.ref (He.ga K "NoRow")) (.ref (He.ga K "LinkError")) = some true),
  fun K => decide (PySem.W.kitOne K (.ref (He.ga K "NoRow")) (.ref (He.ga K "NoRow")) = some true),
  fun K => decide (PySem.W.readsIn K (He.ga K "Row") (.type "type") = true),
  fun K => decide (PySem.W.specialIn K (.ref (He.ga K "Row")) "__getattribute__" = some (some (.builtin "type.__getattribute__"))),
  fun K => decide (PySem.W.readsIn K (He.ga K "Sender") (.type "type") = true),
  fun K => decide (PySem.W.specialIn K (.ref (He.ga K "Sender")) "__getattribute__" = some (some (.builtin "type.__getattribute__")))]
def fb29 : List (PySem.W.Frag → Bool) := [fun K => decide (PySem.W.readsIn K (He.ga K "Receiver") (.type "type") = true),
  fun K => decide (PySem.W.specialIn K (.ref (He.ga K "Receiver")) "__getattribute__" = some (some (.builtin "type.__getattribute__"))),
  fun K => He.tupB K "SIDES" [.str "sender", .str "receiver"],
  fun K => excB K (He.ga K "NoRow"),
  fun K => cfB K (He.ga K "Row") "read",
  fun K => cfB K (He.ga K "Sender") "read",
  fun K => cfB K (He.ga K "Receiver") "read",
  fun K => cmB K (He.ga K "Row") "read",
  fun K => cmB K (He.ga K "Sender") "read",
  fun K => cmB K (He.ga K "Receiver") "read",
  fun K => fileB K (He.ma K (He.ga K "Send") "__init__"),
  fun K => fileB K (He.ma K (He.ga K "Move") "__init__"),
  fun K => fileB K (He.ma K (He.ga K "Sender") "__init__"),
  fun K => fileB K (He.ma K (He.ga K "Receiver") "__init__"),
  fun K => fileB K (He.ma K (He.ga K "NoRow") "__init__")]
def fb : List (List (PySem.W.Frag → Bool)) := [fb0, fb1, fb2, fb3, fb4, fb5, fb6, fb7, fb8, fb9, fb10, fb11, fb12, fb13, fb14, fb15, fb16, fb17, fb18, fb19, fb20, fb21, fb22, fb23, fb24, fb25, fb26, fb27, fb28, fb29]
abbrev lawD : He.Defn := ("law", none)
def adrs : List Addr := List.range 947
abbrev AlM : Type := Bool × List (List FnM)
def obsM (g : Addr → Option Obj) (K : PySem.W.Frag) : AlM := ((fa.all fun l => l.all fun f => f.ok K) && ((fb.all fun l => l.all fun f => f K) && ((fm.all fun l => l.all fun d => d.ok K) && He.tabsB g [lawD] K)), fm.map fun l => l.map fun d => mdW K d)
def valM : AlM := (true, fm.map fun l => l.map MD.val)
/-- what the end leans on -/
structure SaysM (h : Heap) (K : PySem.W.Frag) : Prop where
  fa : (fa.all fun l => l.all fun f => f.ok K) = true
  fb : (fb.all fun l => l.all fun f => f K) = true
  fo : (fm.all fun l => l.all fun d => d.ok K) = true
  fm : (fm.map fun l => l.map fun d => mdW K d) = fm.map fun l => l.map MD.val
  hd : PySem.W.codeHdIn K (He.cT K lawD).1 (He.cT K lawD).2 = true
  out : K.lookup (He.cT K lawD).2 = none
  empty : h.get? (He.cT K lawD).2 = some { cls := .none, data := .fields #[] }
theorem saysM_of {h : Heap} (e : obsM h.get? (He.frT h.get? adrs) = valM) : SaysM h (He.frT h.get? adrs) := by
  have e1 := congrArg (fun z : AlM => z.1) e
  have e2 := congrArg (fun z : AlM => z.2) e
  obtain ⟨a1, a2⟩ := He.ba (show _ = true from e1)
  obtain ⟨a3, a4⟩ := He.ba a2
  obtain ⟨a5, a6⟩ := He.ba a4
  obtain ⟨h3, h4⟩ := He.ba (List.all_eq_true.mp a6 lawD List.mem_cons_self)
  have key : ∃ o, h.get? (He.cT (He.frT h.get? adrs) lawD).2 = some o ∧ He.emptyTab o = true := by
    cases q : h.get? (He.cT (He.frT h.get? adrs) lawD).2 with
    | none =>
      rw [q] at h4
      cases h4
    | some o =>
      rw [q] at h4
      exact ⟨o, rfl, h4⟩
  obtain ⟨o, q, z⟩ := key
  exact ⟨a1, a3, a5, e2, h3, He.frT_none q z, by rw [q, He.emptyTab_eq z]⟩
def hk : PySem.W.Hook where
  α := AlM
  obs := fun s => obsM s.heap.get? (He.frT s.heap.get? adrs)
  val := fun _ => valM
  says := fun _ h => ∃ K : PySem.W.Frag, K.In h ∧ SaysM h K
  of := fun _ _ e => ⟨_, He.frT_in, saysM_of e⟩
  keeps := fun _ _ _ ⟨K, hK, c⟩ k => ⟨K, PySem.W.Frag.In.keeps hK k, ⟨c.fa, c.fb, c.fo, c.fm, c.hd, c.out, k _ _ c.empty⟩⟩
def ob (s : PySem.W.SharedT) : AlM := obsM (HandSHeadRun.getT s) (He.frT (HandSHeadRun.getT s) adrs)
theorem ob_eq (s : PySem.W.SharedT) : ob s = hk.obs s.abs := by
  unfold ob
  rw [show HandSHeadRun.getT s = s.abs.heap.get? from funext (HandSHeadRun.getT_eq s)]
  rfl
def nm0 : List PySem.Str := ["_wall", "__name__", "MOST_STATE", "MOST_BOX", "MOST_NUMBER", "SIDES", "is_integer", "is_within", "is_state", "is_box", "is_number", "LinkError", "BadDeed", "BadRow", "BadText", "NoRow"]
def nm1 : List PySem.Str := ["TooMany", "need_box", "need_number", "Deed", "BoxDeed", "Take", "Put", "Out", "Clear", "Send", "Move", "Answer", "sides_of", "integer_in", "deed_in", "MOST_DEEDS"]
def nm2 : List PySem.Str := ["OTHER", "fit_sides", "need_deeds", "is_heard", "are_boxes", "rank_of", "ascending", "Row", "boxes_text", "deeds_text", "word_at", "boxes_in", "deeds_in", "row_in", "MOST_ROWS", "need_rows"]
def nm3 : List PySem.Str := ["made", "rows_text", "rows_in", "End", "Sender", "Receiver", "_law_pen", "_law_draw", "_law_pick", "_law_deed", "_law_row", "_law_text", "_law_rows", "_law_made", "_law_heard", "_law_tells"]
def nm4 : List PySem.Str := ["_law_states_right"]
abbrev names : List PySem.Str := nm0 ++ nm1 ++ nm2 ++ nm3 ++ nm4
/-- what the walks lean on -/
structure TX (K : PySem.W.Frag) (mg : Str → Option Value) (base : Heap) : Prop where
  kin : K.In base
  ns : base.Ns mainGlobals mg
  fa : (fa.all fun l => l.all fun f => f.ok K) = true
  fb : (fb.all fun l => l.all fun f => f K) = true
  fo : (fm.all fun l => l.all fun d => d.ok K) = true
  fm : (fm.map fun l => l.map fun d => mdW K d) = fm.map fun l => l.map MD.val
namespace TX
variable {K : PySem.W.Frag} {mg : Str → Option Value} {base : Heap}
theorem a (T : TX K mg base) (l : List He.Fa) (k j : Nat) {f : He.Fa} (h1 : Mp.fa[k]? = some l := by rfl) (h : l[j]? = some f := by rfl) : f.ok K = true := List.all_eq_true.mp (List.all_eq_true.mp T.fa l (List.mem_of_getElem? h1)) f (List.mem_of_getElem? h)
theorem b (T : TX K mg base) (l : List (PySem.W.Frag → Bool)) (k j : Nat) {f : PySem.W.Frag → Bool} (h1 : Mp.fb[k]? = some l := by rfl) (h : l[j]? = some f := by rfl) : f K = true := List.all_eq_true.mp (List.all_eq_true.mp T.fb l (List.mem_of_getElem? h1)) f (List.mem_of_getElem? h)
theorem d (T : TX K mg base) (l : List MD) (k j : Nat) {m : MD} (h1 : Mp.fm[k]? = some l := by rfl) (h : l[j]? = some m := by rfl) : m.ok K = true ∧ mdW K m = m.val := by
  refine ⟨List.all_eq_true.mp (List.all_eq_true.mp T.fo l (List.mem_of_getElem? h1)) m (List.mem_of_getElem? h), ?_⟩
  have e1 : (Mp.fm.map fun l => l.map fun d => mdW K d)[k]? = (Mp.fm.map fun l => l.map MD.val)[k]? := by rw [T.fm]
  rw [List.getElem?_map, List.getElem?_map, h1] at e1
  have e2 : (l.map fun d => mdW K d)[j]? = (l.map MD.val)[j]? := congrArg (fun z : List FnM => z[j]?) (Option.some.inj e1)
  rw [List.getElem?_map, List.getElem?_map, h] at e2
  exact Option.some.inj e2
theorem g_is_integer (T : TX K mg base) : mg "is_integer" = some (.ref (He.ga K "is_integer")) := He.glo_ok T.kin T.ns (T.a fa0 0 0 (f := .glo "is_integer"))
theorem g_is_within (T : TX K mg base) : mg "is_within" = some (.ref (He.ga K "is_within")) := He.glo_ok T.kin T.ns (T.a fa0 0 1 (f := .glo "is_within"))
theorem g_is_state (T : TX K mg base) : mg "is_state" = some (.ref (He.ga K "is_state")) := He.glo_ok T.kin T.ns (T.a fa0 0 2 (f := .glo "is_state"))
theorem g_is_box (T : TX K mg base) : mg "is_box" = some (.ref (He.ga K "is_box")) := He.glo_ok T.kin T.ns (T.a fa0 0 3 (f := .glo "is_box"))
theorem g_is_number (T : TX K mg base) : mg "is_number" = some (.ref (He.ga K "is_number")) := He.glo_ok T.kin T.ns (T.a fa0 0 4 (f := .glo "is_number"))
theorem g_need_box (T : TX K mg base) : mg "need_box" = some (.ref (He.ga K "need_box")) := He.glo_ok T.kin T.ns (T.a fa0 0 5 (f := .glo "need_box"))
theorem g_need_number (T : TX K mg base) : mg "need_number" = some (.ref (He.ga K "need_number")) := He.glo_ok T.kin T.ns (T.a fa0 0 6 (f := .glo "need_number"))
theorem g_sides_of (T : TX K mg base) : mg "sides_of" = some (.ref (He.ga K "sides_of")) := He.glo_ok T.kin T.ns (T.a fa0 0 7 (f := .glo "sides_of"))
theorem g_integer_in (T : TX K mg base) : mg "integer_in" = some (.ref (He.ga K "integer_in")) := He.glo_ok T.kin T.ns (T.a fa0 0 8 (f := .glo "integer_in"))
theorem g_deed_in (T : TX K mg base) : mg "deed_in" = some (.ref (He.ga K "deed_in")) := He.glo_ok T.kin T.ns (T.a fa0 0 9 (f := .glo "deed_in"))
theorem g_fit_sides (T : TX K mg base) : mg "fit_sides" = some (.ref (He.ga K "fit_sides")) := He.glo_ok T.kin T.ns (T.a fa0 0 10 (f := .glo "fit_sides"))
theorem g_need_deeds (T : TX K mg base) : mg "need_deeds" = some (.ref (He.ga K "need_deeds")) := He.glo_ok T.kin T.ns (T.a fa0 0 11 (f := .glo "need_deeds"))
theorem g_is_heard (T : TX K mg base) : mg "is_heard" = some (.ref (He.ga K "is_heard")) := He.glo_ok T.kin T.ns (T.a fa0 0 12 (f := .glo "is_heard"))
theorem g_are_boxes (T : TX K mg base) : mg "are_boxes" = some (.ref (He.ga K "are_boxes")) := He.glo_ok T.kin T.ns (T.a fa0 0 13 (f := .glo "are_boxes"))
theorem g_rank_of (T : TX K mg base) : mg "rank_of" = some (.ref (He.ga K "rank_of")) := He.glo_ok T.kin T.ns (T.a fa0 0 14 (f := .glo "rank_of"))
theorem g_boxes_text (T : TX K mg base) : mg "boxes_text" = some (.ref (He.ga K "boxes_text")) := He.glo_ok T.kin T.ns (T.a fa0 0 15 (f := .glo "boxes_text"))
theorem g_deeds_text (T : TX K mg base) : mg "deeds_text" = some (.ref (He.ga K "deeds_text")) := He.glo_ok T.kin T.ns (T.a fa1 1 0 (f := .glo "deeds_text"))
theorem g_word_at (T : TX K mg base) : mg "word_at" = some (.ref (He.ga K "word_at")) := He.glo_ok T.kin T.ns (T.a fa1 1 1 (f := .glo "word_at"))
theorem g_boxes_in (T : TX K mg base) : mg "boxes_in" = some (.ref (He.ga K "boxes_in")) := He.glo_ok T.kin T.ns (T.a fa1 1 2 (f := .glo "boxes_in"))
theorem g_deeds_in (T : TX K mg base) : mg "deeds_in" = some (.ref (He.ga K "deeds_in")) := He.glo_ok T.kin T.ns (T.a fa1 1 3 (f := .glo "deeds_in"))
theorem g_row_in (T : TX K mg base) : mg "row_in" = some (.ref (He.ga K "row_in")) := He.glo_ok T.kin T.ns (T.a fa1 1 4 (f := .glo "row_in"))
theorem g_need_rows (T : TX K mg base) : mg "need_rows" = some (.ref (He.ga K "need_rows")) := He.glo_ok T.kin T.ns (T.a fa1 1 5 (f := .glo "need_rows"))
theorem g_rows_in (T : TX K mg base) : mg "rows_in" = some (.ref (He.ga K "rows_in")) := He.glo_ok T.kin T.ns (T.a fa1 1 6 (f := .glo "rows_in"))
theorem g_law_pen (T : TX K mg base) : mg "_law_pen" = some (.ref (He.ga K "_law_pen")) := He.glo_ok T.kin T.ns (T.a fa1 1 7 (f := .glo "_law_pen"))
theorem g_law_draw (T : TX K mg base) : mg "_law_draw" = some (.ref (He.ga K "_law_draw")) := He.glo_ok T.kin T.ns (T.a fa1 1 8 (f := .glo "_law_draw"))
theorem g_law_pick (T : TX K mg base) : mg "_law_pick" = some (.ref (He.ga K "_law_pick")) := He.glo_ok T.kin T.ns (T.a fa1 1 9 (f := .glo "_law_pick"))
theorem g_law_deed (T : TX K mg base) : mg "_law_deed" = some (.ref (He.ga K "_law_deed")) := He.glo_ok T.kin T.ns (T.a fa1 1 10 (f := .glo "_law_deed"))
theorem g_law_row (T : TX K mg base) : mg "_law_row" = some (.ref (He.ga K "_law_row")) := He.glo_ok T.kin T.ns (T.a fa1 1 11 (f := .glo "_law_row"))
theorem g_law_text (T : TX K mg base) : mg "_law_text" = some (.ref (He.ga K "_law_text")) := He.glo_ok T.kin T.ns (T.a fa1 1 12 (f := .glo "_law_text"))
theorem g_law_rows (T : TX K mg base) : mg "_law_rows" = some (.ref (He.ga K "_law_rows")) := He.glo_ok T.kin T.ns (T.a fa1 1 13 (f := .glo "_law_rows"))
theorem g_law_made (T : TX K mg base) : mg "_law_made" = some (.ref (He.ga K "_law_made")) := He.glo_ok T.kin T.ns (T.a fa1 1 14 (f := .glo "_law_made"))
theorem g_law_heard (T : TX K mg base) : mg "_law_heard" = some (.ref (He.ga K "_law_heard")) := He.glo_ok T.kin T.ns (T.a fa1 1 15 (f := .glo "_law_heard"))
theorem g_law_tells (T : TX K mg base) : mg "_law_tells" = some (.ref (He.ga K "_law_tells")) := He.glo_ok T.kin T.ns (T.a fa2 2 0 (f := .glo "_law_tells"))
theorem g_law_states_right (T : TX K mg base) : mg "_law_states_right" = some (.ref (He.ga K "_law_states_right")) := He.glo_ok T.kin T.ns (T.a fa2 2 1 (f := .glo "_law_states_right"))
theorem g_law (T : TX K mg base) : mg "law" = some (.ref (He.ga K "law")) := He.glo_ok T.kin T.ns (T.a fa2 2 2 (f := .glo "law"))
theorem g_Take (T : TX K mg base) : mg "Take" = some (.ref (He.ga K "Take")) := He.glo_ok T.kin T.ns (T.a fa2 2 3 (f := .glo "Take"))
theorem g_Put (T : TX K mg base) : mg "Put" = some (.ref (He.ga K "Put")) := He.glo_ok T.kin T.ns (T.a fa2 2 4 (f := .glo "Put"))
theorem g_Out (T : TX K mg base) : mg "Out" = some (.ref (He.ga K "Out")) := He.glo_ok T.kin T.ns (T.a fa2 2 5 (f := .glo "Out"))
theorem g_Clear (T : TX K mg base) : mg "Clear" = some (.ref (He.ga K "Clear")) := He.glo_ok T.kin T.ns (T.a fa2 2 6 (f := .glo "Clear"))
theorem g_Send (T : TX K mg base) : mg "Send" = some (.ref (He.ga K "Send")) := He.glo_ok T.kin T.ns (T.a fa2 2 7 (f := .glo "Send"))
theorem g_Move (T : TX K mg base) : mg "Move" = some (.ref (He.ga K "Move")) := He.glo_ok T.kin T.ns (T.a fa2 2 8 (f := .glo "Move"))
theorem g_Answer (T : TX K mg base) : mg "Answer" = some (.ref (He.ga K "Answer")) := He.glo_ok T.kin T.ns (T.a fa2 2 9 (f := .glo "Answer"))
theorem g_Row (T : TX K mg base) : mg "Row" = some (.ref (He.ga K "Row")) := He.glo_ok T.kin T.ns (T.a fa2 2 10 (f := .glo "Row"))
theorem g_Sender (T : TX K mg base) : mg "Sender" = some (.ref (He.ga K "Sender")) := He.glo_ok T.kin T.ns (T.a fa2 2 11 (f := .glo "Sender"))
theorem g_Receiver (T : TX K mg base) : mg "Receiver" = some (.ref (He.ga K "Receiver")) := He.glo_ok T.kin T.ns (T.a fa2 2 12 (f := .glo "Receiver"))
theorem g_Deed (T : TX K mg base) : mg "Deed" = some (.ref (He.ga K "Deed")) := He.glo_ok T.kin T.ns (T.a fa2 2 13 (f := .glo "Deed"))
theorem g_End (T : TX K mg base) : mg "End" = some (.ref (He.ga K "End")) := He.glo_ok T.kin T.ns (T.a fa2 2 14 (f := .glo "End"))
theorem g_LinkError (T : TX K mg base) : mg "LinkError" = some (.ref (He.ga K "LinkError")) := He.glo_ok T.kin T.ns (T.a fa2 2 15 (f := .glo "LinkError"))
theorem g_NoRow (T : TX K mg base) : mg "NoRow" = some (.ref (He.ga K "NoRow")) := He.glo_ok T.kin T.ns (T.a fa3 3 0 (f := .glo "NoRow"))
theorem g_SIDES (T : TX K mg base) : mg "SIDES" = some (.ref (He.ga K "SIDES")) := He.glo_ok T.kin T.ns (T.a fa3 3 1 (f := .glo "SIDES"))
theorem f_len (T : TX K mg base) : mg "len" = none := He.free_ok T.kin T.ns (T.a fa3 3 2 (f := .free "len"))
theorem f_isinstance (T : TX K mg base) : mg "isinstance" = none := He.free_ok T.kin T.ns (T.a fa3 3 3 (f := .free "isinstance"))
theorem f_int (T : TX K mg base) : mg "int" = none := He.free_ok T.kin T.ns (T.a fa3 3 4 (f := .free "int"))
theorem f_bool (T : TX K mg base) : mg "bool" = none := He.free_ok T.kin T.ns (T.a fa3 3 5 (f := .free "bool"))
theorem f_str (T : TX K mg base) : mg "str" = none := He.free_ok T.kin T.ns (T.a fa3 3 6 (f := .free "str"))
theorem f_any (T : TX K mg base) : mg "any" = none := He.free_ok T.kin T.ns (T.a fa3 3 7 (f := .free "any"))
theorem f_all (T : TX K mg base) : mg "all" = none := He.free_ok T.kin T.ns (T.a fa3 3 8 (f := .free "all"))
theorem f_tuple (T : TX K mg base) : mg "tuple" = none := He.free_ok T.kin T.ns (T.a fa3 3 9 (f := .free "tuple"))
theorem f_zip (T : TX K mg base) : mg "zip" = none := He.free_ok T.kin T.ns (T.a fa3 3 10 (f := .free "zip"))
theorem f_enumerate (T : TX K mg base) : mg "enumerate" = none := He.free_ok T.kin T.ns (T.a fa3 3 11 (f := .free "enumerate"))
theorem f_range (T : TX K mg base) : mg "range" = none := He.free_ok T.kin T.ns (T.a fa3 3 12 (f := .free "range"))
theorem f_iter (T : TX K mg base) : mg "iter" = none := He.free_ok T.kin T.ns (T.a fa3 3 13 (f := .free "iter"))
theorem f_super (T : TX K mg base) : mg "super" = none := He.free_ok T.kin T.ns (T.a fa3 3 14 (f := .free "super"))
theorem f_repr (T : TX K mg base) : mg "repr" = none := He.free_ok T.kin T.ns (T.a fa3 3 15 (f := .free "repr"))
theorem f_list (T : TX K mg base) : mg "list" = none := He.free_ok T.kin T.ns (T.a fa4 4 0 (f := .free "list"))
theorem f_abs (T : TX K mg base) : mg "abs" = none := He.free_ok T.kin T.ns (T.a fa4 4 1 (f := .free "abs"))
theorem i_MOST_STATE (T : TX K mg base) : ∃ t, mg "MOST_STATE" = some (.int 23 t) := He.int_ok T.kin T.ns (T.a fa4 4 2 (f := .int "MOST_STATE" 23))
theorem i_MOST_BOX (T : TX K mg base) : ∃ t, mg "MOST_BOX" = some (.int 2 t) := He.int_ok T.kin T.ns (T.a fa4 4 3 (f := .int "MOST_BOX" 2))
theorem i_MOST_NUMBER (T : TX K mg base) : ∃ t, mg "MOST_NUMBER" = some (.int 5 t) := He.int_ok T.kin T.ns (T.a fa4 4 4 (f := .int "MOST_NUMBER" 5))
theorem i_MOST_DEEDS (T : TX K mg base) : ∃ t, mg "MOST_DEEDS" = some (.int 8 t) := He.int_ok T.kin T.ns (T.a fa4 4 5 (f := .int "MOST_DEEDS" 8))
theorem i_MOST_ROWS (T : TX K mg base) : ∃ t, mg "MOST_ROWS" = some (.int 120 t) := He.int_ok T.kin T.ns (T.a fa4 4 6 (f := .int "MOST_ROWS" 120))
theorem s_OTHER (T : TX K mg base) : ∃ t, mg "OTHER" = some (.str "other" t) := He.str_ok T.kin T.ns (T.a fa4 4 7 (f := .str "OTHER" "other"))
theorem pg_Take (T : TX K mg base) : PySem.W.plainGet K (He.ga K "Take") Str.empty = true := of_decide_eq_true (T.b fb0 0 0 (f := fun K => decide (PySem.W.plainGet K (He.ga K "Take") Str.empty = true)))
theorem hd_Take (T : TX K mg base) : PySem.W.hasDictIn K (He.ga K "Take") = true := of_decide_eq_true (T.b fb0 0 1 (f := fun K => decide (PySem.W.hasDictIn K (He.ga K "Take") = true)))
theorem po_Take (T : TX K mg base) : PySem.W.plainOver K (He.ga K "Take") = true := of_decide_eq_true (T.b fb0 0 2 (f := fun K => decide (PySem.W.plainOver K (He.ga K "Take") = true)))
theorem sa_Take (T : TX K mg base) : PySem.W.findIn K (.ref (He.ga K "Take")) "__setattr__" = some (some (.builtin "object.__setattr__")) := of_decide_eq_true (T.b fb0 0 3 (f := fun K => decide (PySem.W.findIn K (.ref (He.ga K "Take")) "__setattr__" = some (some (.builtin "object.__setattr__")))))
theorem mk_Take (T : TX K mg base) : PySem.W.makesIn K (He.ga K "Take") = true := of_decide_eq_true (T.b fb0 0 4 (f := fun K => decide (PySem.W.makesIn K (He.ga K "Take") = true)))
theorem kp_Take (T : TX K mg base) : PySem.W.keepIn K (.ref (He.ga K "Take")) = true := of_decide_eq_true (T.b fb0 0 5 (f := fun K => decide (PySem.W.keepIn K (.ref (He.ga K "Take")) = true)))
theorem cl_Take (T : TX K mg base) : PySem.W.findIn K (.ref (He.ga K "Take")) "__class__" = some (some (.builtin "object.__class__")) := of_decide_eq_true (T.b fb0 0 6 (f := fun K => decide (PySem.W.findIn K (.ref (He.ga K "Take")) "__class__" = some (some (.builtin "object.__class__")))))
theorem ob_Take (T : TX K mg base) : PySem.W.mroIn K (He.ga K "Take") (.type "object") = some true := of_decide_eq_true (T.b fb0 0 7 (f := fun K => decide (PySem.W.mroIn K (He.ga K "Take") (.type "object") = some true)))
theorem pg_Put (T : TX K mg base) : PySem.W.plainGet K (He.ga K "Put") Str.empty = true := of_decide_eq_true (T.b fb0 0 8 (f := fun K => decide (PySem.W.plainGet K (He.ga K "Put") Str.empty = true)))
theorem hd_Put (T : TX K mg base) : PySem.W.hasDictIn K (He.ga K "Put") = true := of_decide_eq_true (T.b fb0 0 9 (f := fun K => decide (PySem.W.hasDictIn K (He.ga K "Put") = true)))
theorem po_Put (T : TX K mg base) : PySem.W.plainOver K (He.ga K "Put") = true := of_decide_eq_true (T.b fb0 0 10 (f := fun K => decide (PySem.W.plainOver K (He.ga K "Put") = true)))
theorem sa_Put (T : TX K mg base) : PySem.W.findIn K (.ref (He.ga K "Put")) "__setattr__" = some (some (.builtin "object.__setattr__")) := of_decide_eq_true (T.b fb0 0 11 (f := fun K => decide (PySem.W.findIn K (.ref (He.ga K "Put")) "__setattr__" = some (some (.builtin "object.__setattr__")))))
theorem mk_Put (T : TX K mg base) : PySem.W.makesIn K (He.ga K "Put") = true := of_decide_eq_true (T.b fb0 0 12 (f := fun K => decide (PySem.W.makesIn K (He.ga K "Put") = true)))
theorem kp_Put (T : TX K mg base) : PySem.W.keepIn K (.ref (He.ga K "Put")) = true := of_decide_eq_true (T.b fb0 0 13 (f := fun K => decide (PySem.W.keepIn K (.ref (He.ga K "Put")) = true)))
theorem cl_Put (T : TX K mg base) : PySem.W.findIn K (.ref (He.ga K "Put")) "__class__" = some (some (.builtin "object.__class__")) := of_decide_eq_true (T.b fb0 0 14 (f := fun K => decide (PySem.W.findIn K (.ref (He.ga K "Put")) "__class__" = some (some (.builtin "object.__class__")))))
theorem ob_Put (T : TX K mg base) : PySem.W.mroIn K (He.ga K "Put") (.type "object") = some true := of_decide_eq_true (T.b fb0 0 15 (f := fun K => decide (PySem.W.mroIn K (He.ga K "Put") (.type "object") = some true)))
theorem pg_Out (T : TX K mg base) : PySem.W.plainGet K (He.ga K "Out") Str.empty = true := of_decide_eq_true (T.b fb1 1 0 (f := fun K => decide (PySem.W.plainGet K (He.ga K "Out") Str.empty = true)))
theorem hd_Out (T : TX K mg base) : PySem.W.hasDictIn K (He.ga K "Out") = true := of_decide_eq_true (T.b fb1 1 1 (f := fun K => decide (PySem.W.hasDictIn K (He.ga K "Out") = true)))
theorem po_Out (T : TX K mg base) : PySem.W.plainOver K (He.ga K "Out") = true := of_decide_eq_true (T.b fb1 1 2 (f := fun K => decide (PySem.W.plainOver K (He.ga K "Out") = true)))
theorem sa_Out (T : TX K mg base) : PySem.W.findIn K (.ref (He.ga K "Out")) "__setattr__" = some (some (.builtin "object.__setattr__")) := of_decide_eq_true (T.b fb1 1 3 (f := fun K => decide (PySem.W.findIn K (.ref (He.ga K "Out")) "__setattr__" = some (some (.builtin "object.__setattr__")))))
theorem mk_Out (T : TX K mg base) : PySem.W.makesIn K (He.ga K "Out") = true := of_decide_eq_true (T.b fb1 1 4 (f := fun K => decide (PySem.W.makesIn K (He.ga K "Out") = true)))
theorem kp_Out (T : TX K mg base) : PySem.W.keepIn K (.ref (He.ga K "Out")) = true := of_decide_eq_true (T.b fb1 1 5 (f := fun K => decide (PySem.W.keepIn K (.ref (He.ga K "Out")) = true)))
theorem cl_Out (T : TX K mg base) : PySem.W.findIn K (.ref (He.ga K "Out")) "__class__" = some (some (.builtin "object.__class__")) := of_decide_eq_true (T.b fb1 1 6 (f := fun K => decide (PySem.W.findIn K (.ref (He.ga K "Out")) "__class__" = some (some (.builtin "object.__class__")))))
theorem ob_Out (T : TX K mg base) : PySem.W.mroIn K (He.ga K "Out") (.type "object") = some true := of_decide_eq_true (T.b fb1 1 7 (f := fun K => decide (PySem.W.mroIn K (He.ga K "Out") (.type "object") = some true)))
theorem pg_Clear (T : TX K mg base) : PySem.W.plainGet K (He.ga K "Clear") Str.empty = true := of_decide_eq_true (T.b fb1 1 8 (f := fun K => decide (PySem.W.plainGet K (He.ga K "Clear") Str.empty = true)))
theorem hd_Clear (T : TX K mg base) : PySem.W.hasDictIn K (He.ga K "Clear") = true := of_decide_eq_true (T.b fb1 1 9 (f := fun K => decide (PySem.W.hasDictIn K (He.ga K "Clear") = true)))
theorem po_Clear (T : TX K mg base) : PySem.W.plainOver K (He.ga K "Clear") = true := of_decide_eq_true (T.b fb1 1 10 (f := fun K => decide (PySem.W.plainOver K (He.ga K "Clear") = true)))
theorem sa_Clear (T : TX K mg base) : PySem.W.findIn K (.ref (He.ga K "Clear")) "__setattr__" = some (some (.builtin "object.__setattr__")) := of_decide_eq_true (T.b fb1 1 11 (f := fun K => decide (PySem.W.findIn K (.ref (He.ga K "Clear")) "__setattr__" = some (some (.builtin "object.__setattr__")))))
theorem mk_Clear (T : TX K mg base) : PySem.W.makesIn K (He.ga K "Clear") = true := of_decide_eq_true (T.b fb1 1 12 (f := fun K => decide (PySem.W.makesIn K (He.ga K "Clear") = true)))
theorem kp_Clear (T : TX K mg base) : PySem.W.keepIn K (.ref (He.ga K "Clear")) = true := of_decide_eq_true (T.b fb1 1 13 (f := fun K => decide (PySem.W.keepIn K (.ref (He.ga K "Clear")) = true)))
theorem cl_Clear (T : TX K mg base) : PySem.W.findIn K (.ref (He.ga K "Clear")) "__class__" = some (some (.builtin "object.__class__")) := of_decide_eq_true (T.b fb1 1 14 (f := fun K => decide (PySem.W.findIn K (.ref (He.ga K "Clear")) "__class__" = some (some (.builtin "object.__class__")))))
theorem ob_Clear (T : TX K mg base) : PySem.W.mroIn K (He.ga K "Clear") (.type "object") = some true := of_decide_eq_true (T.b fb1 1 15 (f := fun K => decide (PySem.W.mroIn K (He.ga K "Clear") (.type "object") = some true)))
theorem pg_Send (T : TX K mg base) : PySem.W.plainGet K (He.ga K "Send") Str.empty = true := of_decide_eq_true (T.b fb2 2 0 (f := fun K => decide (PySem.W.plainGet K (He.ga K "Send") Str.empty = true)))
theorem hd_Send (T : TX K mg base) : PySem.W.hasDictIn K (He.ga K "Send") = true := of_decide_eq_true (T.b fb2 2 1 (f := fun K => decide (PySem.W.hasDictIn K (He.ga K "Send") = true)))
theorem po_Send (T : TX K mg base) : PySem.W.plainOver K (He.ga K "Send") = true := of_decide_eq_true (T.b fb2 2 2 (f := fun K => decide (PySem.W.plainOver K (He.ga K "Send") = true)))
theorem sa_Send (T : TX K mg base) : PySem.W.findIn K (.ref (He.ga K "Send")) "__setattr__" = some (some (.builtin "object.__setattr__")) := of_decide_eq_true (T.b fb2 2 3 (f := fun K => decide (PySem.W.findIn K (.ref (He.ga K "Send")) "__setattr__" = some (some (.builtin "object.__setattr__")))))
theorem mk_Send (T : TX K mg base) : PySem.W.makesIn K (He.ga K "Send") = true := of_decide_eq_true (T.b fb2 2 4 (f := fun K => decide (PySem.W.makesIn K (He.ga K "Send") = true)))
theorem kp_Send (T : TX K mg base) : PySem.W.keepIn K (.ref (He.ga K "Send")) = true := of_decide_eq_true (T.b fb2 2 5 (f := fun K => decide (PySem.W.keepIn K (.ref (He.ga K "Send")) = true)))
theorem cl_Send (T : TX K mg base) : PySem.W.findIn K (.ref (He.ga K "Send")) "__class__" = some (some (.builtin "object.__class__")) := of_decide_eq_true (T.b fb2 2 6 (f := fun K => decide (PySem.W.findIn K (.ref (He.ga K "Send")) "__class__" = some (some (.builtin "object.__class__")))))
theorem ob_Send (T : TX K mg base) : PySem.W.mroIn K (He.ga K "Send") (.type "object") = some true := of_decide_eq_true (T.b fb2 2 7 (f := fun K => decide (PySem.W.mroIn K (He.ga K "Send") (.type "object") = some true)))
theorem pg_Move (T : TX K mg base) : PySem.W.plainGet K (He.ga K "Move") Str.empty = true := of_decide_eq_true (T.b fb2 2 8 (f := fun K => decide (PySem.W.plainGet K (He.ga K "Move") Str.empty = true)))
theorem hd_Move (T : TX K mg base) : PySem.W.hasDictIn K (He.ga K "Move") = true := of_decide_eq_true (T.b fb2 2 9 (f := fun K => decide (PySem.W.hasDictIn K (He.ga K "Move") = true)))
theorem po_Move (T : TX K mg base) : PySem.W.plainOver K (He.ga K "Move") = true := of_decide_eq_true (T.b fb2 2 10 (f := fun K => decide (PySem.W.plainOver K (He.ga K "Move") = true)))
theorem sa_Move (T : TX K mg base) : PySem.W.findIn K (.ref (He.ga K "Move")) "__setattr__" = some (some (.builtin "object.__setattr__")) := of_decide_eq_true (T.b fb2 2 11 (f := fun K => decide (PySem.W.findIn K (.ref (He.ga K "Move")) "__setattr__" = some (some (.builtin "object.__setattr__")))))
theorem mk_Move (T : TX K mg base) : PySem.W.makesIn K (He.ga K "Move") = true := of_decide_eq_true (T.b fb2 2 12 (f := fun K => decide (PySem.W.makesIn K (He.ga K "Move") = true)))
theorem kp_Move (T : TX K mg base) : PySem.W.keepIn K (.ref (He.ga K "Move")) = true := of_decide_eq_true (T.b fb2 2 13 (f := fun K => decide (PySem.W.keepIn K (.ref (He.ga K "Move")) = true)))
theorem cl_Move (T : TX K mg base) : PySem.W.findIn K (.ref (He.ga K "Move")) "__class__" = some (some (.builtin "object.__class__")) := of_decide_eq_true (T.b fb2 2 14 (f := fun K => decide (PySem.W.findIn K (.ref (He.ga K "Move")) "__class__" = some (some (.builtin "object.__class__")))))
theorem ob_Move (T : TX K mg base) : PySem.W.mroIn K (He.ga K "Move") (.type "object") = some true := of_decide_eq_true (T.b fb2 2 15 (f := fun K => decide (PySem.W.mroIn K (He.ga K "Move") (.type "object") = some true)))
theorem pg_Answer (T : TX K mg base) : PySem.W.plainGet K (He.ga K "Answer") Str.empty = true := of_decide_eq_true (T.b fb3 3 0 (f := fun K => decide (PySem.W.plainGet K (He.ga K "Answer") Str.empty = true)))
theorem hd_Answer (T : TX K mg base) : PySem.W.hasDictIn K (He.ga K "Answer") = true := of_decide_eq_true (T.b fb3 3 1 (f := fun K => decide (PySem.W.hasDictIn K (He.ga K "Answer") = true)))
theorem po_Answer (T : TX K mg base) : PySem.W.plainOver K (He.ga K "Answer") = true := of_decide_eq_true (T.b fb3 3 2 (f := fun K => decide (PySem.W.plainOver K (He.ga K "Answer") = true)))
theorem sa_Answer (T : TX K mg base) : PySem.W.findIn K (.ref (He.ga K "Answer")) "__setattr__" = some (some (.builtin "object.__setattr__")) := of_decide_eq_true (T.b fb3 3 3 (f := fun K => decide (PySem.W.findIn K (.ref (He.ga K "Answer")) "__setattr__" = some (some (.builtin "object.__setattr__")))))
theorem mk_Answer (T : TX K mg base) : PySem.W.makesIn K (He.ga K "Answer") = true := of_decide_eq_true (T.b fb3 3 4 (f := fun K => decide (PySem.W.makesIn K (He.ga K "Answer") = true)))
theorem kp_Answer (T : TX K mg base) : PySem.W.keepIn K (.ref (He.ga K "Answer")) = true := of_decide_eq_true (T.b fb3 3 5 (f := fun K => decide (PySem.W.keepIn K (.ref (He.ga K "Answer")) = true)))
theorem cl_Answer (T : TX K mg base) : PySem.W.findIn K (.ref (He.ga K "Answer")) "__class__" = some (some (.builtin "object.__class__")) := of_decide_eq_true (T.b fb3 3 6 (f := fun K => decide (PySem.W.findIn K (.ref (He.ga K "Answer")) "__class__" = some (some (.builtin "object.__class__")))))
theorem ob_Answer (T : TX K mg base) : PySem.W.mroIn K (He.ga K "Answer") (.type "object") = some true := of_decide_eq_true (T.b fb3 3 7 (f := fun K => decide (PySem.W.mroIn K (He.ga K "Answer") (.type "object") = some true)))
theorem pg_Row (T : TX K mg base) : PySem.W.plainGet K (He.ga K "Row") Str.empty = true := of_decide_eq_true (T.b fb3 3 8 (f := fun K => decide (PySem.W.plainGet K (He.ga K "Row") Str.empty = true)))
theorem hd_Row (T : TX K mg base) : PySem.W.hasDictIn K (He.ga K "Row") = true := of_decide_eq_true (T.b fb3 3 9 (f := fun K => decide (PySem.W.hasDictIn K (He.ga K "Row") = true)))
theorem po_Row (T : TX K mg base) : PySem.W.plainOver K (He.ga K "Row") = true := of_decide_eq_true (T.b fb3 3 10 (f := fun K => decide (PySem.W.plainOver K (He.ga K "Row") = true)))
theorem sa_Row (T : TX K mg base) : PySem.W.findIn K (.ref (He.ga K "Row")) "__setattr__" = some (some (.builtin "object.__setattr__")) := of_decide_eq_true (T.b fb3 3 11 (f := fun K => decide (PySem.W.findIn K (.ref (He.ga K "Row")) "__setattr__" = some (some (.builtin "object.__setattr__")))))
theorem mk_Row (T : TX K mg base) : PySem.W.makesIn K (He.ga K "Row") = true := of_decide_eq_true (T.b fb3 3 12 (f := fun K => decide (PySem.W.makesIn K (He.ga K "Row") = true)))
theorem kp_Row (T : TX K mg base) : PySem.W.keepIn K (.ref (He.ga K "Row")) = true := of_decide_eq_true (T.b fb3 3 13 (f := fun K => decide (PySem.W.keepIn K (.ref (He.ga K "Row")) = true)))
theorem cl_Row (T : TX K mg base) : PySem.W.findIn K (.ref (He.ga K "Row")) "__class__" = some (some (.builtin "object.__class__")) := of_decide_eq_true (T.b fb3 3 14 (f := fun K => decide (PySem.W.findIn K (.ref (He.ga K "Row")) "__class__" = some (some (.builtin "object.__class__")))))
theorem ob_Row (T : TX K mg base) : PySem.W.mroIn K (He.ga K "Row") (.type "object") = some true := of_decide_eq_true (T.b fb3 3 15 (f := fun K => decide (PySem.W.mroIn K (He.ga K "Row") (.type "object") = some true)))
theorem pg_Sender (T : TX K mg base) : PySem.W.plainGet K (He.ga K "Sender") Str.empty = true := of_decide_eq_true (T.b fb4 4 0 (f := fun K => decide (PySem.W.plainGet K (He.ga K "Sender") Str.empty = true)))
theorem hd_Sender (T : TX K mg base) : PySem.W.hasDictIn K (He.ga K "Sender") = true := of_decide_eq_true (T.b fb4 4 1 (f := fun K => decide (PySem.W.hasDictIn K (He.ga K "Sender") = true)))
theorem po_Sender (T : TX K mg base) : PySem.W.plainOver K (He.ga K "Sender") = true := of_decide_eq_true (T.b fb4 4 2 (f := fun K => decide (PySem.W.plainOver K (He.ga K "Sender") = true)))
theorem sa_Sender (T : TX K mg base) : PySem.W.findIn K (.ref (He.ga K "Sender")) "__setattr__" = some (some (.builtin "object.__setattr__")) := of_decide_eq_true (T.b fb4 4 3 (f := fun K => decide (PySem.W.findIn K (.ref (He.ga K "Sender")) "__setattr__" = some (some (.builtin "object.__setattr__")))))
theorem mk_Sender (T : TX K mg base) : PySem.W.makesIn K (He.ga K "Sender") = true := of_decide_eq_true (T.b fb4 4 4 (f := fun K => decide (PySem.W.makesIn K (He.ga K "Sender") = true)))
theorem kp_Sender (T : TX K mg base) : PySem.W.keepIn K (.ref (He.ga K "Sender")) = true := of_decide_eq_true (T.b fb4 4 5 (f := fun K => decide (PySem.W.keepIn K (.ref (He.ga K "Sender")) = true)))
theorem cl_Sender (T : TX K mg base) : PySem.W.findIn K (.ref (He.ga K "Sender")) "__class__" = some (some (.builtin "object.__class__")) := of_decide_eq_true (T.b fb4 4 6 (f := fun K => decide (PySem.W.findIn K (.ref (He.ga K "Sender")) "__class__" = some (some (.builtin "object.__class__")))))
theorem ob_Sender (T : TX K mg base) : PySem.W.mroIn K (He.ga K "Sender") (.type "object") = some true := of_decide_eq_true (T.b fb4 4 7 (f := fun K => decide (PySem.W.mroIn K (He.ga K "Sender") (.type "object") = some true)))
theorem pg_Receiver (T : TX K mg base) : PySem.W.plainGet K (He.ga K "Receiver") Str.empty = true := of_decide_eq_true (T.b fb4 4 8 (f := fun K => decide (PySem.W.plainGet K (He.ga K "Receiver") Str.empty = true)))
theorem hd_Receiver (T : TX K mg base) : PySem.W.hasDictIn K (He.ga K "Receiver") = true := of_decide_eq_true (T.b fb4 4 9 (f := fun K => decide (PySem.W.hasDictIn K (He.ga K "Receiver") = true)))
theorem po_Receiver (T : TX K mg base) : PySem.W.plainOver K (He.ga K "Receiver") = true := of_decide_eq_true (T.b fb4 4 10 (f := fun K => decide (PySem.W.plainOver K (He.ga K "Receiver") = true)))
theorem sa_Receiver (T : TX K mg base) : PySem.W.findIn K (.ref (He.ga K "Receiver")) "__setattr__" = some (some (.builtin "object.__setattr__")) := of_decide_eq_true (T.b fb4 4 11 (f := fun K => decide (PySem.W.findIn K (.ref (He.ga K "Receiver")) "__setattr__" = some (some (.builtin "object.__setattr__")))))
theorem mk_Receiver (T : TX K mg base) : PySem.W.makesIn K (He.ga K "Receiver") = true := of_decide_eq_true (T.b fb4 4 12 (f := fun K => decide (PySem.W.makesIn K (He.ga K "Receiver") = true)))
theorem kp_Receiver (T : TX K mg base) : PySem.W.keepIn K (.ref (He.ga K "Receiver")) = true := of_decide_eq_true (T.b fb4 4 13 (f := fun K => decide (PySem.W.keepIn K (.ref (He.ga K "Receiver")) = true)))
theorem cl_Receiver (T : TX K mg base) : PySem.W.findIn K (.ref (He.ga K "Receiver")) "__class__" = some (some (.builtin "object.__class__")) := of_decide_eq_true (T.b fb4 4 14 (f := fun K => decide (PySem.W.findIn K (.ref (He.ga K "Receiver")) "__class__" = some (some (.builtin "object.__class__")))))
theorem ob_Receiver (T : TX K mg base) : PySem.W.mroIn K (He.ga K "Receiver") (.type "object") = some true := of_decide_eq_true (T.b fb4 4 15 (f := fun K => decide (PySem.W.mroIn K (He.ga K "Receiver") (.type "object") = some true)))
theorem ocGet (T : TX K mg base) : PySem.W.specialIn K (.builtin "object.__class__") "__get__" = some (some (.builtin "getset_descriptor.__get__")) := of_decide_eq_true (T.b fb5 5 0 (f := fun K => decide (PySem.W.specialIn K (.builtin "object.__class__") "__get__" = some (some (.builtin "getset_descriptor.__get__")))))
theorem ocTk (T : TX K mg base) : PySem.W.takesIn K (.builtin "object.__class__") = some true := of_decide_eq_true (T.b fb5 5 1 (f := fun K => decide (PySem.W.takesIn K (.builtin "object.__class__") = some true)))
theorem tpAny (T : TX K mg base) : PySem.W.nsIn K cStatics "thirdparty.any" = some none := of_decide_eq_true (T.b fb5 5 2 (f := fun K => decide (PySem.W.nsIn K cStatics "thirdparty.any" = some none)))
theorem at_Take_init (T : TX K mg base) : PySem.W.findIn K (.ref (He.ga K "Take")) "__init__" = some (some (.ref (He.ma K (He.ga K "BoxDeed") "__init__"))) := of_decide_eq_true (T.b fb5 5 3 (f := fun K => decide (PySem.W.findIn K (.ref (He.ga K "Take")) "__init__" = some (some (.ref (He.ma K (He.ga K "BoxDeed") "__init__"))))))
theorem at_Put_init (T : TX K mg base) : PySem.W.findIn K (.ref (He.ga K "Put")) "__init__" = some (some (.ref (He.ma K (He.ga K "BoxDeed") "__init__"))) := of_decide_eq_true (T.b fb5 5 4 (f := fun K => decide (PySem.W.findIn K (.ref (He.ga K "Put")) "__init__" = some (some (.ref (He.ma K (He.ga K "BoxDeed") "__init__"))))))
theorem at_Out_init (T : TX K mg base) : PySem.W.findIn K (.ref (He.ga K "Out")) "__init__" = some (some (.ref (He.ma K (He.ga K "BoxDeed") "__init__"))) := of_decide_eq_true (T.b fb5 5 5 (f := fun K => decide (PySem.W.findIn K (.ref (He.ga K "Out")) "__init__" = some (some (.ref (He.ma K (He.ga K "BoxDeed") "__init__"))))))
theorem at_Clear_init (T : TX K mg base) : PySem.W.findIn K (.ref (He.ga K "Clear")) "__init__" = some (some (.ref (He.ma K (He.ga K "BoxDeed") "__init__"))) := of_decide_eq_true (T.b fb5 5 6 (f := fun K => decide (PySem.W.findIn K (.ref (He.ga K "Clear")) "__init__" = some (some (.ref (He.ma K (He.ga K "BoxDeed") "__init__"))))))
theorem at_Send_init (T : TX K mg base) : PySem.W.findIn K (.ref (He.ga K "Send")) "__init__" = some (some (.ref (He.ma K (He.ga K "Send") "__init__"))) := of_decide_eq_true (T.b fb5 5 7 (f := fun K => decide (PySem.W.findIn K (.ref (He.ga K "Send")) "__init__" = some (some (.ref (He.ma K (He.ga K "Send") "__init__"))))))
theorem at_Move_init (T : TX K mg base) : PySem.W.findIn K (.ref (He.ga K "Move")) "__init__" = some (some (.ref (He.ma K (He.ga K "Move") "__init__"))) := of_decide_eq_true (T.b fb5 5 8 (f := fun K => decide (PySem.W.findIn K (.ref (He.ga K "Move")) "__init__" = some (some (.ref (He.ma K (He.ga K "Move") "__init__"))))))
theorem at_Answer_init (T : TX K mg base) : PySem.W.findIn K (.ref (He.ga K "Answer")) "__init__" = some (some (.ref (He.ma K (He.ga K "Answer") "__init__"))) := of_decide_eq_true (T.b fb5 5 9 (f := fun K => decide (PySem.W.findIn K (.ref (He.ga K "Answer")) "__init__" = some (some (.ref (He.ma K (He.ga K "Answer") "__init__"))))))
theorem at_Row_init (T : TX K mg base) : PySem.W.findIn K (.ref (He.ga K "Row")) "__init__" = some (some (.ref (He.ma K (He.ga K "Row") "__init__"))) := of_decide_eq_true (T.b fb5 5 10 (f := fun K => decide (PySem.W.findIn K (.ref (He.ga K "Row")) "__init__" = some (some (.ref (He.ma K (He.ga K "Row") "__init__"))))))
theorem at_Sender_init (T : TX K mg base) : PySem.W.findIn K (.ref (He.ga K "Sender")) "__init__" = some (some (.ref (He.ma K (He.ga K "Sender") "__init__"))) := of_decide_eq_true (T.b fb5 5 11 (f := fun K => decide (PySem.W.findIn K (.ref (He.ga K "Sender")) "__init__" = some (some (.ref (He.ma K (He.ga K "Sender") "__init__"))))))
theorem at_Receiver_init (T : TX K mg base) : PySem.W.findIn K (.ref (He.ga K "Receiver")) "__init__" = some (some (.ref (He.ma K (He.ga K "Receiver") "__init__"))) := of_decide_eq_true (T.b fb5 5 12 (f := fun K => decide (PySem.W.findIn K (.ref (He.ga K "Receiver")) "__init__" = some (some (.ref (He.ma K (He.ga K "Receiver") "__init__"))))))
theorem at_NoRow_init (T : TX K mg base) : PySem.W.findIn K (.ref (He.ga K "NoRow")) "__init__" = some (some (.ref (He.ma K (He.ga K "NoRow") "__init__"))) := of_decide_eq_true (T.b fb5 5 13 (f := fun K => decide (PySem.W.findIn K (.ref (He.ga K "NoRow")) "__init__" = some (some (.ref (He.ma K (He.ga K "NoRow") "__init__"))))))
theorem at_Take_str (T : TX K mg base) : PySem.W.findIn K (.ref (He.ga K "Take")) "__str__" = some (some (.ref (He.ma K (He.ga K "BoxDeed") "__str__"))) := of_decide_eq_true (T.b fb5 5 14 (f := fun K => decide (PySem.W.findIn K (.ref (He.ga K "Take")) "__str__" = some (some (.ref (He.ma K (He.ga K "BoxDeed") "__str__"))))))
theorem at_Put_str (T : TX K mg base) : PySem.W.findIn K (.ref (He.ga K "Put")) "__str__" = some (some (.ref (He.ma K (He.ga K "BoxDeed") "__str__"))) := of_decide_eq_true (T.b fb5 5 15 (f := fun K => decide (PySem.W.findIn K (.ref (He.ga K "Put")) "__str__" = some (some (.ref (He.ma K (He.ga K "BoxDeed") "__str__"))))))
theorem at_Out_str (T : TX K mg base) : PySem.W.findIn K (.ref (He.ga K "Out")) "__str__" = some (some (.ref (He.ma K (He.ga K "BoxDeed") "__str__"))) := of_decide_eq_true (T.b fb6 6 0 (f := fun K => decide (PySem.W.findIn K (.ref (He.ga K "Out")) "__str__" = some (some (.ref (He.ma K (He.ga K "BoxDeed") "__str__"))))))
theorem at_Clear_str (T : TX K mg base) : PySem.W.findIn K (.ref (He.ga K "Clear")) "__str__" = some (some (.ref (He.ma K (He.ga K "BoxDeed") "__str__"))) := of_decide_eq_true (T.b fb6 6 1 (f := fun K => decide (PySem.W.findIn K (.ref (He.ga K "Clear")) "__str__" = some (some (.ref (He.ma K (He.ga K "BoxDeed") "__str__"))))))
theorem at_Send_str (T : TX K mg base) : PySem.W.findIn K (.ref (He.ga K "Send")) "__str__" = some (some (.ref (He.ma K (He.ga K "Send") "__str__"))) := of_decide_eq_true (T.b fb6 6 2 (f := fun K => decide (PySem.W.findIn K (.ref (He.ga K "Send")) "__str__" = some (some (.ref (He.ma K (He.ga K "Send") "__str__"))))))
theorem at_Move_str (T : TX K mg base) : PySem.W.findIn K (.ref (He.ga K "Move")) "__str__" = some (some (.ref (He.ma K (He.ga K "Move") "__str__"))) := of_decide_eq_true (T.b fb6 6 3 (f := fun K => decide (PySem.W.findIn K (.ref (He.ga K "Move")) "__str__" = some (some (.ref (He.ma K (He.ga K "Move") "__str__"))))))
theorem at_Answer_str (T : TX K mg base) : PySem.W.findIn K (.ref (He.ga K "Answer")) "__str__" = some (some (.ref (He.ma K (He.ga K "Answer") "__str__"))) := of_decide_eq_true (T.b fb6 6 4 (f := fun K => decide (PySem.W.findIn K (.ref (He.ga K "Answer")) "__str__" = some (some (.ref (He.ma K (He.ga K "Answer") "__str__"))))))
theorem at_Row_str (T : TX K mg base) : PySem.W.findIn K (.ref (He.ga K "Row")) "__str__" = some (some (.ref (He.ma K (He.ga K "Row") "__str__"))) := of_decide_eq_true (T.b fb6 6 5 (f := fun K => decide (PySem.W.findIn K (.ref (He.ga K "Row")) "__str__" = some (some (.ref (He.ma K (He.ga K "Row") "__str__"))))))
theorem at_Take_verb (T : TX K mg base) : PySem.W.findIn K (.ref (He.ga K "Take")) "verb" = some (some (.ref (He.ma K (He.ga K "Take") "verb"))) := of_decide_eq_true (T.b fb6 6 6 (f := fun K => decide (PySem.W.findIn K (.ref (He.ga K "Take")) "verb" = some (some (.ref (He.ma K (He.ga K "Take") "verb"))))))
theorem at_Take_is_for (T : TX K mg base) : PySem.W.findIn K (.ref (He.ga K "Take")) "is_for" = some (some (.ref (He.ma K (He.ga K "Deed") "is_for"))) := of_decide_eq_true (T.b fb6 6 7 (f := fun K => decide (PySem.W.findIn K (.ref (He.ga K "Take")) "is_for" = some (some (.ref (He.ma K (He.ga K "Deed") "is_for"))))))
theorem at_Put_verb (T : TX K mg base) : PySem.W.findIn K (.ref (He.ga K "Put")) "verb" = some (some (.ref (He.ma K (He.ga K "Put") "verb"))) := of_decide_eq_true (T.b fb6 6 8 (f := fun K => decide (PySem.W.findIn K (.ref (He.ga K "Put")) "verb" = some (some (.ref (He.ma K (He.ga K "Put") "verb"))))))
theorem at_Put_is_for (T : TX K mg base) : PySem.W.findIn K (.ref (He.ga K "Put")) "is_for" = some (some (.ref (He.ma K (He.ga K "Deed") "is_for"))) := of_decide_eq_true (T.b fb6 6 9 (f := fun K => decide (PySem.W.findIn K (.ref (He.ga K "Put")) "is_for" = some (some (.ref (He.ma K (He.ga K "Deed") "is_for"))))))
theorem at_Out_verb (T : TX K mg base) : PySem.W.findIn K (.ref (He.ga K "Out")) "verb" = some (some (.ref (He.ma K (He.ga K "Out") "verb"))) := of_decide_eq_true (T.b fb6 6 10 (f := fun K => decide (PySem.W.findIn K (.ref (He.ga K "Out")) "verb" = some (some (.ref (He.ma K (He.ga K "Out") "verb"))))))
theorem at_Out_is_for (T : TX K mg base) : PySem.W.findIn K (.ref (He.ga K "Out")) "is_for" = some (some (.ref (He.ma K (He.ga K "Deed") "is_for"))) := of_decide_eq_true (T.b fb6 6 11 (f := fun K => decide (PySem.W.findIn K (.ref (He.ga K "Out")) "is_for" = some (some (.ref (He.ma K (He.ga K "Deed") "is_for"))))))
theorem at_Clear_verb (T : TX K mg base) : PySem.W.findIn K (.ref (He.ga K "Clear")) "verb" = some (some (.ref (He.ma K (He.ga K "Clear") "verb"))) := of_decide_eq_true (T.b fb6 6 12 (f := fun K => decide (PySem.W.findIn K (.ref (He.ga K "Clear")) "verb" = some (some (.ref (He.ma K (He.ga K "Clear") "verb"))))))
theorem at_Clear_is_for (T : TX K mg base) : PySem.W.findIn K (.ref (He.ga K "Clear")) "is_for" = some (some (.ref (He.ma K (He.ga K "Deed") "is_for"))) := of_decide_eq_true (T.b fb6 6 13 (f := fun K => decide (PySem.W.findIn K (.ref (He.ga K "Clear")) "is_for" = some (some (.ref (He.ma K (He.ga K "Deed") "is_for"))))))
theorem at_Send_verb (T : TX K mg base) : PySem.W.findIn K (.ref (He.ga K "Send")) "verb" = some (some (.ref (He.ma K (He.ga K "Send") "verb"))) := of_decide_eq_true (T.b fb6 6 14 (f := fun K => decide (PySem.W.findIn K (.ref (He.ga K "Send")) "verb" = some (some (.ref (He.ma K (He.ga K "Send") "verb"))))))
theorem at_Send_is_for (T : TX K mg base) : PySem.W.findIn K (.ref (He.ga K "Send")) "is_for" = some (some (.ref (He.ma K (He.ga K "Deed") "is_for"))) := of_decide_eq_true (T.b fb6 6 15 (f := fun K => decide (PySem.W.findIn K (.ref (He.ga K "Send")) "is_for" = some (some (.ref (He.ma K (He.ga K "Deed") "is_for"))))))
theorem at_Move_verb (T : TX K mg base) : PySem.W.findIn K (.ref (He.ga K "Move")) "verb" = some (some (.ref (He.ma K (He.ga K "Move") "verb"))) := of_decide_eq_true (T.b fb7 7 0 (f := fun K => decide (PySem.W.findIn K (.ref (He.ga K "Move")) "verb" = some (some (.ref (He.ma K (He.ga K "Move") "verb"))))))
theorem at_Move_is_for (T : TX K mg base) : PySem.W.findIn K (.ref (He.ga K "Move")) "is_for" = some (some (.ref (He.ma K (He.ga K "Deed") "is_for"))) := of_decide_eq_true (T.b fb7 7 1 (f := fun K => decide (PySem.W.findIn K (.ref (He.ga K "Move")) "is_for" = some (some (.ref (He.ma K (He.ga K "Deed") "is_for"))))))
theorem at_Answer_verb (T : TX K mg base) : PySem.W.findIn K (.ref (He.ga K "Answer")) "verb" = some (some (.ref (He.ma K (He.ga K "Answer") "verb"))) := of_decide_eq_true (T.b fb7 7 2 (f := fun K => decide (PySem.W.findIn K (.ref (He.ga K "Answer")) "verb" = some (some (.ref (He.ma K (He.ga K "Answer") "verb"))))))
theorem at_Answer_is_for (T : TX K mg base) : PySem.W.findIn K (.ref (He.ga K "Answer")) "is_for" = some (some (.ref (He.ma K (He.ga K "Deed") "is_for"))) := of_decide_eq_true (T.b fb7 7 3 (f := fun K => decide (PySem.W.findIn K (.ref (He.ga K "Answer")) "is_for" = some (some (.ref (He.ma K (He.ga K "Deed") "is_for"))))))
theorem at_Row_eq (T : TX K mg base) : PySem.W.findIn K (.ref (He.ga K "Row")) "__eq__" = some (some (.ref (He.ma K (He.ga K "Row") "__eq__"))) := of_decide_eq_true (T.b fb7 7 4 (f := fun K => decide (PySem.W.findIn K (.ref (He.ga K "Row")) "__eq__" = some (some (.ref (He.ma K (He.ga K "Row") "__eq__"))))))
theorem at_Row_sides (T : TX K mg base) : PySem.W.findIn K (.ref (He.ga K "Row")) "sides" = some (some (.ref (He.ma K (He.ga K "Row") "sides"))) := of_decide_eq_true (T.b fb7 7 5 (f := fun K => decide (PySem.W.findIn K (.ref (He.ga K "Row")) "sides" = some (some (.ref (He.ma K (He.ga K "Row") "sides"))))))
theorem at_Sender_len (T : TX K mg base) : PySem.W.findIn K (.ref (He.ga K "Sender")) "__len__" = some (some (.ref (He.ma K (He.ga K "End") "__len__"))) := of_decide_eq_true (T.b fb7 7 6 (f := fun K => decide (PySem.W.findIn K (.ref (He.ga K "Sender")) "__len__" = some (some (.ref (He.ma K (He.ga K "End") "__len__"))))))
theorem at_Sender_iter (T : TX K mg base) : PySem.W.findIn K (.ref (He.ga K "Sender")) "__iter__" = some (some (.ref (He.ma K (He.ga K "End") "__iter__"))) := of_decide_eq_true (T.b fb7 7 7 (f := fun K => decide (PySem.W.findIn K (.ref (He.ga K "Sender")) "__iter__" = some (some (.ref (He.ma K (He.ga K "End") "__iter__"))))))
theorem at_Sender_getitem (T : TX K mg base) : PySem.W.findIn K (.ref (He.ga K "Sender")) "__getitem__" = some (some (.ref (He.ma K (He.ga K "End") "__getitem__"))) := of_decide_eq_true (T.b fb7 7 8 (f := fun K => decide (PySem.W.findIn K (.ref (He.ga K "Sender")) "__getitem__" = some (some (.ref (He.ma K (He.ga K "End") "__getitem__"))))))
theorem at_Sender_contains (T : TX K mg base) : PySem.W.findIn K (.ref (He.ga K "Sender")) "__contains__" = some (some (.ref (He.ma K (He.ga K "End") "__contains__"))) := of_decide_eq_true (T.b fb7 7 9 (f := fun K => decide (PySem.W.findIn K (.ref (He.ga K "Sender")) "__contains__" = some (some (.ref (He.ma K (He.ga K "End") "__contains__"))))))
theorem at_Sender_at_state (T : TX K mg base) : PySem.W.findIn K (.ref (He.ga K "Sender")) "at_state" = some (some (.ref (He.ma K (He.ga K "End") "at_state"))) := of_decide_eq_true (T.b fb7 7 10 (f := fun K => decide (PySem.W.findIn K (.ref (He.ga K "Sender")) "at_state" = some (some (.ref (He.ma K (He.ga K "End") "at_state"))))))
theorem at_Sender_eq (T : TX K mg base) : PySem.W.findIn K (.ref (He.ga K "Sender")) "__eq__" = some (some (.ref (He.ma K (He.ga K "End") "__eq__"))) := of_decide_eq_true (T.b fb7 7 11 (f := fun K => decide (PySem.W.findIn K (.ref (He.ga K "Sender")) "__eq__" = some (some (.ref (He.ma K (He.ga K "End") "__eq__"))))))
theorem nb_Sender (T : TX K mg base) : PySem.W.findIn K (.ref (He.ga K "Sender")) "__bool__" = some none := of_decide_eq_true (T.b fb7 7 12 (f := fun K => decide (PySem.W.findIn K (.ref (He.ga K "Sender")) "__bool__" = some none)))
theorem ne_Sender (T : TX K mg base) : PySem.W.findIn K (.ref (He.ga K "Sender")) "__ne__" = some (some (.builtin "object.__ne__")) := of_decide_eq_true (T.b fb7 7 13 (f := fun K => decide (PySem.W.findIn K (.ref (He.ga K "Sender")) "__ne__" = some (some (.builtin "object.__ne__")))))
theorem at_Receiver_len (T : TX K mg base) : PySem.W.findIn K (.ref (He.ga K "Receiver")) "__len__" = some (some (.ref (He.ma K (He.ga K "End") "__len__"))) := of_decide_eq_true (T.b fb7 7 14 (f := fun K => decide (PySem.W.findIn K (.ref (He.ga K "Receiver")) "__len__" = some (some (.ref (He.ma K (He.ga K "End") "__len__"))))))
theorem at_Receiver_iter (T : TX K mg base) : PySem.W.findIn K (.ref (He.ga K "Receiver")) "__iter__" = some (some (.ref (He.ma K (He.ga K "End") "__iter__"))) := of_decide_eq_true (T.b fb7 7 15 (f := fun K => decide (PySem.W.findIn K (.ref (He.ga K "Receiver")) "__iter__" = some (some (.ref (He.ma K (He.ga K "End") "__iter__"))))))
theorem at_Receiver_getitem (T : TX K mg base) : PySem.W.findIn K (.ref (He.ga K "Receiver")) "__getitem__" = some (some (.ref (He.ma K (He.ga K "End") "__getitem__"))) := of_decide_eq_true (T.b fb8 8 0 (f := fun K => decide (PySem.W.findIn K (.ref (He.ga K "Receiver")) "__getitem__" = some (some (.ref (He.ma K (He.ga K "End") "__getitem__"))))))
theorem at_Receiver_contains (T : TX K mg base) : PySem.W.findIn K (.ref (He.ga K "Receiver")) "__contains__" = some (some (.ref (He.ma K (He.ga K "End") "__contains__"))) := of_decide_eq_true (T.b fb8 8 1 (f := fun K => decide (PySem.W.findIn K (.ref (He.ga K "Receiver")) "__contains__" = some (some (.ref (He.ma K (He.ga K "End") "__contains__"))))))
theorem at_Receiver_at_state (T : TX K mg base) : PySem.W.findIn K (.ref (He.ga K "Receiver")) "at_state" = some (some (.ref (He.ma K (He.ga K "End") "at_state"))) := of_decide_eq_true (T.b fb8 8 2 (f := fun K => decide (PySem.W.findIn K (.ref (He.ga K "Receiver")) "at_state" = some (some (.ref (He.ma K (He.ga K "End") "at_state"))))))
theorem at_Receiver_eq (T : TX K mg base) : PySem.W.findIn K (.ref (He.ga K "Receiver")) "__eq__" = some (some (.ref (He.ma K (He.ga K "End") "__eq__"))) := of_decide_eq_true (T.b fb8 8 3 (f := fun K => decide (PySem.W.findIn K (.ref (He.ga K "Receiver")) "__eq__" = some (some (.ref (He.ma K (He.ga K "End") "__eq__"))))))
theorem nb_Receiver (T : TX K mg base) : PySem.W.findIn K (.ref (He.ga K "Receiver")) "__bool__" = some none := of_decide_eq_true (T.b fb8 8 4 (f := fun K => decide (PySem.W.findIn K (.ref (He.ga K "Receiver")) "__bool__" = some none)))
theorem ne_Receiver (T : TX K mg base) : PySem.W.findIn K (.ref (He.ga K "Receiver")) "__ne__" = some (some (.builtin "object.__ne__")) := of_decide_eq_true (T.b fb8 8 5 (f := fun K => decide (PySem.W.findIn K (.ref (He.ga K "Receiver")) "__ne__" = some (some (.builtin "object.__ne__")))))
theorem no_Take_box (T : TX K mg base) : PySem.W.findIn K (.ref (He.ga K "Take")) "box" = some none := of_decide_eq_true (T.b fb8 8 6 (f := fun K => decide (PySem.W.findIn K (.ref (He.ga K "Take")) "box" = some none)))
theorem no_Take_number (T : TX K mg base) : PySem.W.findIn K (.ref (He.ga K "Take")) "number" = some none := of_decide_eq_true (T.b fb8 8 7 (f := fun K => decide (PySem.W.findIn K (.ref (He.ga K "Take")) "number" = some none)))
theorem no_Take_to (T : TX K mg base) : PySem.W.findIn K (.ref (He.ga K "Take")) "to" = some none := of_decide_eq_true (T.b fb8 8 8 (f := fun K => decide (PySem.W.findIn K (.ref (He.ga K "Take")) "to" = some none)))
theorem no_Put_box (T : TX K mg base) : PySem.W.findIn K (.ref (He.ga K "Put")) "box" = some none := of_decide_eq_true (T.b fb8 8 9 (f := fun K => decide (PySem.W.findIn K (.ref (He.ga K "Put")) "box" = some none)))
theorem no_Put_number (T : TX K mg base) : PySem.W.findIn K (.ref (He.ga K "Put")) "number" = some none := of_decide_eq_true (T.b fb8 8 10 (f := fun K => decide (PySem.W.findIn K (.ref (He.ga K "Put")) "number" = some none)))
theorem no_Put_to (T : TX K mg base) : PySem.W.findIn K (.ref (He.ga K "Put")) "to" = some none := of_decide_eq_true (T.b fb8 8 11 (f := fun K => decide (PySem.W.findIn K (.ref (He.ga K "Put")) "to" = some none)))
theorem no_Out_box (T : TX K mg base) : PySem.W.findIn K (.ref (He.ga K "Out")) "box" = some none := of_decide_eq_true (T.b fb8 8 12 (f := fun K => decide (PySem.W.findIn K (.ref (He.ga K "Out")) "box" = some none)))
theorem no_Out_number (T : TX K mg base) : PySem.W.findIn K (.ref (He.ga K "Out")) "number" = some none := of_decide_eq_true (T.b fb8 8 13 (f := fun K => decide (PySem.W.findIn K (.ref (He.ga K "Out")) "number" = some none)))
theorem no_Out_to (T : TX K mg base) : PySem.W.findIn K (.ref (He.ga K "Out")) "to" = some none := of_decide_eq_true (T.b fb8 8 14 (f := fun K => decide (PySem.W.findIn K (.ref (He.ga K "Out")) "to" = some none)))
theorem no_Clear_box (T : TX K mg base) : PySem.W.findIn K (.ref (He.ga K "Clear")) "box" = some none := of_decide_eq_true (T.b fb8 8 15 (f := fun K => decide (PySem.W.findIn K (.ref (He.ga K "Clear")) "box" = some none)))
theorem no_Clear_number (T : TX K mg base) : PySem.W.findIn K (.ref (He.ga K "Clear")) "number" = some none := of_decide_eq_true (T.b fb9 9 0 (f := fun K => decide (PySem.W.findIn K (.ref (He.ga K "Clear")) "number" = some none)))
theorem no_Clear_to (T : TX K mg base) : PySem.W.findIn K (.ref (He.ga K "Clear")) "to" = some none := of_decide_eq_true (T.b fb9 9 1 (f := fun K => decide (PySem.W.findIn K (.ref (He.ga K "Clear")) "to" = some none)))
theorem no_Send_box (T : TX K mg base) : PySem.W.findIn K (.ref (He.ga K "Send")) "box" = some none := of_decide_eq_true (T.b fb9 9 2 (f := fun K => decide (PySem.W.findIn K (.ref (He.ga K "Send")) "box" = some none)))
theorem no_Send_number (T : TX K mg base) : PySem.W.findIn K (.ref (He.ga K "Send")) "number" = some none := of_decide_eq_true (T.b fb9 9 3 (f := fun K => decide (PySem.W.findIn K (.ref (He.ga K "Send")) "number" = some none)))
theorem no_Send_to (T : TX K mg base) : PySem.W.findIn K (.ref (He.ga K "Send")) "to" = some none := of_decide_eq_true (T.b fb9 9 4 (f := fun K => decide (PySem.W.findIn K (.ref (He.ga K "Send")) "to" = some none)))
theorem no_Move_box (T : TX K mg base) : PySem.W.findIn K (.ref (He.ga K "Move")) "box" = some none := of_decide_eq_true (T.b fb9 9 5 (f := fun K => decide (PySem.W.findIn K (.ref (He.ga K "Move")) "box" = some none)))
theorem no_Move_number (T : TX K mg base) : PySem.W.findIn K (.ref (He.ga K "Move")) "number" = some none := of_decide_eq_true (T.b fb9 9 6 (f := fun K => decide (PySem.W.findIn K (.ref (He.ga K "Move")) "number" = some none)))
theorem no_Move_to (T : TX K mg base) : PySem.W.findIn K (.ref (He.ga K "Move")) "to" = some none := of_decide_eq_true (T.b fb9 9 7 (f := fun K => decide (PySem.W.findIn K (.ref (He.ga K "Move")) "to" = some none)))
theorem no_Answer_box (T : TX K mg base) : PySem.W.findIn K (.ref (He.ga K "Answer")) "box" = some none := of_decide_eq_true (T.b fb9 9 8 (f := fun K => decide (PySem.W.findIn K (.ref (He.ga K "Answer")) "box" = some none)))
theorem no_Answer_number (T : TX K mg base) : PySem.W.findIn K (.ref (He.ga K "Answer")) "number" = some none := of_decide_eq_true (T.b fb9 9 9 (f := fun K => decide (PySem.W.findIn K (.ref (He.ga K "Answer")) "number" = some none)))
theorem no_Answer_to (T : TX K mg base) : PySem.W.findIn K (.ref (He.ga K "Answer")) "to" = some none := of_decide_eq_true (T.b fb9 9 10 (f := fun K => decide (PySem.W.findIn K (.ref (He.ga K "Answer")) "to" = some none)))
theorem no_Row_state (T : TX K mg base) : PySem.W.findIn K (.ref (He.ga K "Row")) "state" = some none := of_decide_eq_true (T.b fb9 9 11 (f := fun K => decide (PySem.W.findIn K (.ref (He.ga K "Row")) "state" = some none)))
theorem no_Row_deeds (T : TX K mg base) : PySem.W.findIn K (.ref (He.ga K "Row")) "deeds" = some none := of_decide_eq_true (T.b fb9 9 12 (f := fun K => decide (PySem.W.findIn K (.ref (He.ga K "Row")) "deeds" = some none)))
theorem no_Row_then (T : TX K mg base) : PySem.W.findIn K (.ref (He.ga K "Row")) "then" = some none := of_decide_eq_true (T.b fb9 9 13 (f := fun K => decide (PySem.W.findIn K (.ref (He.ga K "Row")) "then" = some none)))
theorem no_Row_hear (T : TX K mg base) : PySem.W.findIn K (.ref (He.ga K "Row")) "hear" = some none := of_decide_eq_true (T.b fb9 9 14 (f := fun K => decide (PySem.W.findIn K (.ref (He.ga K "Row")) "hear" = some none)))
theorem no_Row_empty (T : TX K mg base) : PySem.W.findIn K (.ref (He.ga K "Row")) "empty" = some none := of_decide_eq_true (T.b fb9 9 15 (f := fun K => decide (PySem.W.findIn K (.ref (He.ga K "Row")) "empty" = some none)))
theorem no_Row_full (T : TX K mg base) : PySem.W.findIn K (.ref (He.ga K "Row")) "full" = some none := of_decide_eq_true (T.b fb10 10 0 (f := fun K => decide (PySem.W.findIn K (.ref (He.ga K "Row")) "full" = some none)))
theorem no_Row_key (T : TX K mg base) : PySem.W.findIn K (.ref (He.ga K "Row")) "key" = some none := of_decide_eq_true (T.b fb10 10 1 (f := fun K => decide (PySem.W.findIn K (.ref (He.ga K "Row")) "key" = some none)))
theorem no_Sender_own_side (T : TX K mg base) : PySem.W.findIn K (.ref (He.ga K "Sender")) "own_side" = some none := of_decide_eq_true (T.b fb10 10 2 (f := fun K => decide (PySem.W.findIn K (.ref (He.ga K "Sender")) "own_side" = some none)))
theorem no_Sender_own_rows (T : TX K mg base) : PySem.W.findIn K (.ref (He.ga K "Sender")) "own_rows" = some none := of_decide_eq_true (T.b fb10 10 3 (f := fun K => decide (PySem.W.findIn K (.ref (He.ga K "Sender")) "own_rows" = some none)))
theorem no_Receiver_own_side (T : TX K mg base) : PySem.W.findIn K (.ref (He.ga K "Receiver")) "own_side" = some none := of_decide_eq_true (T.b fb10 10 4 (f := fun K => decide (PySem.W.findIn K (.ref (He.ga K "Receiver")) "own_side" = some none)))
theorem no_Receiver_own_rows (T : TX K mg base) : PySem.W.findIn K (.ref (He.ga K "Receiver")) "own_rows" = some none := of_decide_eq_true (T.b fb10 10 5 (f := fun K => decide (PySem.W.findIn K (.ref (He.ga K "Receiver")) "own_rows" = some none)))
theorem fi_is_integer (T : TX K mg base) : PySem.W.fnIn K (He.ga K "is_integer") = true := of_decide_eq_true (T.b fb10 10 6 (f := fun K => decide (PySem.W.fnIn K (He.ga K "is_integer") = true)))
theorem fn_is_integer (T : TX K mg base) : PySem.W.isFn K (.ref (He.ga K "is_integer")) = true := of_decide_eq_true (T.b fb10 10 7 (f := fun K => decide (PySem.W.isFn K (.ref (He.ga K "is_integer")) = true)))
theorem kf_is_integer (T : TX K mg base) : PySem.W.keepIn K (.ref (He.ga K "is_integer")) = true := of_decide_eq_true (T.b fb10 10 8 (f := fun K => decide (PySem.W.keepIn K (.ref (He.ga K "is_integer")) = true)))
theorem fi_is_within (T : TX K mg base) : PySem.W.fnIn K (He.ga K "is_within") = true := of_decide_eq_true (T.b fb10 10 9 (f := fun K => decide (PySem.W.fnIn K (He.ga K "is_within") = true)))
theorem fn_is_within (T : TX K mg base) : PySem.W.isFn K (.ref (He.ga K "is_within")) = true := of_decide_eq_true (T.b fb10 10 10 (f := fun K => decide (PySem.W.isFn K (.ref (He.ga K "is_within")) = true)))
theorem kf_is_within (T : TX K mg base) : PySem.W.keepIn K (.ref (He.ga K "is_within")) = true := of_decide_eq_true (T.b fb10 10 11 (f := fun K => decide (PySem.W.keepIn K (.ref (He.ga K "is_within")) = true)))
theorem fi_is_state (T : TX K mg base) : PySem.W.fnIn K (He.ga K "is_state") = true := of_decide_eq_true (T.b fb10 10 12 (f := fun K => decide (PySem.W.fnIn K (He.ga K "is_state") = true)))
theorem fn_is_state (T : TX K mg base) : PySem.W.isFn K (.ref (He.ga K "is_state")) = true := of_decide_eq_true (T.b fb10 10 13 (f := fun K => decide (PySem.W.isFn K (.ref (He.ga K "is_state")) = true)))
theorem kf_is_state (T : TX K mg base) : PySem.W.keepIn K (.ref (He.ga K "is_state")) = true := of_decide_eq_true (T.b fb10 10 14 (f := fun K => decide (PySem.W.keepIn K (.ref (He.ga K "is_state")) = true)))
theorem fi_is_box (T : TX K mg base) : PySem.W.fnIn K (He.ga K "is_box") = true := of_decide_eq_true (T.b fb10 10 15 (f := fun K => decide (PySem.W.fnIn K (He.ga K "is_box") = true)))
theorem fn_is_box (T : TX K mg base) : PySem.W.isFn K (.ref (He.ga K "is_box")) = true := of_decide_eq_true (T.b fb11 11 0 (f := fun K => decide (PySem.W.isFn K (.ref (He.ga K "is_box")) = true)))
theorem kf_is_box (T : TX K mg base) : PySem.W.keepIn K (.ref (He.ga K "is_box")) = true := of_decide_eq_true (T.b fb11 11 1 (f := fun K => decide (PySem.W.keepIn K (.ref (He.ga K "is_box")) = true)))
theorem fi_is_number (T : TX K mg base) : PySem.W.fnIn K (He.ga K "is_number") = true := of_decide_eq_true (T.b fb11 11 2 (f := fun K => decide (PySem.W.fnIn K (He.ga K "is_number") = true)))
theorem fn_is_number (T : TX K mg base) : PySem.W.isFn K (.ref (He.ga K "is_number")) = true := of_decide_eq_true (T.b fb11 11 3 (f := fun K => decide (PySem.W.isFn K (.ref (He.ga K "is_number")) = true)))
theorem kf_is_number (T : TX K mg base) : PySem.W.keepIn K (.ref (He.ga K "is_number")) = true := of_decide_eq_true (T.b fb11 11 4 (f := fun K => decide (PySem.W.keepIn K (.ref (He.ga K "is_number")) = true)))
theorem fi_need_box (T : TX K mg base) : PySem.W.fnIn K (He.ga K "need_box") = true := of_decide_eq_true (T.b fb11 11 5 (f := fun K => decide (PySem.W.fnIn K (He.ga K "need_box") = true)))
theorem fn_need_box (T : TX K mg base) : PySem.W.isFn K (.ref (He.ga K "need_box")) = true := of_decide_eq_true (T.b fb11 11 6 (f := fun K => decide (PySem.W.isFn K (.ref (He.ga K "need_box")) = true)))
theorem kf_need_box (T : TX K mg base) : PySem.W.keepIn K (.ref (He.ga K "need_box")) = true := of_decide_eq_true (T.b fb11 11 7 (f := fun K => decide (PySem.W.keepIn K (.ref (He.ga K "need_box")) = true)))
theorem fi_need_number (T : TX K mg base) : PySem.W.fnIn K (He.ga K "need_number") = true := of_decide_eq_true (T.b fb11 11 8 (f := fun K => decide (PySem.W.fnIn K (He.ga K "need_number") = true)))
theorem fn_need_number (T : TX K mg base) : PySem.W.isFn K (.ref (He.ga K "need_number")) = true := of_decide_eq_true (T.b fb11 11 9 (f := fun K => decide (PySem.W.isFn K (.ref (He.ga K "need_number")) = true)))
theorem kf_need_number (T : TX K mg base) : PySem.W.keepIn K (.ref (He.ga K "need_number")) = true := of_decide_eq_true (T.b fb11 11 10 (f := fun K => decide (PySem.W.keepIn K (.ref (He.ga K "need_number")) = true)))
theorem fi_sides_of (T : TX K mg base) : PySem.W.fnIn K (He.ga K "sides_of") = true := of_decide_eq_true (T.b fb11 11 11 (f := fun K => decide (PySem.W.fnIn K (He.ga K "sides_of") = true)))
theorem fn_sides_of (T : TX K mg base) : PySem.W.isFn K (.ref (He.ga K "sides_of")) = true := of_decide_eq_true (T.b fb11 11 12 (f := fun K => decide (PySem.W.isFn K (.ref (He.ga K "sides_of")) = true)))
theorem kf_sides_of (T : TX K mg base) : PySem.W.keepIn K (.ref (He.ga K "sides_of")) = true := of_decide_eq_true (T.b fb11 11 13 (f := fun K => decide (PySem.W.keepIn K (.ref (He.ga K "sides_of")) = true)))
theorem fi_integer_in (T : TX K mg base) : PySem.W.fnIn K (He.ga K "integer_in") = true := of_decide_eq_true (T.b fb11 11 14 (f := fun K => decide (PySem.W.fnIn K (He.ga K "integer_in") = true)))
theorem fn_integer_in (T : TX K mg base) : PySem.W.isFn K (.ref (He.ga K "integer_in")) = true := of_decide_eq_true (T.b fb11 11 15 (f := fun K => decide (PySem.W.isFn K (.ref (He.ga K "integer_in")) = true)))
theorem kf_integer_in (T : TX K mg base) : PySem.W.keepIn K (.ref (He.ga K "integer_in")) = true := of_decide_eq_true (T.b fb12 12 0 (f := fun K => decide (PySem.W.keepIn K (.ref (He.ga K "integer_in")) = true)))
theorem fi_deed_in (T : TX K mg base) : PySem.W.fnIn K (He.ga K "deed_in") = true := of_decide_eq_true (T.b fb12 12 1 (f := fun K => decide (PySem.W.fnIn K (He.ga K "deed_in") = true)))
theorem fn_deed_in (T : TX K mg base) : PySem.W.isFn K (.ref (He.ga K "deed_in")) = true := of_decide_eq_true (T.b fb12 12 2 (f := fun K => decide (PySem.W.isFn K (.ref (He.ga K "deed_in")) = true)))
theorem kf_deed_in (T : TX K mg base) : PySem.W.keepIn K (.ref (He.ga K "deed_in")) = true := of_decide_eq_true (T.b fb12 12 3 (f := fun K => decide (PySem.W.keepIn K (.ref (He.ga K "deed_in")) = true)))
theorem fi_fit_sides (T : TX K mg base) : PySem.W.fnIn K (He.ga K "fit_sides") = true := of_decide_eq_true (T.b fb12 12 4 (f := fun K => decide (PySem.W.fnIn K (He.ga K "fit_sides") = true)))
theorem fn_fit_sides (T : TX K mg base) : PySem.W.isFn K (.ref (He.ga K "fit_sides")) = true := of_decide_eq_true (T.b fb12 12 5 (f := fun K => decide (PySem.W.isFn K (.ref (He.ga K "fit_sides")) = true)))
theorem kf_fit_sides (T : TX K mg base) : PySem.W.keepIn K (.ref (He.ga K "fit_sides")) = true := of_decide_eq_true (T.b fb12 12 6 (f := fun K => decide (PySem.W.keepIn K (.ref (He.ga K "fit_sides")) = true)))
theorem fi_need_deeds (T : TX K mg base) : PySem.W.fnIn K (He.ga K "need_deeds") = true := of_decide_eq_true (T.b fb12 12 7 (f := fun K => decide (PySem.W.fnIn K (He.ga K "need_deeds") = true)))
theorem fn_need_deeds (T : TX K mg base) : PySem.W.isFn K (.ref (He.ga K "need_deeds")) = true := of_decide_eq_true (T.b fb12 12 8 (f := fun K => decide (PySem.W.isFn K (.ref (He.ga K "need_deeds")) = true)))
theorem kf_need_deeds (T : TX K mg base) : PySem.W.keepIn K (.ref (He.ga K "need_deeds")) = true := of_decide_eq_true (T.b fb12 12 9 (f := fun K => decide (PySem.W.keepIn K (.ref (He.ga K "need_deeds")) = true)))
theorem fi_is_heard (T : TX K mg base) : PySem.W.fnIn K (He.ga K "is_heard") = true := of_decide_eq_true (T.b fb12 12 10 (f := fun K => decide (PySem.W.fnIn K (He.ga K "is_heard") = true)))
theorem fn_is_heard (T : TX K mg base) : PySem.W.isFn K (.ref (He.ga K "is_heard")) = true := of_decide_eq_true (T.b fb12 12 11 (f := fun K => decide (PySem.W.isFn K (.ref (He.ga K "is_heard")) = true)))
theorem kf_is_heard (T : TX K mg base) : PySem.W.keepIn K (.ref (He.ga K "is_heard")) = true := of_decide_eq_true (T.b fb12 12 12 (f := fun K => decide (PySem.W.keepIn K (.ref (He.ga K "is_heard")) = true)))
theorem fi_are_boxes (T : TX K mg base) : PySem.W.fnIn K (He.ga K "are_boxes") = true := of_decide_eq_true (T.b fb12 12 13 (f := fun K => decide (PySem.W.fnIn K (He.ga K "are_boxes") = true)))
theorem fn_are_boxes (T : TX K mg base) : PySem.W.isFn K (.ref (He.ga K "are_boxes")) = true := of_decide_eq_true (T.b fb12 12 14 (f := fun K => decide (PySem.W.isFn K (.ref (He.ga K "are_boxes")) = true)))
theorem kf_are_boxes (T : TX K mg base) : PySem.W.keepIn K (.ref (He.ga K "are_boxes")) = true := of_decide_eq_true (T.b fb12 12 15 (f := fun K => decide (PySem.W.keepIn K (.ref (He.ga K "are_boxes")) = true)))
theorem fi_rank_of (T : TX K mg base) : PySem.W.fnIn K (He.ga K "rank_of") = true := of_decide_eq_true (T.b fb13 13 0 (f := fun K => decide (PySem.W.fnIn K (He.ga K "rank_of") = true)))
theorem fn_rank_of (T : TX K mg base) : PySem.W.isFn K (.ref (He.ga K "rank_of")) = true := of_decide_eq_true (T.b fb13 13 1 (f := fun K => decide (PySem.W.isFn K (.ref (He.ga K "rank_of")) = true)))
theorem kf_rank_of (T : TX K mg base) : PySem.W.keepIn K (.ref (He.ga K "rank_of")) = true := of_decide_eq_true (T.b fb13 13 2 (f := fun K => decide (PySem.W.keepIn K (.ref (He.ga K "rank_of")) = true)))
theorem fi_boxes_text (T : TX K mg base) : PySem.W.fnIn K (He.ga K "boxes_text") = true := of_decide_eq_true (T.b fb13 13 3 (f := fun K => decide (PySem.W.fnIn K (He.ga K "boxes_text") = true)))
theorem fn_boxes_text (T : TX K mg base) : PySem.W.isFn K (.ref (He.ga K "boxes_text")) = true := of_decide_eq_true (T.b fb13 13 4 (f := fun K => decide (PySem.W.isFn K (.ref (He.ga K "boxes_text")) = true)))
theorem kf_boxes_text (T : TX K mg base) : PySem.W.keepIn K (.ref (He.ga K "boxes_text")) = true := of_decide_eq_true (T.b fb13 13 5 (f := fun K => decide (PySem.W.keepIn K (.ref (He.ga K "boxes_text")) = true)))
theorem fi_deeds_text (T : TX K mg base) : PySem.W.fnIn K (He.ga K "deeds_text") = true := of_decide_eq_true (T.b fb13 13 6 (f := fun K => decide (PySem.W.fnIn K (He.ga K "deeds_text") = true)))
theorem fn_deeds_text (T : TX K mg base) : PySem.W.isFn K (.ref (He.ga K "deeds_text")) = true := of_decide_eq_true (T.b fb13 13 7 (f := fun K => decide (PySem.W.isFn K (.ref (He.ga K "deeds_text")) = true)))
theorem kf_deeds_text (T : TX K mg base) : PySem.W.keepIn K (.ref (He.ga K "deeds_text")) = true := of_decide_eq_true (T.b fb13 13 8 (f := fun K => decide (PySem.W.keepIn K (.ref (He.ga K "deeds_text")) = true)))
theorem fi_word_at (T : TX K mg base) : PySem.W.fnIn K (He.ga K "word_at") = true := of_decide_eq_true (T.b fb13 13 9 (f := fun K => decide (PySem.W.fnIn K (He.ga K "word_at") = true)))
theorem fn_word_at (T : TX K mg base) : PySem.W.isFn K (.ref (He.ga K "word_at")) = true := of_decide_eq_true (T.b fb13 13 10 (f := fun K => decide (PySem.W.isFn K (.ref (He.ga K "word_at")) = true)))
theorem kf_word_at (T : TX K mg base) : PySem.W.keepIn K (.ref (He.ga K "word_at")) = true := of_decide_eq_true (T.b fb13 13 11 (f := fun K => decide (PySem.W.keepIn K (.ref (He.ga K "word_at")) = true)))
theorem fi_boxes_in (T : TX K mg base) : PySem.W.fnIn K (He.ga K "boxes_in") = true := of_decide_eq_true (T.b fb13 13 12 (f := fun K => decide (PySem.W.fnIn K (He.ga K "boxes_in") = true)))
theorem fn_boxes_in (T : TX K mg base) : PySem.W.isFn K (.ref (He.ga K "boxes_in")) = true := of_decide_eq_true (T.b fb13 13 13 (f := fun K => decide (PySem.W.isFn K (.ref (He.ga K "boxes_in")) = true)))
theorem kf_boxes_in (T : TX K mg base) : PySem.W.keepIn K (.ref (He.ga K "boxes_in")) = true := of_decide_eq_true (T.b fb13 13 14 (f := fun K => decide (PySem.W.keepIn K (.ref (He.ga K "boxes_in")) = true)))
theorem fi_deeds_in (T : TX K mg base) : PySem.W.fnIn K (He.ga K "deeds_in") = true := of_decide_eq_true (T.b fb13 13 15 (f := fun K => decide (PySem.W.fnIn K (He.ga K "deeds_in") = true)))
theorem fn_deeds_in (T : TX K mg base) : PySem.W.isFn K (.ref (He.ga K "deeds_in")) = true := of_decide_eq_true (T.b fb14 14 0 (f := fun K => decide (PySem.W.isFn K (.ref (He.ga K "deeds_in")) = true)))
theorem kf_deeds_in (T : TX K mg base) : PySem.W.keepIn K (.ref (He.ga K "deeds_in")) = true := of_decide_eq_true (T.b fb14 14 1 (f := fun K => decide (PySem.W.keepIn K (.ref (He.ga K "deeds_in")) = true)))
theorem fi_row_in (T : TX K mg base) : PySem.W.fnIn K (He.ga K "row_in") = true := of_decide_eq_true (T.b fb14 14 2 (f := fun K => decide (PySem.W.fnIn K (He.ga K "row_in") = true)))
theorem fn_row_in (T : TX K mg base) : PySem.W.isFn K (.ref (He.ga K "row_in")) = true := of_decide_eq_true (T.b fb14 14 3 (f := fun K => decide (PySem.W.isFn K (.ref (He.ga K "row_in")) = true)))
theorem kf_row_in (T : TX K mg base) : PySem.W.keepIn K (.ref (He.ga K "row_in")) = true := of_decide_eq_true (T.b fb14 14 4 (f := fun K => decide (PySem.W.keepIn K (.ref (He.ga K "row_in")) = true)))
theorem fi_need_rows (T : TX K mg base) : PySem.W.fnIn K (He.ga K "need_rows") = true := of_decide_eq_true (T.b fb14 14 5 (f := fun K => decide (PySem.W.fnIn K (He.ga K "need_rows") = true)))
theorem fn_need_rows (T : TX K mg base) : PySem.W.isFn K (.ref (He.ga K "need_rows")) = true := of_decide_eq_true (T.b fb14 14 6 (f := fun K => decide (PySem.W.isFn K (.ref (He.ga K "need_rows")) = true)))
theorem kf_need_rows (T : TX K mg base) : PySem.W.keepIn K (.ref (He.ga K "need_rows")) = true := of_decide_eq_true (T.b fb14 14 7 (f := fun K => decide (PySem.W.keepIn K (.ref (He.ga K "need_rows")) = true)))
theorem fi_rows_in (T : TX K mg base) : PySem.W.fnIn K (He.ga K "rows_in") = true := of_decide_eq_true (T.b fb14 14 8 (f := fun K => decide (PySem.W.fnIn K (He.ga K "rows_in") = true)))
theorem fn_rows_in (T : TX K mg base) : PySem.W.isFn K (.ref (He.ga K "rows_in")) = true := of_decide_eq_true (T.b fb14 14 9 (f := fun K => decide (PySem.W.isFn K (.ref (He.ga K "rows_in")) = true)))
theorem kf_rows_in (T : TX K mg base) : PySem.W.keepIn K (.ref (He.ga K "rows_in")) = true := of_decide_eq_true (T.b fb14 14 10 (f := fun K => decide (PySem.W.keepIn K (.ref (He.ga K "rows_in")) = true)))
theorem fi_law_pen (T : TX K mg base) : PySem.W.fnIn K (He.ga K "_law_pen") = true := of_decide_eq_true (T.b fb14 14 11 (f := fun K => decide (PySem.W.fnIn K (He.ga K "_law_pen") = true)))
theorem fn_law_pen (T : TX K mg base) : PySem.W.isFn K (.ref (He.ga K "_law_pen")) = true := of_decide_eq_true (T.b fb14 14 12 (f := fun K => decide (PySem.W.isFn K (.ref (He.ga K "_law_pen")) = true)))
theorem kf_law_pen (T : TX K mg base) : PySem.W.keepIn K (.ref (He.ga K "_law_pen")) = true := of_decide_eq_true (T.b fb14 14 13 (f := fun K => decide (PySem.W.keepIn K (.ref (He.ga K "_law_pen")) = true)))
theorem fi_law_draw (T : TX K mg base) : PySem.W.fnIn K (He.ga K "_law_draw") = true := of_decide_eq_true (T.b fb14 14 14 (f := fun K => decide (PySem.W.fnIn K (He.ga K "_law_draw") = true)))
theorem fn_law_draw (T : TX K mg base) : PySem.W.isFn K (.ref (He.ga K "_law_draw")) = true := of_decide_eq_true (T.b fb14 14 15 (f := fun K => decide (PySem.W.isFn K (.ref (He.ga K "_law_draw")) = true)))
theorem kf_law_draw (T : TX K mg base) : PySem.W.keepIn K (.ref (He.ga K "_law_draw")) = true := of_decide_eq_true (T.b fb15 15 0 (f := fun K => decide (PySem.W.keepIn K (.ref (He.ga K "_law_draw")) = true)))
theorem fi_law_pick (T : TX K mg base) : PySem.W.fnIn K (He.ga K "_law_pick") = true := of_decide_eq_true (T.b fb15 15 1 (f := fun K => decide (PySem.W.fnIn K (He.ga K "_law_pick") = true)))
theorem fn_law_pick (T : TX K mg base) : PySem.W.isFn K (.ref (He.ga K "_law_pick")) = true := of_decide_eq_true (T.b fb15 15 2 (f := fun K => decide (PySem.W.isFn K (.ref (He.ga K "_law_pick")) = true)))
theorem kf_law_pick (T : TX K mg base) : PySem.W.keepIn K (.ref (He.ga K "_law_pick")) = true := of_decide_eq_true (T.b fb15 15 3 (f := fun K => decide (PySem.W.keepIn K (.ref (He.ga K "_law_pick")) = true)))
theorem fi_law_deed (T : TX K mg base) : PySem.W.fnIn K (He.ga K "_law_deed") = true := of_decide_eq_true (T.b fb15 15 4 (f := fun K => decide (PySem.W.fnIn K (He.ga K "_law_deed") = true)))
theorem fn_law_deed (T : TX K mg base) : PySem.W.isFn K (.ref (He.ga K "_law_deed")) = true := of_decide_eq_true (T.b fb15 15 5 (f := fun K => decide (PySem.W.isFn K (.ref (He.ga K "_law_deed")) = true)))
theorem kf_law_deed (T : TX K mg base) : PySem.W.keepIn K (.ref (He.ga K "_law_deed")) = true := of_decide_eq_true (T.b fb15 15 6 (f := fun K => decide (PySem.W.keepIn K (.ref (He.ga K "_law_deed")) = true)))
theorem fi_law_row (T : TX K mg base) : PySem.W.fnIn K (He.ga K "_law_row") = true := of_decide_eq_true (T.b fb15 15 7 (f := fun K => decide (PySem.W.fnIn K (He.ga K "_law_row") = true)))
theorem fn_law_row (T : TX K mg base) : PySem.W.isFn K (.ref (He.ga K "_law_row")) = true := of_decide_eq_true (T.b fb15 15 8 (f := fun K => decide (PySem.W.isFn K (.ref (He.ga K "_law_row")) = true)))
theorem kf_law_row (T : TX K mg base) : PySem.W.keepIn K (.ref (He.ga K "_law_row")) = true := of_decide_eq_true (T.b fb15 15 9 (f := fun K => decide (PySem.W.keepIn K (.ref (He.ga K "_law_row")) = true)))
theorem fi_law_text (T : TX K mg base) : PySem.W.fnIn K (He.ga K "_law_text") = true := of_decide_eq_true (T.b fb15 15 10 (f := fun K => decide (PySem.W.fnIn K (He.ga K "_law_text") = true)))
theorem fn_law_text (T : TX K mg base) : PySem.W.isFn K (.ref (He.ga K "_law_text")) = true := of_decide_eq_true (T.b fb15 15 11 (f := fun K => decide (PySem.W.isFn K (.ref (He.ga K "_law_text")) = true)))
theorem kf_law_text (T : TX K mg base) : PySem.W.keepIn K (.ref (He.ga K "_law_text")) = true := of_decide_eq_true (T.b fb15 15 12 (f := fun K => decide (PySem.W.keepIn K (.ref (He.ga K "_law_text")) = true)))
theorem fi_law_rows (T : TX K mg base) : PySem.W.fnIn K (He.ga K "_law_rows") = true := of_decide_eq_true (T.b fb15 15 13 (f := fun K => decide (PySem.W.fnIn K (He.ga K "_law_rows") = true)))
theorem fn_law_rows (T : TX K mg base) : PySem.W.isFn K (.ref (He.ga K "_law_rows")) = true := of_decide_eq_true (T.b fb15 15 14 (f := fun K => decide (PySem.W.isFn K (.ref (He.ga K "_law_rows")) = true)))
theorem kf_law_rows (T : TX K mg base) : PySem.W.keepIn K (.ref (He.ga K "_law_rows")) = true := of_decide_eq_true (T.b fb15 15 15 (f := fun K => decide (PySem.W.keepIn K (.ref (He.ga K "_law_rows")) = true)))
theorem fi_law_made (T : TX K mg base) : PySem.W.fnIn K (He.ga K "_law_made") = true := of_decide_eq_true (T.b fb16 16 0 (f := fun K => decide (PySem.W.fnIn K (He.ga K "_law_made") = true)))
theorem fn_law_made (T : TX K mg base) : PySem.W.isFn K (.ref (He.ga K "_law_made")) = true := of_decide_eq_true (T.b fb16 16 1 (f := fun K => decide (PySem.W.isFn K (.ref (He.ga K "_law_made")) = true)))
theorem kf_law_made (T : TX K mg base) : PySem.W.keepIn K (.ref (He.ga K "_law_made")) = true := of_decide_eq_true (T.b fb16 16 2 (f := fun K => decide (PySem.W.keepIn K (.ref (He.ga K "_law_made")) = true)))
theorem fi_law_heard (T : TX K mg base) : PySem.W.fnIn K (He.ga K "_law_heard") = true := of_decide_eq_true (T.b fb16 16 3 (f := fun K => decide (PySem.W.fnIn K (He.ga K "_law_heard") = true)))
theorem fn_law_heard (T : TX K mg base) : PySem.W.isFn K (.ref (He.ga K "_law_heard")) = true := of_decide_eq_true (T.b fb16 16 4 (f := fun K => decide (PySem.W.isFn K (.ref (He.ga K "_law_heard")) = true)))
theorem kf_law_heard (T : TX K mg base) : PySem.W.keepIn K (.ref (He.ga K "_law_heard")) = true := of_decide_eq_true (T.b fb16 16 5 (f := fun K => decide (PySem.W.keepIn K (.ref (He.ga K "_law_heard")) = true)))
theorem fi_law_tells (T : TX K mg base) : PySem.W.fnIn K (He.ga K "_law_tells") = true := of_decide_eq_true (T.b fb16 16 6 (f := fun K => decide (PySem.W.fnIn K (He.ga K "_law_tells") = true)))
theorem fn_law_tells (T : TX K mg base) : PySem.W.isFn K (.ref (He.ga K "_law_tells")) = true := of_decide_eq_true (T.b fb16 16 7 (f := fun K => decide (PySem.W.isFn K (.ref (He.ga K "_law_tells")) = true)))
theorem kf_law_tells (T : TX K mg base) : PySem.W.keepIn K (.ref (He.ga K "_law_tells")) = true := of_decide_eq_true (T.b fb16 16 8 (f := fun K => decide (PySem.W.keepIn K (.ref (He.ga K "_law_tells")) = true)))
theorem fi_law_states_right (T : TX K mg base) : PySem.W.fnIn K (He.ga K "_law_states_right") = true := of_decide_eq_true (T.b fb16 16 9 (f := fun K => decide (PySem.W.fnIn K (He.ga K "_law_states_right") = true)))
theorem fn_law_states_right (T : TX K mg base) : PySem.W.isFn K (.ref (He.ga K "_law_states_right")) = true := of_decide_eq_true (T.b fb16 16 10 (f := fun K => decide (PySem.W.isFn K (.ref (He.ga K "_law_states_right")) = true)))
theorem kf_law_states_right (T : TX K mg base) : PySem.W.keepIn K (.ref (He.ga K "_law_states_right")) = true := of_decide_eq_true (T.b fb16 16 11 (f := fun K => decide (PySem.W.keepIn K (.ref (He.ga K "_law_states_right")) = true)))
theorem fi_law (T : TX K mg base) : PySem.W.fnIn K (He.ga K "law") = true := of_decide_eq_true (T.b fb16 16 12 (f := fun K => decide (PySem.W.fnIn K (He.ga K "law") = true)))
theorem fn_law (T : TX K mg base) : PySem.W.isFn K (.ref (He.ga K "law")) = true := of_decide_eq_true (T.b fb16 16 13 (f := fun K => decide (PySem.W.isFn K (.ref (He.ga K "law")) = true)))
theorem kf_law (T : TX K mg base) : PySem.W.keepIn K (.ref (He.ga K "law")) = true := of_decide_eq_true (T.b fb16 16 14 (f := fun K => decide (PySem.W.keepIn K (.ref (He.ga K "law")) = true)))
theorem fi_NoRow_init (T : TX K mg base) : PySem.W.fnIn K (He.ma K (He.ga K "NoRow") "__init__") = true := of_decide_eq_true (T.b fb16 16 15 (f := fun K => decide (PySem.W.fnIn K (He.ma K (He.ga K "NoRow") "__init__") = true)))
theorem fn_NoRow_init (T : TX K mg base) : PySem.W.isFn K (.ref (He.ma K (He.ga K "NoRow") "__init__")) = true := of_decide_eq_true (T.b fb17 17 0 (f := fun K => decide (PySem.W.isFn K (.ref (He.ma K (He.ga K "NoRow") "__init__")) = true)))
theorem kf_NoRow_init (T : TX K mg base) : PySem.W.keepIn K (.ref (He.ma K (He.ga K "NoRow") "__init__")) = true := of_decide_eq_true (T.b fb17 17 1 (f := fun K => decide (PySem.W.keepIn K (.ref (He.ma K (He.ga K "NoRow") "__init__")) = true)))
theorem fi_Deed_is_for (T : TX K mg base) : PySem.W.fnIn K (He.ma K (He.ga K "Deed") "is_for") = true := of_decide_eq_true (T.b fb17 17 2 (f := fun K => decide (PySem.W.fnIn K (He.ma K (He.ga K "Deed") "is_for") = true)))
theorem fn_Deed_is_for (T : TX K mg base) : PySem.W.isFn K (.ref (He.ma K (He.ga K "Deed") "is_for")) = true := of_decide_eq_true (T.b fb17 17 3 (f := fun K => decide (PySem.W.isFn K (.ref (He.ma K (He.ga K "Deed") "is_for")) = true)))
theorem kf_Deed_is_for (T : TX K mg base) : PySem.W.keepIn K (.ref (He.ma K (He.ga K "Deed") "is_for")) = true := of_decide_eq_true (T.b fb17 17 4 (f := fun K => decide (PySem.W.keepIn K (.ref (He.ma K (He.ga K "Deed") "is_for")) = true)))
theorem fi_BoxDeed_init (T : TX K mg base) : PySem.W.fnIn K (He.ma K (He.ga K "BoxDeed") "__init__") = true := of_decide_eq_true (T.b fb17 17 5 (f := fun K => decide (PySem.W.fnIn K (He.ma K (He.ga K "BoxDeed") "__init__") = true)))
theorem fn_BoxDeed_init (T : TX K mg base) : PySem.W.isFn K (.ref (He.ma K (He.ga K "BoxDeed") "__init__")) = true := of_decide_eq_true (T.b fb17 17 6 (f := fun K => decide (PySem.W.isFn K (.ref (He.ma K (He.ga K "BoxDeed") "__init__")) = true)))
theorem kf_BoxDeed_init (T : TX K mg base) : PySem.W.keepIn K (.ref (He.ma K (He.ga K "BoxDeed") "__init__")) = true := of_decide_eq_true (T.b fb17 17 7 (f := fun K => decide (PySem.W.keepIn K (.ref (He.ma K (He.ga K "BoxDeed") "__init__")) = true)))
theorem fi_BoxDeed_str (T : TX K mg base) : PySem.W.fnIn K (He.ma K (He.ga K "BoxDeed") "__str__") = true := of_decide_eq_true (T.b fb17 17 8 (f := fun K => decide (PySem.W.fnIn K (He.ma K (He.ga K "BoxDeed") "__str__") = true)))
theorem fn_BoxDeed_str (T : TX K mg base) : PySem.W.isFn K (.ref (He.ma K (He.ga K "BoxDeed") "__str__")) = true := of_decide_eq_true (T.b fb17 17 9 (f := fun K => decide (PySem.W.isFn K (.ref (He.ma K (He.ga K "BoxDeed") "__str__")) = true)))
theorem kf_BoxDeed_str (T : TX K mg base) : PySem.W.keepIn K (.ref (He.ma K (He.ga K "BoxDeed") "__str__")) = true := of_decide_eq_true (T.b fb17 17 10 (f := fun K => decide (PySem.W.keepIn K (.ref (He.ma K (He.ga K "BoxDeed") "__str__")) = true)))
theorem fi_Take_verb (T : TX K mg base) : PySem.W.fnIn K (He.ma K (He.ga K "Take") "verb") = true := of_decide_eq_true (T.b fb17 17 11 (f := fun K => decide (PySem.W.fnIn K (He.ma K (He.ga K "Take") "verb") = true)))
theorem fn_Take_verb (T : TX K mg base) : PySem.W.isFn K (.ref (He.ma K (He.ga K "Take") "verb")) = true := of_decide_eq_true (T.b fb17 17 12 (f := fun K => decide (PySem.W.isFn K (.ref (He.ma K (He.ga K "Take") "verb")) = true)))
theorem kf_Take_verb (T : TX K mg base) : PySem.W.keepIn K (.ref (He.ma K (He.ga K "Take") "verb")) = true := of_decide_eq_true (T.b fb17 17 13 (f := fun K => decide (PySem.W.keepIn K (.ref (He.ma K (He.ga K "Take") "verb")) = true)))
theorem fi_Put_verb (T : TX K mg base) : PySem.W.fnIn K (He.ma K (He.ga K "Put") "verb") = true := of_decide_eq_true (T.b fb17 17 14 (f := fun K => decide (PySem.W.fnIn K (He.ma K (He.ga K "Put") "verb") = true)))
theorem fn_Put_verb (T : TX K mg base) : PySem.W.isFn K (.ref (He.ma K (He.ga K "Put") "verb")) = true := of_decide_eq_true (T.b fb17 17 15 (f := fun K => decide (PySem.W.isFn K (.ref (He.ma K (He.ga K "Put") "verb")) = true)))
theorem kf_Put_verb (T : TX K mg base) : PySem.W.keepIn K (.ref (He.ma K (He.ga K "Put") "verb")) = true := of_decide_eq_true (T.b fb18 18 0 (f := fun K => decide (PySem.W.keepIn K (.ref (He.ma K (He.ga K "Put") "verb")) = true)))
theorem fi_Out_verb (T : TX K mg base) : PySem.W.fnIn K (He.ma K (He.ga K "Out") "verb") = true := of_decide_eq_true (T.b fb18 18 1 (f := fun K => decide (PySem.W.fnIn K (He.ma K (He.ga K "Out") "verb") = true)))
theorem fn_Out_verb (T : TX K mg base) : PySem.W.isFn K (.ref (He.ma K (He.ga K "Out") "verb")) = true := of_decide_eq_true (T.b fb18 18 2 (f := fun K => decide (PySem.W.isFn K (.ref (He.ma K (He.ga K "Out") "verb")) = true)))
theorem kf_Out_verb (T : TX K mg base) : PySem.W.keepIn K (.ref (He.ma K (He.ga K "Out") "verb")) = true := of_decide_eq_true (T.b fb18 18 3 (f := fun K => decide (PySem.W.keepIn K (.ref (He.ma K (He.ga K "Out") "verb")) = true)))
theorem fi_Clear_verb (T : TX K mg base) : PySem.W.fnIn K (He.ma K (He.ga K "Clear") "verb") = true := of_decide_eq_true (T.b fb18 18 4 (f := fun K => decide (PySem.W.fnIn K (He.ma K (He.ga K "Clear") "verb") = true)))
theorem fn_Clear_verb (T : TX K mg base) : PySem.W.isFn K (.ref (He.ma K (He.ga K "Clear") "verb")) = true := of_decide_eq_true (T.b fb18 18 5 (f := fun K => decide (PySem.W.isFn K (.ref (He.ma K (He.ga K "Clear") "verb")) = true)))
theorem kf_Clear_verb (T : TX K mg base) : PySem.W.keepIn K (.ref (He.ma K (He.ga K "Clear") "verb")) = true := of_decide_eq_true (T.b fb18 18 6 (f := fun K => decide (PySem.W.keepIn K (.ref (He.ma K (He.ga K "Clear") "verb")) = true)))
theorem fi_Send_init (T : TX K mg base) : PySem.W.fnIn K (He.ma K (He.ga K "Send") "__init__") = true := of_decide_eq_true (T.b fb18 18 7 (f := fun K => decide (PySem.W.fnIn K (He.ma K (He.ga K "Send") "__init__") = true)))
theorem fn_Send_init (T : TX K mg base) : PySem.W.isFn K (.ref (He.ma K (He.ga K "Send") "__init__")) = true := of_decide_eq_true (T.b fb18 18 8 (f := fun K => decide (PySem.W.isFn K (.ref (He.ma K (He.ga K "Send") "__init__")) = true)))
theorem kf_Send_init (T : TX K mg base) : PySem.W.keepIn K (.ref (He.ma K (He.ga K "Send") "__init__")) = true := of_decide_eq_true (T.b fb18 18 9 (f := fun K => decide (PySem.W.keepIn K (.ref (He.ma K (He.ga K "Send") "__init__")) = true)))
theorem fi_Send_verb (T : TX K mg base) : PySem.W.fnIn K (He.ma K (He.ga K "Send") "verb") = true := of_decide_eq_true (T.b fb18 18 10 (f := fun K => decide (PySem.W.fnIn K (He.ma K (He.ga K "Send") "verb") = true)))
theorem fn_Send_verb (T : TX K mg base) : PySem.W.isFn K (.ref (He.ma K (He.ga K "Send") "verb")) = true := of_decide_eq_true (T.b fb18 18 11 (f := fun K => decide (PySem.W.isFn K (.ref (He.ma K (He.ga K "Send") "verb")) = true)))
theorem kf_Send_verb (T : TX K mg base) : PySem.W.keepIn K (.ref (He.ma K (He.ga K "Send") "verb")) = true := of_decide_eq_true (T.b fb18 18 12 (f := fun K => decide (PySem.W.keepIn K (.ref (He.ma K (He.ga K "Send") "verb")) = true)))
theorem fi_Send_str (T : TX K mg base) : PySem.W.fnIn K (He.ma K (He.ga K "Send") "__str__") = true := of_decide_eq_true (T.b fb18 18 13 (f := fun K => decide (PySem.W.fnIn K (He.ma K (He.ga K "Send") "__str__") = true)))
theorem fn_Send_str (T : TX K mg base) : PySem.W.isFn K (.ref (He.ma K (He.ga K "Send") "__str__")) = true := of_decide_eq_true (T.b fb18 18 14 (f := fun K => decide (PySem.W.isFn K (.ref (He.ma K (He.ga K "Send") "__str__")) = true)))
theorem kf_Send_str (T : TX K mg base) : PySem.W.keepIn K (.ref (He.ma K (He.ga K "Send") "__str__")) = true := of_decide_eq_true (T.b fb18 18 15 (f := fun K => decide (PySem.W.keepIn K (.ref (He.ma K (He.ga K "Send") "__str__")) = true)))
theorem fi_Move_init (T : TX K mg base) : PySem.W.fnIn K (He.ma K (He.ga K "Move") "__init__") = true := of_decide_eq_true (T.b fb19 19 0 (f := fun K => decide (PySem.W.fnIn K (He.ma K (He.ga K "Move") "__init__") = true)))
theorem fn_Move_init (T : TX K mg base) : PySem.W.isFn K (.ref (He.ma K (He.ga K "Move") "__init__")) = true := of_decide_eq_true (T.b fb19 19 1 (f := fun K => decide (PySem.W.isFn K (.ref (He.ma K (He.ga K "Move") "__init__")) = true)))
theorem kf_Move_init (T : TX K mg base) : PySem.W.keepIn K (.ref (He.ma K (He.ga K "Move") "__init__")) = true := of_decide_eq_true (T.b fb19 19 2 (f := fun K => decide (PySem.W.keepIn K (.ref (He.ma K (He.ga K "Move") "__init__")) = true)))
theorem fi_Move_verb (T : TX K mg base) : PySem.W.fnIn K (He.ma K (He.ga K "Move") "verb") = true := of_decide_eq_true (T.b fb19 19 3 (f := fun K => decide (PySem.W.fnIn K (He.ma K (He.ga K "Move") "verb") = true)))
theorem fn_Move_verb (T : TX K mg base) : PySem.W.isFn K (.ref (He.ma K (He.ga K "Move") "verb")) = true := of_decide_eq_true (T.b fb19 19 4 (f := fun K => decide (PySem.W.isFn K (.ref (He.ma K (He.ga K "Move") "verb")) = true)))
theorem kf_Move_verb (T : TX K mg base) : PySem.W.keepIn K (.ref (He.ma K (He.ga K "Move") "verb")) = true := of_decide_eq_true (T.b fb19 19 5 (f := fun K => decide (PySem.W.keepIn K (.ref (He.ma K (He.ga K "Move") "verb")) = true)))
theorem fi_Move_str (T : TX K mg base) : PySem.W.fnIn K (He.ma K (He.ga K "Move") "__str__") = true := of_decide_eq_true (T.b fb19 19 6 (f := fun K => decide (PySem.W.fnIn K (He.ma K (He.ga K "Move") "__str__") = true)))
theorem fn_Move_str (T : TX K mg base) : PySem.W.isFn K (.ref (He.ma K (He.ga K "Move") "__str__")) = true := of_decide_eq_true (T.b fb19 19 7 (f := fun K => decide (PySem.W.isFn K (.ref (He.ma K (He.ga K "Move") "__str__")) = true)))
theorem kf_Move_str (T : TX K mg base) : PySem.W.keepIn K (.ref (He.ma K (He.ga K "Move") "__str__")) = true := of_decide_eq_true (T.b fb19 19 8 (f := fun K => decide (PySem.W.keepIn K (.ref (He.ma K (He.ga K "Move") "__str__")) = true)))
theorem fi_Answer_init (T : TX K mg base) : PySem.W.fnIn K (He.ma K (He.ga K "Answer") "__init__") = true := of_decide_eq_true (T.b fb19 19 9 (f := fun K => decide (PySem.W.fnIn K (He.ma K (He.ga K "Answer") "__init__") = true)))
theorem fn_Answer_init (T : TX K mg base) : PySem.W.isFn K (.ref (He.ma K (He.ga K "Answer") "__init__")) = true := of_decide_eq_true (T.b fb19 19 10 (f := fun K => decide (PySem.W.isFn K (.ref (He.ma K (He.ga K "Answer") "__init__")) = true)))
theorem kf_Answer_init (T : TX K mg base) : PySem.W.keepIn K (.ref (He.ma K (He.ga K "Answer") "__init__")) = true := of_decide_eq_true (T.b fb19 19 11 (f := fun K => decide (PySem.W.keepIn K (.ref (He.ma K (He.ga K "Answer") "__init__")) = true)))
theorem fi_Answer_verb (T : TX K mg base) : PySem.W.fnIn K (He.ma K (He.ga K "Answer") "verb") = true := of_decide_eq_true (T.b fb19 19 12 (f := fun K => decide (PySem.W.fnIn K (He.ma K (He.ga K "Answer") "verb") = true)))
theorem fn_Answer_verb (T : TX K mg base) : PySem.W.isFn K (.ref (He.ma K (He.ga K "Answer") "verb")) = true := of_decide_eq_true (T.b fb19 19 13 (f := fun K => decide (PySem.W.isFn K (.ref (He.ma K (He.ga K "Answer") "verb")) = true)))
theorem kf_Answer_verb (T : TX K mg base) : PySem.W.keepIn K (.ref (He.ma K (He.ga K "Answer") "verb")) = true := of_decide_eq_true (T.b fb19 19 14 (f := fun K => decide (PySem.W.keepIn K (.ref (He.ma K (He.ga K "Answer") "verb")) = true)))
theorem fi_Answer_str (T : TX K mg base) : PySem.W.fnIn K (He.ma K (He.ga K "Answer") "__str__") = true := of_decide_eq_true (T.b fb19 19 15 (f := fun K => decide (PySem.W.fnIn K (He.ma K (He.ga K "Answer") "__str__") = true)))
theorem fn_Answer_str (T : TX K mg base) : PySem.W.isFn K (.ref (He.ma K (He.ga K "Answer") "__str__")) = true := of_decide_eq_true (T.b fb20 20 0 (f := fun K => decide (PySem.W.isFn K (.ref (He.ma K (He.ga K "Answer") "__str__")) = true)))
theorem kf_Answer_str (T : TX K mg base) : PySem.W.keepIn K (.ref (He.ma K (He.ga K "Answer") "__str__")) = true := of_decide_eq_true (T.b fb20 20 1 (f := fun K => decide (PySem.W.keepIn K (.ref (He.ma K (He.ga K "Answer") "__str__")) = true)))
theorem fi_Row_init (T : TX K mg base) : PySem.W.fnIn K (He.ma K (He.ga K "Row") "__init__") = true := of_decide_eq_true (T.b fb20 20 2 (f := fun K => decide (PySem.W.fnIn K (He.ma K (He.ga K "Row") "__init__") = true)))
theorem fn_Row_init (T : TX K mg base) : PySem.W.isFn K (.ref (He.ma K (He.ga K "Row") "__init__")) = true := of_decide_eq_true (T.b fb20 20 3 (f := fun K => decide (PySem.W.isFn K (.ref (He.ma K (He.ga K "Row") "__init__")) = true)))
theorem kf_Row_init (T : TX K mg base) : PySem.W.keepIn K (.ref (He.ma K (He.ga K "Row") "__init__")) = true := of_decide_eq_true (T.b fb20 20 4 (f := fun K => decide (PySem.W.keepIn K (.ref (He.ma K (He.ga K "Row") "__init__")) = true)))
theorem fi_Row_read (T : TX K mg base) : PySem.W.fnIn K (cmA K (He.ga K "Row") "read") = true := of_decide_eq_true (T.b fb20 20 5 (f := fun K => decide (PySem.W.fnIn K (cmA K (He.ga K "Row") "read") = true)))
theorem fn_Row_read (T : TX K mg base) : PySem.W.isFn K (.ref (cmA K (He.ga K "Row") "read")) = true := of_decide_eq_true (T.b fb20 20 6 (f := fun K => decide (PySem.W.isFn K (.ref (cmA K (He.ga K "Row") "read")) = true)))
theorem kf_Row_read (T : TX K mg base) : PySem.W.keepIn K (.ref (cmA K (He.ga K "Row") "read")) = true := of_decide_eq_true (T.b fb20 20 7 (f := fun K => decide (PySem.W.keepIn K (.ref (cmA K (He.ga K "Row") "read")) = true)))
theorem fi_Row_sides (T : TX K mg base) : PySem.W.fnIn K (He.ma K (He.ga K "Row") "sides") = true := of_decide_eq_true (T.b fb20 20 8 (f := fun K => decide (PySem.W.fnIn K (He.ma K (He.ga K "Row") "sides") = true)))
theorem fn_Row_sides (T : TX K mg base) : PySem.W.isFn K (.ref (He.ma K (He.ga K "Row") "sides")) = true := of_decide_eq_true (T.b fb20 20 9 (f := fun K => decide (PySem.W.isFn K (.ref (He.ma K (He.ga K "Row") "sides")) = true)))
theorem kf_Row_sides (T : TX K mg base) : PySem.W.keepIn K (.ref (He.ma K (He.ga K "Row") "sides")) = true := of_decide_eq_true (T.b fb20 20 10 (f := fun K => decide (PySem.W.keepIn K (.ref (He.ma K (He.ga K "Row") "sides")) = true)))
theorem fi_Row_eq (T : TX K mg base) : PySem.W.fnIn K (He.ma K (He.ga K "Row") "__eq__") = true := of_decide_eq_true (T.b fb20 20 11 (f := fun K => decide (PySem.W.fnIn K (He.ma K (He.ga K "Row") "__eq__") = true)))
theorem fn_Row_eq (T : TX K mg base) : PySem.W.isFn K (.ref (He.ma K (He.ga K "Row") "__eq__")) = true := of_decide_eq_true (T.b fb20 20 12 (f := fun K => decide (PySem.W.isFn K (.ref (He.ma K (He.ga K "Row") "__eq__")) = true)))
theorem kf_Row_eq (T : TX K mg base) : PySem.W.keepIn K (.ref (He.ma K (He.ga K "Row") "__eq__")) = true := of_decide_eq_true (T.b fb20 20 13 (f := fun K => decide (PySem.W.keepIn K (.ref (He.ma K (He.ga K "Row") "__eq__")) = true)))
theorem fi_Row_str (T : TX K mg base) : PySem.W.fnIn K (He.ma K (He.ga K "Row") "__str__") = true := of_decide_eq_true (T.b fb20 20 14 (f := fun K => decide (PySem.W.fnIn K (He.ma K (He.ga K "Row") "__str__") = true)))
theorem fn_Row_str (T : TX K mg base) : PySem.W.isFn K (.ref (He.ma K (He.ga K "Row") "__str__")) = true := of_decide_eq_true (T.b fb20 20 15 (f := fun K => decide (PySem.W.isFn K (.ref (He.ma K (He.ga K "Row") "__str__")) = true)))
theorem kf_Row_str (T : TX K mg base) : PySem.W.keepIn K (.ref (He.ma K (He.ga K "Row") "__str__")) = true := of_decide_eq_true (T.b fb21 21 0 (f := fun K => decide (PySem.W.keepIn K (.ref (He.ma K (He.ga K "Row") "__str__")) = true)))
theorem fi_End_init (T : TX K mg base) : PySem.W.fnIn K (He.ma K (He.ga K "End") "__init__") = true := of_decide_eq_true (T.b fb21 21 1 (f := fun K => decide (PySem.W.fnIn K (He.ma K (He.ga K "End") "__init__") = true)))
theorem fn_End_init (T : TX K mg base) : PySem.W.isFn K (.ref (He.ma K (He.ga K "End") "__init__")) = true := of_decide_eq_true (T.b fb21 21 2 (f := fun K => decide (PySem.W.isFn K (.ref (He.ma K (He.ga K "End") "__init__")) = true)))
theorem kf_End_init (T : TX K mg base) : PySem.W.keepIn K (.ref (He.ma K (He.ga K "End") "__init__")) = true := of_decide_eq_true (T.b fb21 21 3 (f := fun K => decide (PySem.W.keepIn K (.ref (He.ma K (He.ga K "End") "__init__")) = true)))
theorem fi_End_len (T : TX K mg base) : PySem.W.fnIn K (He.ma K (He.ga K "End") "__len__") = true := of_decide_eq_true (T.b fb21 21 4 (f := fun K => decide (PySem.W.fnIn K (He.ma K (He.ga K "End") "__len__") = true)))
theorem fn_End_len (T : TX K mg base) : PySem.W.isFn K (.ref (He.ma K (He.ga K "End") "__len__")) = true := of_decide_eq_true (T.b fb21 21 5 (f := fun K => decide (PySem.W.isFn K (.ref (He.ma K (He.ga K "End") "__len__")) = true)))
theorem kf_End_len (T : TX K mg base) : PySem.W.keepIn K (.ref (He.ma K (He.ga K "End") "__len__")) = true := of_decide_eq_true (T.b fb21 21 6 (f := fun K => decide (PySem.W.keepIn K (.ref (He.ma K (He.ga K "End") "__len__")) = true)))
theorem fi_End_iter (T : TX K mg base) : PySem.W.fnIn K (He.ma K (He.ga K "End") "__iter__") = true := of_decide_eq_true (T.b fb21 21 7 (f := fun K => decide (PySem.W.fnIn K (He.ma K (He.ga K "End") "__iter__") = true)))
theorem fn_End_iter (T : TX K mg base) : PySem.W.isFn K (.ref (He.ma K (He.ga K "End") "__iter__")) = true := of_decide_eq_true (T.b fb21 21 8 (f := fun K => decide (PySem.W.isFn K (.ref (He.ma K (He.ga K "End") "__iter__")) = true)))
theorem kf_End_iter (T : TX K mg base) : PySem.W.keepIn K (.ref (He.ma K (He.ga K "End") "__iter__")) = true := of_decide_eq_true (T.b fb21 21 9 (f := fun K => decide (PySem.W.keepIn K (.ref (He.ma K (He.ga K "End") "__iter__")) = true)))
theorem fi_End_getitem (T : TX K mg base) : PySem.W.fnIn K (He.ma K (He.ga K "End") "__getitem__") = true := of_decide_eq_true (T.b fb21 21 10 (f := fun K => decide (PySem.W.fnIn K (He.ma K (He.ga K "End") "__getitem__") = true)))
theorem fn_End_getitem (T : TX K mg base) : PySem.W.isFn K (.ref (He.ma K (He.ga K "End") "__getitem__")) = true := of_decide_eq_true (T.b fb21 21 11 (f := fun K => decide (PySem.W.isFn K (.ref (He.ma K (He.ga K "End") "__getitem__")) = true)))
theorem kf_End_getitem (T : TX K mg base) : PySem.W.keepIn K (.ref (He.ma K (He.ga K "End") "__getitem__")) = true := of_decide_eq_true (T.b fb21 21 12 (f := fun K => decide (PySem.W.keepIn K (.ref (He.ma K (He.ga K "End") "__getitem__")) = true)))
theorem fi_End_contains (T : TX K mg base) : PySem.W.fnIn K (He.ma K (He.ga K "End") "__contains__") = true := of_decide_eq_true (T.b fb21 21 13 (f := fun K => decide (PySem.W.fnIn K (He.ma K (He.ga K "End") "__contains__") = true)))
theorem fn_End_contains (T : TX K mg base) : PySem.W.isFn K (.ref (He.ma K (He.ga K "End") "__contains__")) = true := of_decide_eq_true (T.b fb21 21 14 (f := fun K => decide (PySem.W.isFn K (.ref (He.ma K (He.ga K "End") "__contains__")) = true)))
theorem kf_End_contains (T : TX K mg base) : PySem.W.keepIn K (.ref (He.ma K (He.ga K "End") "__contains__")) = true := of_decide_eq_true (T.b fb21 21 15 (f := fun K => decide (PySem.W.keepIn K (.ref (He.ma K (He.ga K "End") "__contains__")) = true)))
theorem fi_End_at_state (T : TX K mg base) : PySem.W.fnIn K (He.ma K (He.ga K "End") "at_state") = true := of_decide_eq_true (T.b fb22 22 0 (f := fun K => decide (PySem.W.fnIn K (He.ma K (He.ga K "End") "at_state") = true)))
theorem fn_End_at_state (T : TX K mg base) : PySem.W.isFn K (.ref (He.ma K (He.ga K "End") "at_state")) = true := of_decide_eq_true (T.b fb22 22 1 (f := fun K => decide (PySem.W.isFn K (.ref (He.ma K (He.ga K "End") "at_state")) = true)))
theorem kf_End_at_state (T : TX K mg base) : PySem.W.keepIn K (.ref (He.ma K (He.ga K "End") "at_state")) = true := of_decide_eq_true (T.b fb22 22 2 (f := fun K => decide (PySem.W.keepIn K (.ref (He.ma K (He.ga K "End") "at_state")) = true)))
theorem fi_End_eq (T : TX K mg base) : PySem.W.fnIn K (He.ma K (He.ga K "End") "__eq__") = true := of_decide_eq_true (T.b fb22 22 3 (f := fun K => decide (PySem.W.fnIn K (He.ma K (He.ga K "End") "__eq__") = true)))
theorem fn_End_eq (T : TX K mg base) : PySem.W.isFn K (.ref (He.ma K (He.ga K "End") "__eq__")) = true := of_decide_eq_true (T.b fb22 22 4 (f := fun K => decide (PySem.W.isFn K (.ref (He.ma K (He.ga K "End") "__eq__")) = true)))
theorem kf_End_eq (T : TX K mg base) : PySem.W.keepIn K (.ref (He.ma K (He.ga K "End") "__eq__")) = true := of_decide_eq_true (T.b fb22 22 5 (f := fun K => decide (PySem.W.keepIn K (.ref (He.ma K (He.ga K "End") "__eq__")) = true)))
theorem fi_Sender_init (T : TX K mg base) : PySem.W.fnIn K (He.ma K (He.ga K "Sender") "__init__") = true := of_decide_eq_true (T.b fb22 22 6 (f := fun K => decide (PySem.W.fnIn K (He.ma K (He.ga K "Sender") "__init__") = true)))
theorem fn_Sender_init (T : TX K mg base) : PySem.W.isFn K (.ref (He.ma K (He.ga K "Sender") "__init__")) = true := of_decide_eq_true (T.b fb22 22 7 (f := fun K => decide (PySem.W.isFn K (.ref (He.ma K (He.ga K "Sender") "__init__")) = true)))
theorem kf_Sender_init (T : TX K mg base) : PySem.W.keepIn K (.ref (He.ma K (He.ga K "Sender") "__init__")) = true := of_decide_eq_true (T.b fb22 22 8 (f := fun K => decide (PySem.W.keepIn K (.ref (He.ma K (He.ga K "Sender") "__init__")) = true)))
theorem fi_Sender_read (T : TX K mg base) : PySem.W.fnIn K (cmA K (He.ga K "Sender") "read") = true := of_decide_eq_true (T.b fb22 22 9 (f := fun K => decide (PySem.W.fnIn K (cmA K (He.ga K "Sender") "read") = true)))
theorem fn_Sender_read (T : TX K mg base) : PySem.W.isFn K (.ref (cmA K (He.ga K "Sender") "read")) = true := of_decide_eq_true (T.b fb22 22 10 (f := fun K => decide (PySem.W.isFn K (.ref (cmA K (He.ga K "Sender") "read")) = true)))
theorem kf_Sender_read (T : TX K mg base) : PySem.W.keepIn K (.ref (cmA K (He.ga K "Sender") "read")) = true := of_decide_eq_true (T.b fb22 22 11 (f := fun K => decide (PySem.W.keepIn K (.ref (cmA K (He.ga K "Sender") "read")) = true)))
theorem fi_Receiver_init (T : TX K mg base) : PySem.W.fnIn K (He.ma K (He.ga K "Receiver") "__init__") = true := of_decide_eq_true (T.b fb22 22 12 (f := fun K => decide (PySem.W.fnIn K (He.ma K (He.ga K "Receiver") "__init__") = true)))
theorem fn_Receiver_init (T : TX K mg base) : PySem.W.isFn K (.ref (He.ma K (He.ga K "Receiver") "__init__")) = true := of_decide_eq_true (T.b fb22 22 13 (f := fun K => decide (PySem.W.isFn K (.ref (He.ma K (He.ga K "Receiver") "__init__")) = true)))
theorem kf_Receiver_init (T : TX K mg base) : PySem.W.keepIn K (.ref (He.ma K (He.ga K "Receiver") "__init__")) = true := of_decide_eq_true (T.b fb22 22 14 (f := fun K => decide (PySem.W.keepIn K (.ref (He.ma K (He.ga K "Receiver") "__init__")) = true)))
theorem fi_Receiver_read (T : TX K mg base) : PySem.W.fnIn K (cmA K (He.ga K "Receiver") "read") = true := of_decide_eq_true (T.b fb22 22 15 (f := fun K => decide (PySem.W.fnIn K (cmA K (He.ga K "Receiver") "read") = true)))
theorem fn_Receiver_read (T : TX K mg base) : PySem.W.isFn K (.ref (cmA K (He.ga K "Receiver") "read")) = true := of_decide_eq_true (T.b fb23 23 0 (f := fun K => decide (PySem.W.isFn K (.ref (cmA K (He.ga K "Receiver") "read")) = true)))
theorem kf_Receiver_read (T : TX K mg base) : PySem.W.keepIn K (.ref (cmA K (He.ga K "Receiver") "read")) = true := of_decide_eq_true (T.b fb23 23 1 (f := fun K => decide (PySem.W.keepIn K (.ref (cmA K (He.ga K "Receiver") "read")) = true)))
theorem kit_Take_Deed (T : TX K mg base) : PySem.W.kitOne K (.ref (He.ga K "Take")) (.ref (He.ga K "Deed")) = some true := of_decide_eq_true (T.b fb23 23 2 (f := fun K => decide (PySem.W.kitOne K (.ref (He.ga K "Take")) (.ref (He.ga K "Deed")) = some true)))
theorem kit_Take_Take (T : TX K mg base) : PySem.W.kitOne K (.ref (He.ga K "Take")) (.ref (He.ga K "Take")) = some true := of_decide_eq_true (T.b fb23 23 3 (f := fun K => decide (PySem.W.kitOne K (.ref (He.ga K "Take")) (.ref (He.ga K "Take")) = some true)))
theorem kit_Take_Put (T : TX K mg base) : PySem.W.kitOne K (.ref (He.ga K "Take")) (.ref (He.ga K "Put")) = some false := of_decide_eq_true (T.b fb23 23 4 (f := fun K => decide (PySem.W.kitOne K (.ref (He.ga K "Take")) (.ref (He.ga K "Put")) = some false)))
theorem kit_Put_Deed (T : TX K mg base) : PySem.W.kitOne K (.ref (He.ga K "Put")) (.ref (He.ga K "Deed")) = some true := of_decide_eq_true (T.b fb23 23 5 (f := fun K => decide (PySem.W.kitOne K (.ref (He.ga K "Put")) (.ref (He.ga K "Deed")) = some true)))
theorem kit_Put_Take (T : TX K mg base) : PySem.W.kitOne K (.ref (He.ga K "Put")) (.ref (He.ga K "Take")) = some false := of_decide_eq_true (T.b fb23 23 6 (f := fun K => decide (PySem.W.kitOne K (.ref (He.ga K "Put")) (.ref (He.ga K "Take")) = some false)))
theorem kit_Put_Put (T : TX K mg base) : PySem.W.kitOne K (.ref (He.ga K "Put")) (.ref (He.ga K "Put")) = some true := of_decide_eq_true (T.b fb23 23 7 (f := fun K => decide (PySem.W.kitOne K (.ref (He.ga K "Put")) (.ref (He.ga K "Put")) = some true)))
theorem kit_Out_Deed (T : TX K mg base) : PySem.W.kitOne K (.ref (He.ga K "Out")) (.ref (He.ga K "Deed")) = some true := of_decide_eq_true (T.b fb23 23 8 (f := fun K => decide (PySem.W.kitOne K (.ref (He.ga K "Out")) (.ref (He.ga K "Deed")) = some true)))
theorem kit_Out_Take (T : TX K mg base) : PySem.W.kitOne K (.ref (He.ga K "Out")) (.ref (He.ga K "Take")) = some false := of_decide_eq_true (T.b fb23 23 9 (f := fun K => decide (PySem.W.kitOne K (.ref (He.ga K "Out")) (.ref (He.ga K "Take")) = some false)))
theorem kit_Out_Put (T : TX K mg base) : PySem.W.kitOne K (.ref (He.ga K "Out")) (.ref (He.ga K "Put")) = some false := of_decide_eq_true (T.b fb23 23 10 (f := fun K => decide (PySem.W.kitOne K (.ref (He.ga K "Out")) (.ref (He.ga K "Put")) = some false)))
theorem kit_Clear_Deed (T : TX K mg base) : PySem.W.kitOne K (.ref (He.ga K "Clear")) (.ref (He.ga K "Deed")) = some true := of_decide_eq_true (T.b fb23 23 11 (f := fun K => decide (PySem.W.kitOne K (.ref (He.ga K "Clear")) (.ref (He.ga K "Deed")) = some true)))
theorem kit_Clear_Take (T : TX K mg base) : PySem.W.kitOne K (.ref (He.ga K "Clear")) (.ref (He.ga K "Take")) = some false := of_decide_eq_true (T.b fb23 23 12 (f := fun K => decide (PySem.W.kitOne K (.ref (He.ga K "Clear")) (.ref (He.ga K "Take")) = some false)))
theorem kit_Clear_Put (T : TX K mg base) : PySem.W.kitOne K (.ref (He.ga K "Clear")) (.ref (He.ga K "Put")) = some false := of_decide_eq_true (T.b fb23 23 13 (f := fun K => decide (PySem.W.kitOne K (.ref (He.ga K "Clear")) (.ref (He.ga K "Put")) = some false)))
theorem kit_Send_Deed (T : TX K mg base) : PySem.W.kitOne K (.ref (He.ga K "Send")) (.ref (He.ga K "Deed")) = some true := of_decide_eq_true (T.b fb23 23 14 (f := fun K => decide (PySem.W.kitOne K (.ref (He.ga K "Send")) (.ref (He.ga K "Deed")) = some true)))
theorem kit_Send_Take (T : TX K mg base) : PySem.W.kitOne K (.ref (He.ga K "Send")) (.ref (He.ga K "Take")) = some false := of_decide_eq_true (T.b fb23 23 15 (f := fun K => decide (PySem.W.kitOne K (.ref (He.ga K "Send")) (.ref (He.ga K "Take")) = some false)))
theorem kit_Send_Put (T : TX K mg base) : PySem.W.kitOne K (.ref (He.ga K "Send")) (.ref (He.ga K "Put")) = some false := of_decide_eq_true (T.b fb24 24 0 (f := fun K => decide (PySem.W.kitOne K (.ref (He.ga K "Send")) (.ref (He.ga K "Put")) = some false)))
theorem kit_Move_Deed (T : TX K mg base) : PySem.W.kitOne K (.ref (He.ga K "Move")) (.ref (He.ga K "Deed")) = some true := of_decide_eq_true (T.b fb24 24 1 (f := fun K => decide (PySem.W.kitOne K (.ref (He.ga K "Move")) (.ref (He.ga K "Deed")) = some true)))
theorem kit_Move_Take (T : TX K mg base) : PySem.W.kitOne K (.ref (He.ga K "Move")) (.ref (He.ga K "Take")) = some false := of_decide_eq_true (T.b fb24 24 2 (f := fun K => decide (PySem.W.kitOne K (.ref (He.ga K "Move")) (.ref (He.ga K "Take")) = some false)))
theorem kit_Move_Put (T : TX K mg base) : PySem.W.kitOne K (.ref (He.ga K "Move")) (.ref (He.ga K "Put")) = some false := of_decide_eq_true (T.b fb24 24 3 (f := fun K => decide (PySem.W.kitOne K (.ref (He.ga K "Move")) (.ref (He.ga K "Put")) = some false)))
theorem kit_Answer_Deed (T : TX K mg base) : PySem.W.kitOne K (.ref (He.ga K "Answer")) (.ref (He.ga K "Deed")) = some true := of_decide_eq_true (T.b fb24 24 4 (f := fun K => decide (PySem.W.kitOne K (.ref (He.ga K "Answer")) (.ref (He.ga K "Deed")) = some true)))
theorem kit_Answer_Take (T : TX K mg base) : PySem.W.kitOne K (.ref (He.ga K "Answer")) (.ref (He.ga K "Take")) = some false := of_decide_eq_true (T.b fb24 24 5 (f := fun K => decide (PySem.W.kitOne K (.ref (He.ga K "Answer")) (.ref (He.ga K "Take")) = some false)))
theorem kit_Answer_Put (T : TX K mg base) : PySem.W.kitOne K (.ref (He.ga K "Answer")) (.ref (He.ga K "Put")) = some false := of_decide_eq_true (T.b fb24 24 6 (f := fun K => decide (PySem.W.kitOne K (.ref (He.ga K "Answer")) (.ref (He.ga K "Put")) = some false)))
theorem kit_N_Row (T : TX K mg base) : PySem.W.kitOne K (.type "NoneType") (.ref (He.ga K "Row")) = some false := of_decide_eq_true (T.b fb24 24 7 (f := fun K => decide (PySem.W.kitOne K (.type "NoneType") (.ref (He.ga K "Row")) = some false)))
theorem kit_N_End (T : TX K mg base) : PySem.W.kitOne K (.type "NoneType") (.ref (He.ga K "End")) = some false := of_decide_eq_true (T.b fb24 24 8 (f := fun K => decide (PySem.W.kitOne K (.type "NoneType") (.ref (He.ga K "End")) = some false)))
theorem kit_I_Row (T : TX K mg base) : PySem.W.kitOne K (.type "int") (.ref (He.ga K "Row")) = some false := of_decide_eq_true (T.b fb24 24 9 (f := fun K => decide (PySem.W.kitOne K (.type "int") (.ref (He.ga K "Row")) = some false)))
theorem kit_I_End (T : TX K mg base) : PySem.W.kitOne K (.type "int") (.ref (He.ga K "End")) = some false := of_decide_eq_true (T.b fb24 24 10 (f := fun K => decide (PySem.W.kitOne K (.type "int") (.ref (He.ga K "End")) = some false)))
theorem kit_B_Row (T : TX K mg base) : PySem.W.kitOne K (.type "bool") (.ref (He.ga K "Row")) = some false := of_decide_eq_true (T.b fb24 24 11 (f := fun K => decide (PySem.W.kitOne K (.type "bool") (.ref (He.ga K "Row")) = some false)))
theorem kit_B_End (T : TX K mg base) : PySem.W.kitOne K (.type "bool") (.ref (He.ga K "End")) = some false := of_decide_eq_true (T.b fb24 24 12 (f := fun K => decide (PySem.W.kitOne K (.type "bool") (.ref (He.ga K "End")) = some false)))
theorem kit_S_Row (T : TX K mg base) : PySem.W.kitOne K (.type "str") (.ref (He.ga K "Row")) = some false := of_decide_eq_true (T.b fb24 24 13 (f := fun K => decide (PySem.W.kitOne K (.type "str") (.ref (He.ga K "Row")) = some false)))
theorem kit_S_End (T : TX K mg base) : PySem.W.kitOne K (.type "str") (.ref (He.ga K "End")) = some false := of_decide_eq_true (T.b fb24 24 14 (f := fun K => decide (PySem.W.kitOne K (.type "str") (.ref (He.ga K "End")) = some false)))
theorem kit_L_Row (T : TX K mg base) : PySem.W.kitOne K (.type "list") (.ref (He.ga K "Row")) = some false := of_decide_eq_true (T.b fb24 24 15 (f := fun K => decide (PySem.W.kitOne K (.type "list") (.ref (He.ga K "Row")) = some false)))
theorem kit_L_End (T : TX K mg base) : PySem.W.kitOne K (.type "list") (.ref (He.ga K "End")) = some false := of_decide_eq_true (T.b fb25 25 0 (f := fun K => decide (PySem.W.kitOne K (.type "list") (.ref (He.ga K "End")) = some false)))
theorem kit_D_Row (T : TX K mg base) : PySem.W.kitOne K (.type "dict") (.ref (He.ga K "Row")) = some false := of_decide_eq_true (T.b fb25 25 1 (f := fun K => decide (PySem.W.kitOne K (.type "dict") (.ref (He.ga K "Row")) = some false)))
theorem kit_D_End (T : TX K mg base) : PySem.W.kitOne K (.type "dict") (.ref (He.ga K "End")) = some false := of_decide_eq_true (T.b fb25 25 2 (f := fun K => decide (PySem.W.kitOne K (.type "dict") (.ref (He.ga K "End")) = some false)))
theorem kit_T_Row (T : TX K mg base) : PySem.W.kitOne K (.type "tuple") (.ref (He.ga K "Row")) = some false := of_decide_eq_true (T.b fb25 25 3 (f := fun K => decide (PySem.W.kitOne K (.type "tuple") (.ref (He.ga K "Row")) = some false)))
theorem kit_T_End (T : TX K mg base) : PySem.W.kitOne K (.type "tuple") (.ref (He.ga K "End")) = some false := of_decide_eq_true (T.b fb25 25 4 (f := fun K => decide (PySem.W.kitOne K (.type "tuple") (.ref (He.ga K "End")) = some false)))
theorem kit_Row_Row (T : TX K mg base) : PySem.W.kitOne K (.ref (He.ga K "Row")) (.ref (He.ga K "Row")) = some true := of_decide_eq_true (T.b fb25 25 5 (f := fun K => decide (PySem.W.kitOne K (.ref (He.ga K "Row")) (.ref (He.ga K "Row")) = some true)))
theorem kit_Sender_Row (T : TX K mg base) : PySem.W.kitOne K (.ref (He.ga K "Sender")) (.ref (He.ga K "Row")) = some false := of_decide_eq_true (T.b fb25 25 6 (f := fun K => decide (PySem.W.kitOne K (.ref (He.ga K "Sender")) (.ref (He.ga K "Row")) = some false)))
theorem kit_Sender_End (T : TX K mg base) : PySem.W.kitOne K (.ref (He.ga K "Sender")) (.ref (He.ga K "End")) = some true := of_decide_eq_true (T.b fb25 25 7 (f := fun K => decide (PySem.W.kitOne K (.ref (He.ga K "Sender")) (.ref (He.ga K "End")) = some true)))
theorem nf_Sender_N (T : TX K mg base) : PySem.W.notFirst K (He.ga K "Sender") (.type "NoneType") = true := of_decide_eq_true (T.b fb25 25 8 (f := fun K => decide (PySem.W.notFirst K (He.ga K "Sender") (.type "NoneType") = true)))
theorem nf_Sender_I (T : TX K mg base) : PySem.W.notFirst K (He.ga K "Sender") (.type "int") = true := of_decide_eq_true (T.b fb25 25 9 (f := fun K => decide (PySem.W.notFirst K (He.ga K "Sender") (.type "int") = true)))
theorem nf_Sender_B (T : TX K mg base) : PySem.W.notFirst K (He.ga K "Sender") (.type "bool") = true := of_decide_eq_true (T.b fb25 25 10 (f := fun K => decide (PySem.W.notFirst K (He.ga K "Sender") (.type "bool") = true)))
theorem nf_Sender_S (T : TX K mg base) : PySem.W.notFirst K (He.ga K "Sender") (.type "str") = true := of_decide_eq_true (T.b fb25 25 11 (f := fun K => decide (PySem.W.notFirst K (He.ga K "Sender") (.type "str") = true)))
theorem nf_Sender_L (T : TX K mg base) : PySem.W.notFirst K (He.ga K "Sender") (.type "list") = true := of_decide_eq_true (T.b fb25 25 12 (f := fun K => decide (PySem.W.notFirst K (He.ga K "Sender") (.type "list") = true)))
theorem nf_Sender_D (T : TX K mg base) : PySem.W.notFirst K (He.ga K "Sender") (.type "dict") = true := of_decide_eq_true (T.b fb25 25 13 (f := fun K => decide (PySem.W.notFirst K (He.ga K "Sender") (.type "dict") = true)))
theorem nf_Sender_T (T : TX K mg base) : PySem.W.notFirst K (He.ga K "Sender") (.type "tuple") = true := of_decide_eq_true (T.b fb25 25 14 (f := fun K => decide (PySem.W.notFirst K (He.ga K "Sender") (.type "tuple") = true)))
theorem nf_Sender_Sender (T : TX K mg base) : PySem.W.notFirst K (He.ga K "Sender") (.ref (He.ga K "Sender")) = true := of_decide_eq_true (T.b fb25 25 15 (f := fun K => decide (PySem.W.notFirst K (He.ga K "Sender") (.ref (He.ga K "Sender")) = true)))
theorem nf_Sender_Receiver (T : TX K mg base) : PySem.W.notFirst K (He.ga K "Sender") (.ref (He.ga K "Receiver")) = true := of_decide_eq_true (T.b fb26 26 0 (f := fun K => decide (PySem.W.notFirst K (He.ga K "Sender") (.ref (He.ga K "Receiver")) = true)))
theorem kit_Receiver_Row (T : TX K mg base) : PySem.W.kitOne K (.ref (He.ga K "Receiver")) (.ref (He.ga K "Row")) = some false := of_decide_eq_true (T.b fb26 26 1 (f := fun K => decide (PySem.W.kitOne K (.ref (He.ga K "Receiver")) (.ref (He.ga K "Row")) = some false)))
theorem kit_Receiver_End (T : TX K mg base) : PySem.W.kitOne K (.ref (He.ga K "Receiver")) (.ref (He.ga K "End")) = some true := of_decide_eq_true (T.b fb26 26 2 (f := fun K => decide (PySem.W.kitOne K (.ref (He.ga K "Receiver")) (.ref (He.ga K "End")) = some true)))
theorem nf_Receiver_N (T : TX K mg base) : PySem.W.notFirst K (He.ga K "Receiver") (.type "NoneType") = true := of_decide_eq_true (T.b fb26 26 3 (f := fun K => decide (PySem.W.notFirst K (He.ga K "Receiver") (.type "NoneType") = true)))
theorem nf_Receiver_I (T : TX K mg base) : PySem.W.notFirst K (He.ga K "Receiver") (.type "int") = true := of_decide_eq_true (T.b fb26 26 4 (f := fun K => decide (PySem.W.notFirst K (He.ga K "Receiver") (.type "int") = true)))
theorem nf_Receiver_B (T : TX K mg base) : PySem.W.notFirst K (He.ga K "Receiver") (.type "bool") = true := of_decide_eq_true (T.b fb26 26 5 (f := fun K => decide (PySem.W.notFirst K (He.ga K "Receiver") (.type "bool") = true)))
theorem nf_Receiver_S (T : TX K mg base) : PySem.W.notFirst K (He.ga K "Receiver") (.type "str") = true := of_decide_eq_true (T.b fb26 26 6 (f := fun K => decide (PySem.W.notFirst K (He.ga K "Receiver") (.type "str") = true)))
theorem nf_Receiver_L (T : TX K mg base) : PySem.W.notFirst K (He.ga K "Receiver") (.type "list") = true := of_decide_eq_true (T.b fb26 26 7 (f := fun K => decide (PySem.W.notFirst K (He.ga K "Receiver") (.type "list") = true)))
theorem nf_Receiver_D (T : TX K mg base) : PySem.W.notFirst K (He.ga K "Receiver") (.type "dict") = true := of_decide_eq_true (T.b fb26 26 8 (f := fun K => decide (PySem.W.notFirst K (He.ga K "Receiver") (.type "dict") = true)))
theorem nf_Receiver_T (T : TX K mg base) : PySem.W.notFirst K (He.ga K "Receiver") (.type "tuple") = true := of_decide_eq_true (T.b fb26 26 9 (f := fun K => decide (PySem.W.notFirst K (He.ga K "Receiver") (.type "tuple") = true)))
theorem nf_Receiver_Sender (T : TX K mg base) : PySem.W.notFirst K (He.ga K "Receiver") (.ref (He.ga K "Sender")) = true := of_decide_eq_true (T.b fb26 26 10 (f := fun K => decide (PySem.W.notFirst K (He.ga K "Receiver") (.ref (He.ga K "Sender")) = true)))
theorem nf_Receiver_Receiver (T : TX K mg base) : PySem.W.notFirst K (He.ga K "Receiver") (.ref (He.ga K "Receiver")) = true := of_decide_eq_true (T.b fb26 26 11 (f := fun K => decide (PySem.W.notFirst K (He.ga K "Receiver") (.ref (He.ga K "Receiver")) = true)))
theorem nf_Row_Row (T : TX K mg base) : PySem.W.notFirst K (He.ga K "Row") (.ref (He.ga K "Row")) = true := of_decide_eq_true (T.b fb26 26 12 (f := fun K => decide (PySem.W.notFirst K (He.ga K "Row") (.ref (He.ga K "Row")) = true)))
theorem sub_Send (T : TX K mg base) : PySem.W.mroIn K (He.ga K "Send") (.ref (He.ga K "Send")) = some true := of_decide_eq_true (T.b fb26 26 13 (f := fun K => decide (PySem.W.mroIn K (He.ga K "Send") (.ref (He.ga K "Send")) = some true)))
theorem sup_Send (T : TX K mg base) : PySem.W.ks_superIn K (He.ga K "Send") (He.ga K "Send") "__init__" = some (some (.ref (He.ma K (He.ga K "BoxDeed") "__init__"))) := of_decide_eq_true (T.b fb26 26 14 (f := fun K => decide (PySem.W.ks_superIn K (He.ga K "Send") (He.ga K "Send") "__init__" = some (some (.ref (He.ma K (He.ga K "BoxDeed") "__init__"))))))
theorem ic_Send (T : TX K mg base) : (PySem.W.clsIn K (He.ga K "Send")).isSome = true := of_decide_eq_true (T.b fb26 26 15 (f := fun K => decide ((PySem.W.clsIn K (He.ga K "Send")).isSome = true)))
theorem sub_Move (T : TX K mg base) : PySem.W.mroIn K (He.ga K "Move") (.ref (He.ga K "Move")) = some true := of_decide_eq_true (T.b fb27 27 0 (f := fun K => decide (PySem.W.mroIn K (He.ga K "Move") (.ref (He.ga K "Move")) = some true)))
theorem sup_Move (T : TX K mg base) : PySem.W.ks_superIn K (He.ga K "Move") (He.ga K "Move") "__init__" = some (some (.ref (He.ma K (He.ga K "BoxDeed") "__init__"))) := of_decide_eq_true (T.b fb27 27 1 (f := fun K => decide (PySem.W.ks_superIn K (He.ga K "Move") (He.ga K "Move") "__init__" = some (some (.ref (He.ma K (He.ga K "BoxDeed") "__init__"))))))
theorem ic_Move (T : TX K mg base) : (PySem.W.clsIn K (He.ga K "Move")).isSome = true := of_decide_eq_true (T.b fb27 27 2 (f := fun K => decide ((PySem.W.clsIn K (He.ga K "Move")).isSome = true)))
theorem sub_Sender (T : TX K mg base) : PySem.W.mroIn K (He.ga K "Sender") (.ref (He.ga K "Sender")) = some true := of_decide_eq_true (T.b fb27 27 3 (f := fun K => decide (PySem.W.mroIn K (He.ga K "Sender") (.ref (He.ga K "Sender")) = some true)))
theorem sup_Sender (T : TX K mg base) : PySem.W.ks_superIn K (He.ga K "Sender") (He.ga K "Sender") "__init__" = some (some (.ref (He.ma K (He.ga K "End") "__init__"))) := of_decide_eq_true (T.b fb27 27 4 (f := fun K => decide (PySem.W.ks_superIn K (He.ga K "Sender") (He.ga K "Sender") "__init__" = some (some (.ref (He.ma K (He.ga K "End") "__init__"))))))
theorem ic_Sender (T : TX K mg base) : (PySem.W.clsIn K (He.ga K "Sender")).isSome = true := of_decide_eq_true (T.b fb27 27 5 (f := fun K => decide ((PySem.W.clsIn K (He.ga K "Sender")).isSome = true)))
theorem sub_Receiver (T : TX K mg base) : PySem.W.mroIn K (He.ga K "Receiver") (.ref (He.ga K "Receiver")) = some true := of_decide_eq_true (T.b fb27 27 6 (f := fun K => decide (PySem.W.mroIn K (He.ga K "Receiver") (.ref (He.ga K "Receiver")) = some true)))
theorem sup_Receiver (T : TX K mg base) : PySem.W.ks_superIn K (He.ga K "Receiver") (He.ga K "Receiver") "__init__" = some (some (.ref (He.ma K (He.ga K "End") "__init__"))) := of_decide_eq_true (T.b fb27 27 7 (f := fun K => decide (PySem.W.ks_superIn K (He.ga K "Receiver") (He.ga K "Receiver") "__init__" = some (some (.ref (He.ma K (He.ga K "End") "__init__"))))))
theorem ic_Receiver (T : TX K mg base) : (PySem.W.clsIn K (He.ga K "Receiver")).isSome = true := of_decide_eq_true (T.b fb27 27 8 (f := fun K => decide ((PySem.W.clsIn K (He.ga K "Receiver")).isSome = true)))
theorem tf_BoxDeed (T : TX K mg base) : PySem.W.typeIn K (.ref (He.ma K (He.ga K "BoxDeed") "__init__")) = some (.type "function") := of_decide_eq_true (T.b fb27 27 9 (f := fun K => decide (PySem.W.typeIn K (.ref (He.ma K (He.ga K "BoxDeed") "__init__")) = some (.type "function"))))
theorem tf_End (T : TX K mg base) : PySem.W.typeIn K (.ref (He.ma K (He.ga K "End") "__init__")) = some (.type "function") := of_decide_eq_true (T.b fb27 27 10 (f := fun K => decide (PySem.W.typeIn K (.ref (He.ma K (He.ga K "End") "__init__")) = some (.type "function"))))
theorem ex_sub (T : TX K mg base) : PySem.W.mroIn K (He.ga K "NoRow") (.ref (He.ga K "NoRow")) = some true := of_decide_eq_true (T.b fb27 27 11 (f := fun K => decide (PySem.W.mroIn K (He.ga K "NoRow") (.ref (He.ga K "NoRow")) = some true)))
theorem ex_sup (T : TX K mg base) : PySem.W.ks_superIn K (He.ga K "NoRow") (He.ga K "NoRow") "__init__" = some (some (.builtin "ValueError.__init__")) := of_decide_eq_true (T.b fb27 27 12 (f := fun K => decide (PySem.W.ks_superIn K (He.ga K "NoRow") (He.ga K "NoRow") "__init__" = some (some (.builtin "ValueError.__init__")))))
theorem ex_ve (T : TX K mg base) : PySem.W.subIn K (.ref (He.ga K "NoRow")) (.type "ValueError") = some true := of_decide_eq_true (T.b fb27 27 13 (f := fun K => decide (PySem.W.subIn K (.ref (He.ga K "NoRow")) (.type "ValueError") = some true)))
theorem ex_be (T : TX K mg base) : PySem.W.subIn K (.ref (He.ga K "NoRow")) (.type "BaseException") = some true := of_decide_eq_true (T.b fb27 27 14 (f := fun K => decide (PySem.W.subIn K (.ref (He.ga K "NoRow")) (.type "BaseException") = some true)))
theorem ex_ty (T : TX K mg base) : PySem.W.typeIn K (.ref (He.ga K "NoRow")) = some (.type "type") := of_decide_eq_true (T.b fb27 27 15 (f := fun K => decide (PySem.W.typeIn K (.ref (He.ga K "NoRow")) = some (.type "type"))))
theorem ex_kp (T : TX K mg base) : PySem.W.keepIn K (.ref (He.ga K "NoRow")) = true := of_decide_eq_true (T.b fb28 28 0 (f := fun K => decide (PySem.W.keepIn K (.ref (He.ga K "NoRow")) = true)))
theorem ex_sa (T : TX K mg base) : PySem.W.findIn K (.ref (He.ga K "NoRow")) "__setattr__" = some (some (.builtin "object.__setattr__")) := of_decide_eq_true (T.b fb28 28 1 (f := fun K => decide (PySem.W.findIn K (.ref (He.ga K "NoRow")) "__setattr__" = some (some (.builtin "object.__setattr__")))))
theorem ex_ti (T : TX K mg base) : PySem.W.typeIn K (.ref (He.ma K (He.ga K "NoRow") "__init__")) = some (.type "function") := of_decide_eq_true (T.b fb28 28 2 (f := fun K => decide (PySem.W.typeIn K (.ref (He.ma K (He.ga K "NoRow") "__init__")) = some (.type "function"))))
theorem ex_ic (T : TX K mg base) : (PySem.W.clsIn K (He.ga K "NoRow")).isSome = true := of_decide_eq_true (T.b fb28 28 3 (f := fun K => decide ((PySem.W.clsIn K (He.ga K "NoRow")).isSome = true)))
theorem ex_at (T : TX K mg base) : PySem.W.findIn K (.ref (He.ga K "NoRow")) "at" = some none := of_decide_eq_true (T.b fb28 28 4 (f := fun K => decide (PySem.W.findIn K (.ref (He.ga K "NoRow")) "at" = some none)))
theorem ex_ga (T : TX K mg base) : PySem.W.findIn K (.ref (He.ga K "NoRow")) "__getattribute__" = some (some (.builtin "BaseException.__getattribute__")) := of_decide_eq_true (T.b fb28 28 5 (f := fun K => decide (PySem.W.findIn K (.ref (He.ga K "NoRow")) "__getattribute__" = some (some (.builtin "BaseException.__getattribute__")))))
theorem ex_gt (T : TX K mg base) : PySem.W.findIn K (.ref (He.ga K "NoRow")) "__getattr__" = some none := of_decide_eq_true (T.b fb28 28 6 (f := fun K => decide (PySem.W.findIn K (.ref (He.ga K "NoRow")) "__getattr__" = some none)))
theorem ex_hd (T : TX K mg base) : PySem.W.hasDictIn K (He.ga K "NoRow") = true := of_decide_eq_true (T.b fb28 28 7 (f := fun K => decide (PySem.W.hasDictIn K (He.ga K "NoRow") = true)))
theorem ex_cl (T : TX K mg base) : PySem.W.findIn K (.ref (He.ga K "NoRow")) "__class__" = some (some (.builtin "object.__class__")) := of_decide_eq_true (T.b fb28 28 8 (f := fun K => decide (PySem.W.findIn K (.ref (He.ga K "NoRow")) "__class__" = some (some (.builtin "object.__class__")))))
theorem ex_ob (T : TX K mg base) : PySem.W.mroIn K (He.ga K "NoRow") (.type "object") = some true := of_decide_eq_true (T.b fb28 28 9 (f := fun K => decide (PySem.W.mroIn K (He.ga K "NoRow") (.type "object") = some true)))
theorem ex_m (T : TX K mg base) : PySem.W.exmOne K (.ref (He.ga K "NoRow")) (.ref (He.ga K "LinkError")) = some true := of_decide_eq_true (T.b fb28 28 10 (f := fun K => decide (PySem.W.exmOne K (.ref (He.ga K "NoRow")) (.ref (He.ga K "LinkError")) = some true)))
theorem kit_NoRow_NoRow (T : TX K mg base) : PySem.W.kitOne K (.ref (He.ga K "NoRow")) (.ref (He.ga K "NoRow")) = some true := of_decide_eq_true (T.b fb28 28 11 (f := fun K => decide (PySem.W.kitOne K (.ref (He.ga K "NoRow")) (.ref (He.ga K "NoRow")) = some true)))
theorem rd_Row (T : TX K mg base) : PySem.W.readsIn K (He.ga K "Row") (.type "type") = true := of_decide_eq_true (T.b fb28 28 12 (f := fun K => decide (PySem.W.readsIn K (He.ga K "Row") (.type "type") = true)))
theorem cga_Row (T : TX K mg base) : PySem.W.specialIn K (.ref (He.ga K "Row")) "__getattribute__" = some (some (.builtin "type.__getattribute__")) := of_decide_eq_true (T.b fb28 28 13 (f := fun K => decide (PySem.W.specialIn K (.ref (He.ga K "Row")) "__getattribute__" = some (some (.builtin "type.__getattribute__")))))
theorem rd_Sender (T : TX K mg base) : PySem.W.readsIn K (He.ga K "Sender") (.type "type") = true := of_decide_eq_true (T.b fb28 28 14 (f := fun K => decide (PySem.W.readsIn K (He.ga K "Sender") (.type "type") = true)))
theorem cga_Sender (T : TX K mg base) : PySem.W.specialIn K (.ref (He.ga K "Sender")) "__getattribute__" = some (some (.builtin "type.__getattribute__")) := of_decide_eq_true (T.b fb28 28 15 (f := fun K => decide (PySem.W.specialIn K (.ref (He.ga K "Sender")) "__getattribute__" = some (some (.builtin "type.__getattribute__")))))
theorem rd_Receiver (T : TX K mg base) : PySem.W.readsIn K (He.ga K "Receiver") (.type "type") = true := of_decide_eq_true (T.b fb29 29 0 (f := fun K => decide (PySem.W.readsIn K (He.ga K "Receiver") (.type "type") = true)))
theorem cga_Receiver (T : TX K mg base) : PySem.W.specialIn K (.ref (He.ga K "Receiver")) "__getattribute__" = some (some (.builtin "type.__getattribute__")) := of_decide_eq_true (T.b fb29 29 1 (f := fun K => decide (PySem.W.specialIn K (.ref (He.ga K "Receiver")) "__getattribute__" = some (some (.builtin "type.__getattribute__")))))
theorem tupSides (T : TX K mg base) : He.tupB K "SIDES" [.str "sender", .str "receiver"] = true := T.b fb29 29 2 (f := fun K => He.tupB K "SIDES" [.str "sender", .str "receiver"])
theorem excNoRow (T : TX K mg base) : excB K (He.ga K "NoRow") = true := T.b fb29 29 3 (f := fun K => excB K (He.ga K "NoRow"))
theorem cm_Row (T : TX K mg base) : cfB K (He.ga K "Row") "read" = true := T.b fb29 29 4 (f := fun K => cfB K (He.ga K "Row") "read")
theorem cm_Sender (T : TX K mg base) : cfB K (He.ga K "Sender") "read" = true := T.b fb29 29 5 (f := fun K => cfB K (He.ga K "Sender") "read")
theorem cm_Receiver (T : TX K mg base) : cfB K (He.ga K "Receiver") "read" = true := T.b fb29 29 6 (f := fun K => cfB K (He.ga K "Receiver") "read")
theorem rc_Row (T : TX K mg base) : cmB K (He.ga K "Row") "read" = true := T.b fb29 29 7 (f := fun K => cmB K (He.ga K "Row") "read")
theorem rc_Sender (T : TX K mg base) : cmB K (He.ga K "Sender") "read" = true := T.b fb29 29 8 (f := fun K => cmB K (He.ga K "Sender") "read")
theorem rc_Receiver (T : TX K mg base) : cmB K (He.ga K "Receiver") "read" = true := T.b fb29 29 9 (f := fun K => cmB K (He.ga K "Receiver") "read")
theorem file_Send (T : TX K mg base) : fileB K (He.ma K (He.ga K "Send") "__init__") = true := T.b fb29 29 10 (f := fun K => fileB K (He.ma K (He.ga K "Send") "__init__"))
theorem file_Move (T : TX K mg base) : fileB K (He.ma K (He.ga K "Move") "__init__") = true := T.b fb29 29 11 (f := fun K => fileB K (He.ma K (He.ga K "Move") "__init__"))
theorem file_Sender (T : TX K mg base) : fileB K (He.ma K (He.ga K "Sender") "__init__") = true := T.b fb29 29 12 (f := fun K => fileB K (He.ma K (He.ga K "Sender") "__init__"))
theorem file_Receiver (T : TX K mg base) : fileB K (He.ma K (He.ga K "Receiver") "__init__") = true := T.b fb29 29 13 (f := fun K => fileB K (He.ma K (He.ga K "Receiver") "__init__"))
theorem file_NoRow (T : TX K mg base) : fileB K (He.ma K (He.ga K "NoRow") "__init__") = true := T.b fb29 29 14 (f := fun K => fileB K (He.ma K (He.ga K "NoRow") "__init__"))
theorem d_is_integer (T : TX K mg base) : ∃ fd, FunD K "is_integer" "is_integer" (defArgs s_is_integer) (defBody s_is_integer) (defScope s_is_integer) [] [] (He.ga K "is_integer") fd := let z := T.d fm0 0 0 (m := m_is_integer); MD.fun z.2 z.1 rfl
theorem d_is_within (T : TX K mg base) : ∃ fd, FunD K "is_within" "is_within" (defArgs s_is_within) (defBody s_is_within) (defScope s_is_within) [] [] (He.ga K "is_within") fd := let z := T.d fm0 0 1 (m := m_is_within); MD.fun z.2 z.1 rfl
theorem d_is_state (T : TX K mg base) : ∃ fd, FunD K "is_state" "is_state" (defArgs s_is_state) (defBody s_is_state) (defScope s_is_state) [] [] (He.ga K "is_state") fd := let z := T.d fm0 0 2 (m := m_is_state); MD.fun z.2 z.1 rfl
theorem d_is_box (T : TX K mg base) : ∃ fd, FunD K "is_box" "is_box" (defArgs s_is_box) (defBody s_is_box) (defScope s_is_box) [] [] (He.ga K "is_box") fd := let z := T.d fm0 0 3 (m := m_is_box); MD.fun z.2 z.1 rfl
theorem d_is_number (T : TX K mg base) : ∃ fd, FunD K "is_number" "is_number" (defArgs s_is_number) (defBody s_is_number) (defScope s_is_number) [] [] (He.ga K "is_number") fd := let z := T.d fm0 0 4 (m := m_is_number); MD.fun z.2 z.1 rfl
theorem d_need_box (T : TX K mg base) : ∃ fd, FunD K "need_box" "need_box" (defArgs s_need_box) (defBody s_need_box) (defScope s_need_box) [] [] (He.ga K "need_box") fd := let z := T.d fm0 0 5 (m := m_need_box); MD.fun z.2 z.1 rfl
theorem d_need_number (T : TX K mg base) : ∃ fd, FunD K "need_number" "need_number" (defArgs s_need_number) (defBody s_need_number) (defScope s_need_number) [] [] (He.ga K "need_number") fd := let z := T.d fm0 0 6 (m := m_need_number); MD.fun z.2 z.1 rfl
theorem d_sides_of (T : TX K mg base) : ∃ fd, FunD K "sides_of" "sides_of" (defArgs s_sides_of) (defBody s_sides_of) (defScope s_sides_of) [] [] (He.ga K "sides_of") fd := let z := T.d fm0 0 7 (m := m_sides_of); MD.fun z.2 z.1 rfl
theorem d_integer_in (T : TX K mg base) : ∃ fd, FunD K "integer_in" "integer_in" (defArgs s_integer_in) (defBody s_integer_in) (defScope s_integer_in) [] [] (He.ga K "integer_in") fd := let z := T.d fm0 0 8 (m := m_integer_in); MD.fun z.2 z.1 rfl
theorem d_deed_in (T : TX K mg base) : ∃ fd, FunD K "deed_in" "deed_in" (defArgs s_deed_in) (defBody s_deed_in) (defScope s_deed_in) [] [] (He.ga K "deed_in") fd := let z := T.d fm0 0 9 (m := m_deed_in); MD.fun z.2 z.1 rfl
theorem d_fit_sides (T : TX K mg base) : ∃ fd, FunD K "fit_sides" "fit_sides" (defArgs s_fit_sides) (defBody s_fit_sides) (defScope s_fit_sides) [] [] (He.ga K "fit_sides") fd := let z := T.d fm0 0 10 (m := m_fit_sides); MD.fun z.2 z.1 rfl
theorem d_need_deeds (T : TX K mg base) : ∃ fd, FunD K "need_deeds" "need_deeds" (defArgs s_need_deeds) (defBody s_need_deeds) (defScope s_need_deeds) [] [] (He.ga K "need_deeds") fd := let z := T.d fm0 0 11 (m := m_need_deeds); MD.fun z.2 z.1 rfl
theorem d_is_heard (T : TX K mg base) : ∃ fd, FunD K "is_heard" "is_heard" (defArgs s_is_heard) (defBody s_is_heard) (defScope s_is_heard) [] [] (He.ga K "is_heard") fd := let z := T.d fm0 0 12 (m := m_is_heard); MD.fun z.2 z.1 rfl
theorem d_are_boxes (T : TX K mg base) : ∃ fd, FunD K "are_boxes" "are_boxes" (defArgs s_are_boxes) (defBody s_are_boxes) (defScope s_are_boxes) [] [] (He.ga K "are_boxes") fd := let z := T.d fm0 0 13 (m := m_are_boxes); MD.fun z.2 z.1 rfl
theorem d_rank_of (T : TX K mg base) : ∃ fd, FunD K "rank_of" "rank_of" (defArgs s_rank_of) (defBody s_rank_of) (defScope s_rank_of) [] [] (He.ga K "rank_of") fd := let z := T.d fm0 0 14 (m := m_rank_of); MD.fun z.2 z.1 rfl
theorem d_boxes_text (T : TX K mg base) : ∃ fd, FunD K "boxes_text" "boxes_text" (defArgs s_boxes_text) (defBody s_boxes_text) (defScope s_boxes_text) [] [] (He.ga K "boxes_text") fd := let z := T.d fm0 0 15 (m := m_boxes_text); MD.fun z.2 z.1 rfl
theorem d_deeds_text (T : TX K mg base) : ∃ fd, FunD K "deeds_text" "deeds_text" (defArgs s_deeds_text) (defBody s_deeds_text) (defScope s_deeds_text) [] [] (He.ga K "deeds_text") fd := let z := T.d fm1 1 0 (m := m_deeds_text); MD.fun z.2 z.1 rfl
theorem d_word_at (T : TX K mg base) : ∃ fd, FunD K "word_at" "word_at" (defArgs s_word_at) (defBody s_word_at) (defScope s_word_at) [] [] (He.ga K "word_at") fd := let z := T.d fm1 1 1 (m := m_word_at); MD.fun z.2 z.1 rfl
theorem d_boxes_in (T : TX K mg base) : ∃ fd, FunD K "boxes_in" "boxes_in" (defArgs s_boxes_in) (defBody s_boxes_in) (defScope s_boxes_in) [] [] (He.ga K "boxes_in") fd := let z := T.d fm1 1 2 (m := m_boxes_in); MD.fun z.2 z.1 rfl
theorem d_deeds_in (T : TX K mg base) : ∃ fd, FunD K "deeds_in" "deeds_in" (defArgs s_deeds_in) (defBody s_deeds_in) (defScope s_deeds_in) [] [] (He.ga K "deeds_in") fd := let z := T.d fm1 1 3 (m := m_deeds_in); MD.fun z.2 z.1 rfl
theorem d_row_in (T : TX K mg base) : ∃ fd, FunD K "row_in" "row_in" (defArgs s_row_in) (defBody s_row_in) (defScope s_row_in) [] [] (He.ga K "row_in") fd := let z := T.d fm1 1 4 (m := m_row_in); MD.fun z.2 z.1 rfl
theorem d_need_rows (T : TX K mg base) : ∃ fd, FunD K "need_rows" "need_rows" (defArgs s_need_rows) (defBody s_need_rows) (defScope s_need_rows) [] [] (He.ga K "need_rows") fd := let z := T.d fm1 1 5 (m := m_need_rows); MD.fun z.2 z.1 rfl
theorem d_rows_in (T : TX K mg base) : ∃ fd, FunD K "rows_in" "rows_in" (defArgs s_rows_in) (defBody s_rows_in) (defScope s_rows_in) [] [] (He.ga K "rows_in") fd := let z := T.d fm1 1 6 (m := m_rows_in); MD.fun z.2 z.1 rfl
theorem d_law_pen (T : TX K mg base) : ∃ fd, FunD K "_law_pen" "_law_pen" (defArgs s_law_pen) (defBody s_law_pen) (defScope s_law_pen) [] [] (He.ga K "_law_pen") fd := let z := T.d fm1 1 7 (m := m_law_pen); MD.fun z.2 z.1 rfl
theorem d_law_draw (T : TX K mg base) : ∃ fd, FunD K "_law_draw" "_law_draw" (defArgs s_law_draw) (defBody s_law_draw) (defScope s_law_draw) [] [] (He.ga K "_law_draw") fd := let z := T.d fm1 1 8 (m := m_law_draw); MD.fun z.2 z.1 rfl
theorem d_law_pick (T : TX K mg base) : ∃ fd, FunD K "_law_pick" "_law_pick" (defArgs s_law_pick) (defBody s_law_pick) (defScope s_law_pick) [] [] (He.ga K "_law_pick") fd := let z := T.d fm1 1 9 (m := m_law_pick); MD.fun z.2 z.1 rfl
theorem d_law_deed (T : TX K mg base) : ∃ fd, FunD K "_law_deed" "_law_deed" (defArgs s_law_deed) (defBody s_law_deed) (defScope s_law_deed) [] [] (He.ga K "_law_deed") fd := let z := T.d fm1 1 10 (m := m_law_deed); MD.fun z.2 z.1 rfl
theorem d_law_row (T : TX K mg base) : ∃ fd, FunD K "_law_row" "_law_row" (defArgs s_law_row) (defBody s_law_row) (defScope s_law_row) [] [] (He.ga K "_law_row") fd := let z := T.d fm1 1 11 (m := m_law_row); MD.fun z.2 z.1 rfl
theorem d_law_text (T : TX K mg base) : ∃ fd, FunD K "_law_text" "_law_text" (defArgs s_law_text) (defBody s_law_text) (defScope s_law_text) [] [] (He.ga K "_law_text") fd := let z := T.d fm1 1 12 (m := m_law_text); MD.fun z.2 z.1 rfl
theorem d_law_rows (T : TX K mg base) : ∃ fd, FunD K "_law_rows" "_law_rows" (defArgs s_law_rows) (defBody s_law_rows) (defScope s_law_rows) [] [] (He.ga K "_law_rows") fd := let z := T.d fm1 1 13 (m := m_law_rows); MD.fun z.2 z.1 rfl
theorem d_law_made (T : TX K mg base) : ∃ fd, FunD K "_law_made" "_law_made" (defArgs s_law_made) (defBody s_law_made) (defScope s_law_made) [] [] (He.ga K "_law_made") fd := let z := T.d fm1 1 14 (m := m_law_made); MD.fun z.2 z.1 rfl
theorem d_law_heard (T : TX K mg base) : ∃ fd, FunD K "_law_heard" "_law_heard" (defArgs s_law_heard) (defBody s_law_heard) (defScope s_law_heard) [] [] (He.ga K "_law_heard") fd := let z := T.d fm1 1 15 (m := m_law_heard); MD.fun z.2 z.1 rfl
theorem d_law_tells (T : TX K mg base) : ∃ fd, FunD K "_law_tells" "_law_tells" (defArgs s_law_tells) (defBody s_law_tells) (defScope s_law_tells) [] [] (He.ga K "_law_tells") fd := let z := T.d fm2 2 0 (m := m_law_tells); MD.fun z.2 z.1 rfl
theorem d_law_states_right (T : TX K mg base) : ∃ fd, FunD K "_law_states_right" "_law_states_right" (defArgs s_law_states_right) (defBody s_law_states_right) (defScope s_law_states_right) [] [] (He.ga K "_law_states_right") fd := let z := T.d fm2 2 1 (m := m_law_states_right); MD.fun z.2 z.1 rfl
theorem d_law (T : TX K mg base) : ∃ fd, FunD K "law" "law" (defArgs s_law) (defBody s_law) (defScope s_law) [] [] (He.ga K "law") fd := let z := T.d fm2 2 2 (m := m_law); MD.fun z.2 z.1 rfl
theorem d_NoRow_init (T : TX K mg base) : PySem.W.keepIn K (.ref (He.ma K (He.ga K "NoRow") "__init__")) = true ∧ ∃ oc od kV doc pm an cdv ct cc osl cl cld csl, K.lookup (He.ma K (He.ga K "NoRow") "__init__") = some ⟨oc, od, .func (PySem.W.ksFn "__init__" "NoRow.__init__" (defArgs s_NoRow_init) (defBody s_NoRow_init) (defScope s_NoRow_init) .none kV doc pm an cdv ct cc), osl⟩ ∧ PySem.W.codeIn K cdv "NoRow.__init__" = true ∧ K.lookup cc = some ⟨cl, cld, .cell (some (.ref (He.ga K "NoRow"))), csl⟩ := let z := T.d fm2 2 3 (m := m_NoRow_init); MD.sup z.2 z.1 rfl
theorem d_Deed_is_for (T : TX K mg base) : ∃ fd, FunD K "is_for" "Deed.is_for" (defArgs s_Deed_is_for) (defBody s_Deed_is_for) (defScope s_Deed_is_for) [] [] (He.ma K (He.ga K "Deed") "is_for") fd := let z := T.d fm2 2 4 (m := m_Deed_is_for); MD.fun z.2 z.1 rfl
theorem d_BoxDeed_init (T : TX K mg base) : ∃ fd, FunD K "__init__" "BoxDeed.__init__" (defArgs s_BoxDeed_init) (defBody s_BoxDeed_init) (defScope s_BoxDeed_init) [] [] (He.ma K (He.ga K "BoxDeed") "__init__") fd := let z := T.d fm2 2 5 (m := m_BoxDeed_init); MD.fun z.2 z.1 rfl
theorem d_BoxDeed_str (T : TX K mg base) : ∃ fd, FunD K "__str__" "BoxDeed.__str__" (defArgs s_BoxDeed_str) (defBody s_BoxDeed_str) (defScope s_BoxDeed_str) [] [] (He.ma K (He.ga K "BoxDeed") "__str__") fd := let z := T.d fm2 2 6 (m := m_BoxDeed_str); MD.fun z.2 z.1 rfl
theorem d_Take_verb (T : TX K mg base) : ∃ fd, FunD K "verb" "Take.verb" (defArgs s_Take_verb) (defBody s_Take_verb) (defScope s_Take_verb) [] [] (He.ma K (He.ga K "Take") "verb") fd := let z := T.d fm2 2 7 (m := m_Take_verb); MD.fun z.2 z.1 rfl
theorem d_Put_verb (T : TX K mg base) : ∃ fd, FunD K "verb" "Put.verb" (defArgs s_Put_verb) (defBody s_Put_verb) (defScope s_Put_verb) [] [] (He.ma K (He.ga K "Put") "verb") fd := let z := T.d fm2 2 8 (m := m_Put_verb); MD.fun z.2 z.1 rfl
theorem d_Out_verb (T : TX K mg base) : ∃ fd, FunD K "verb" "Out.verb" (defArgs s_Out_verb) (defBody s_Out_verb) (defScope s_Out_verb) [] [] (He.ma K (He.ga K "Out") "verb") fd := let z := T.d fm2 2 9 (m := m_Out_verb); MD.fun z.2 z.1 rfl
theorem d_Clear_verb (T : TX K mg base) : ∃ fd, FunD K "verb" "Clear.verb" (defArgs s_Clear_verb) (defBody s_Clear_verb) (defScope s_Clear_verb) [] [] (He.ma K (He.ga K "Clear") "verb") fd := let z := T.d fm2 2 10 (m := m_Clear_verb); MD.fun z.2 z.1 rfl
theorem d_Send_init (T : TX K mg base) : PySem.W.keepIn K (.ref (He.ma K (He.ga K "Send") "__init__")) = true ∧ ∃ oc od kV doc pm an cdv ct cc osl cl cld csl, K.lookup (He.ma K (He.ga K "Send") "__init__") = some ⟨oc, od, .func (PySem.W.ksFn "__init__" "Send.__init__" (defArgs s_Send_init) (defBody s_Send_init) (defScope s_Send_init) .none kV doc pm an cdv ct cc), osl⟩ ∧ PySem.W.codeIn K cdv "Send.__init__" = true ∧ K.lookup cc = some ⟨cl, cld, .cell (some (.ref (He.ga K "Send"))), csl⟩ := let z := T.d fm2 2 11 (m := m_Send_init); MD.sup z.2 z.1 rfl
theorem d_Send_verb (T : TX K mg base) : ∃ fd, FunD K "verb" "Send.verb" (defArgs s_Send_verb) (defBody s_Send_verb) (defScope s_Send_verb) [] [] (He.ma K (He.ga K "Send") "verb") fd := let z := T.d fm2 2 12 (m := m_Send_verb); MD.fun z.2 z.1 rfl
theorem d_Send_str (T : TX K mg base) : ∃ fd, FunD K "__str__" "Send.__str__" (defArgs s_Send_str) (defBody s_Send_str) (defScope s_Send_str) [] [] (He.ma K (He.ga K "Send") "__str__") fd := let z := T.d fm2 2 13 (m := m_Send_str); MD.fun z.2 z.1 rfl
theorem d_Move_init (T : TX K mg base) : PySem.W.keepIn K (.ref (He.ma K (He.ga K "Move") "__init__")) = true ∧ ∃ oc od kV doc pm an cdv ct cc osl cl cld csl, K.lookup (He.ma K (He.ga K "Move") "__init__") = some ⟨oc, od, .func (PySem.W.ksFn "__init__" "Move.__init__" (defArgs s_Move_init) (defBody s_Move_init) (defScope s_Move_init) .none kV doc pm an cdv ct cc), osl⟩ ∧ PySem.W.codeIn K cdv "Move.__init__" = true ∧ K.lookup cc = some ⟨cl, cld, .cell (some (.ref (He.ga K "Move"))), csl⟩ := let z := T.d fm2 2 14 (m := m_Move_init); MD.sup z.2 z.1 rfl
theorem d_Move_verb (T : TX K mg base) : ∃ fd, FunD K "verb" "Move.verb" (defArgs s_Move_verb) (defBody s_Move_verb) (defScope s_Move_verb) [] [] (He.ma K (He.ga K "Move") "verb") fd := let z := T.d fm2 2 15 (m := m_Move_verb); MD.fun z.2 z.1 rfl
theorem d_Move_str (T : TX K mg base) : ∃ fd, FunD K "__str__" "Move.__str__" (defArgs s_Move_str) (defBody s_Move_str) (defScope s_Move_str) [] [] (He.ma K (He.ga K "Move") "__str__") fd := let z := T.d fm3 3 0 (m := m_Move_str); MD.fun z.2 z.1 rfl
theorem d_Answer_init (T : TX K mg base) : ∃ fd, FunD K "__init__" "Answer.__init__" (defArgs s_Answer_init) (defBody s_Answer_init) (defScope s_Answer_init) [] [] (He.ma K (He.ga K "Answer") "__init__") fd := let z := T.d fm3 3 1 (m := m_Answer_init); MD.fun z.2 z.1 rfl
theorem d_Answer_verb (T : TX K mg base) : ∃ fd, FunD K "verb" "Answer.verb" (defArgs s_Answer_verb) (defBody s_Answer_verb) (defScope s_Answer_verb) [] [] (He.ma K (He.ga K "Answer") "verb") fd := let z := T.d fm3 3 2 (m := m_Answer_verb); MD.fun z.2 z.1 rfl
theorem d_Answer_str (T : TX K mg base) : ∃ fd, FunD K "__str__" "Answer.__str__" (defArgs s_Answer_str) (defBody s_Answer_str) (defScope s_Answer_str) [] [] (He.ma K (He.ga K "Answer") "__str__") fd := let z := T.d fm3 3 3 (m := m_Answer_str); MD.fun z.2 z.1 rfl
theorem d_Row_init (T : TX K mg base) : ∃ fd, FunD K "__init__" "Row.__init__" (defArgs s_Row_init) (defBody s_Row_init) (defScope s_Row_init) [] [] (He.ma K (He.ga K "Row") "__init__") fd := let z := T.d fm3 3 4 (m := m_Row_init); MD.fun z.2 z.1 rfl
theorem d_Row_read (T : TX K mg base) : ∃ fd, FunD K "read" "Row.read" (defArgs s_Row_read) (defBody s_Row_read) (defScope s_Row_read) [] [] (cmA K (He.ga K "Row") "read") fd := let z := T.d fm3 3 5 (m := m_Row_read); MD.fun z.2 z.1 rfl
theorem d_Row_sides (T : TX K mg base) : ∃ fd, FunD K "sides" "Row.sides" (defArgs s_Row_sides) (defBody s_Row_sides) (defScope s_Row_sides) [] [] (He.ma K (He.ga K "Row") "sides") fd := let z := T.d fm3 3 6 (m := m_Row_sides); MD.fun z.2 z.1 rfl
theorem d_Row_eq (T : TX K mg base) : ∃ fd, FunD K "__eq__" "Row.__eq__" (defArgs s_Row_eq) (defBody s_Row_eq) (defScope s_Row_eq) [] [] (He.ma K (He.ga K "Row") "__eq__") fd := let z := T.d fm3 3 7 (m := m_Row_eq); MD.fun z.2 z.1 rfl
theorem d_Row_str (T : TX K mg base) : ∃ fd, FunD K "__str__" "Row.__str__" (defArgs s_Row_str) (defBody s_Row_str) (defScope s_Row_str) [] [] (He.ma K (He.ga K "Row") "__str__") fd := let z := T.d fm3 3 8 (m := m_Row_str); MD.fun z.2 z.1 rfl
theorem d_End_init (T : TX K mg base) : ∃ fd, FunD K "__init__" "End.__init__" (defArgs s_End_init) (defBody s_End_init) (defScope s_End_init) [] [] (He.ma K (He.ga K "End") "__init__") fd := let z := T.d fm3 3 9 (m := m_End_init); MD.fun z.2 z.1 rfl
theorem d_End_len (T : TX K mg base) : ∃ fd, FunD K "__len__" "End.__len__" (defArgs s_End_len) (defBody s_End_len) (defScope s_End_len) [] [] (He.ma K (He.ga K "End") "__len__") fd := let z := T.d fm3 3 10 (m := m_End_len); MD.fun z.2 z.1 rfl
theorem d_End_iter (T : TX K mg base) : ∃ fd, FunD K "__iter__" "End.__iter__" (defArgs s_End_iter) (defBody s_End_iter) (defScope s_End_iter) [] [] (He.ma K (He.ga K "End") "__iter__") fd := let z := T.d fm3 3 11 (m := m_End_iter); MD.fun z.2 z.1 rfl
theorem d_End_getitem (T : TX K mg base) : ∃ fd, FunD K "__getitem__" "End.__getitem__" (defArgs s_End_getitem) (defBody s_End_getitem) (defScope s_End_getitem) [] [] (He.ma K (He.ga K "End") "__getitem__") fd := let z := T.d fm3 3 12 (m := m_End_getitem); MD.fun z.2 z.1 rfl
theorem d_End_contains (T : TX K mg base) : ∃ fd, FunD K "__contains__" "End.__contains__" (defArgs s_End_contains) (defBody s_End_contains) (defScope s_End_contains) [] [] (He.ma K (He.ga K "End") "__contains__") fd := let z := T.d fm3 3 13 (m := m_End_contains); MD.fun z.2 z.1 rfl
theorem d_End_at_state (T : TX K mg base) : ∃ fd, FunD K "at_state" "End.at_state" (defArgs s_End_at_state) (defBody s_End_at_state) (defScope s_End_at_state) [] [] (He.ma K (He.ga K "End") "at_state") fd := let z := T.d fm3 3 14 (m := m_End_at_state); MD.fun z.2 z.1 rfl
theorem d_End_eq (T : TX K mg base) : ∃ fd, FunD K "__eq__" "End.__eq__" (defArgs s_End_eq) (defBody s_End_eq) (defScope s_End_eq) [] [] (He.ma K (He.ga K "End") "__eq__") fd := let z := T.d fm3 3 15 (m := m_End_eq); MD.fun z.2 z.1 rfl
theorem d_Sender_init (T : TX K mg base) : PySem.W.keepIn K (.ref (He.ma K (He.ga K "Sender") "__init__")) = true ∧ ∃ oc od kV doc pm an cdv ct cc osl cl cld csl, K.lookup (He.ma K (He.ga K "Sender") "__init__") = some ⟨oc, od, .func (PySem.W.ksFn "__init__" "Sender.__init__" (defArgs s_Sender_init) (defBody s_Sender_init) (defScope s_Sender_init) .none kV doc pm an cdv ct cc), osl⟩ ∧ PySem.W.codeIn K cdv "Sender.__init__" = true ∧ K.lookup cc = some ⟨cl, cld, .cell (some (.ref (He.ga K "Sender"))), csl⟩ := let z := T.d fm4 4 0 (m := m_Sender_init); MD.sup z.2 z.1 rfl
theorem d_Sender_read (T : TX K mg base) : ∃ fd, FunD K "read" "Sender.read" (defArgs s_Sender_read) (defBody s_Sender_read) (defScope s_Sender_read) [] [] (cmA K (He.ga K "Sender") "read") fd := let z := T.d fm4 4 1 (m := m_Sender_read); MD.fun z.2 z.1 rfl
theorem d_Receiver_init (T : TX K mg base) : PySem.W.keepIn K (.ref (He.ma K (He.ga K "Receiver") "__init__")) = true ∧ ∃ oc od kV doc pm an cdv ct cc osl cl cld csl, K.lookup (He.ma K (He.ga K "Receiver") "__init__") = some ⟨oc, od, .func (PySem.W.ksFn "__init__" "Receiver.__init__" (defArgs s_Receiver_init) (defBody s_Receiver_init) (defScope s_Receiver_init) .none kV doc pm an cdv ct cc), osl⟩ ∧ PySem.W.codeIn K cdv "Receiver.__init__" = true ∧ K.lookup cc = some ⟨cl, cld, .cell (some (.ref (He.ga K "Receiver"))), csl⟩ := let z := T.d fm4 4 2 (m := m_Receiver_init); MD.sup z.2 z.1 rfl
theorem d_Receiver_read (T : TX K mg base) : ∃ fd, FunD K "read" "Receiver.read" (defArgs s_Receiver_read) (defBody s_Receiver_read) (defScope s_Receiver_read) [] [] (cmA K (He.ga K "Receiver") "read") fd := let z := T.d fm4 4 3 (m := m_Receiver_read); MD.fun z.2 z.1 rfl
end TX
end Mp
set_option maxHeartbeats 0
/-! The head's run, in two halves of its facts. -/
namespace Mp
open PySem PySem.Spec PyProof.Rows L2
abbrev qv : Program := PySem.W.view R.prog [70]
/-- a thing to look at, of which nothing is said -/
def hkO (A : Type) (v : A) : PySem.W.Hook where
  α := A
  obs := fun _ => v
  val := fun _ => v
  says := fun _ _ => True
  of := fun _ _ _ => True.intro
  keeps := fun _ _ _ _ _ => True.intro
def obA (s : PySem.W.SharedT) : Bool := (fa.all fun l => l.all fun f => f.ok (He.frT (HandSHeadRun.getT s) adrs)) && (fb.all fun l => l.all fun f => f (He.frT (HandSHeadRun.getT s) adrs))
def obB (s : PySem.W.SharedT) : Bool × List (List FnM) := ((fm.all fun l => l.all fun d => d.ok (He.frT (HandSHeadRun.getT s) adrs)) && He.tabsB (HandSHeadRun.getT s) [lawD] (He.frT (HandSHeadRun.getT s) adrs), fm.map fun l => l.map fun d => mdW (He.frT (HandSHeadRun.getT s) adrs) d)
theorem runA (w : World) : HandSHeadRun.RunEq R qv (hkO Bool true) obA 9000 names w := by
  intro os
  kernel_rfl
theorem runB (w : World) : HandSHeadRun.RunEq R qv (hkO (Bool × List (List FnM)) (true, fm.map fun l => l.map MD.val)) obB 9000 names w := by
  intro os
  kernel_rfl
theorem head_run (w : World) : HandSHeadRun.RunEq R qv hk ob 9000 names w := by
  intro os
  have a := runA w os
  have b := runB w os
  revert a b
  generalize HandSHeadRun.endF (HandSHeadRun.stepQ (HandSHeadRun.denQ HandSHeadRun.tabQ) R.prog w) 9000 R.prog w os = r
  cases r with
  | none => exact fun a _ => nomatch a
  | some s =>
    intro a b
    have a := Option.some.inj a
    have b := Option.some.inj b
    injection a with a1 a2
    injection a2 with a2 a3
    injection b with _ b2
    injection b2 with _ b3
    have a3 : obA s = true := a3
    have b3 : obB s = (true, fm.map fun l => l.map MD.val) := b3
    injection b3 with b4 b5
    obtain ⟨c1, c2⟩ := He.ba a3
    refine congrArg some ?_
    refine congr (congrArg Prod.mk a1) (congr (congrArg Prod.mk a2) ?_)
    exact congr (congrArg Prod.mk (Bool.and_eq_true_iff.mpr ⟨c1, Bool.and_eq_true_iff.mpr ⟨c2, b4⟩⟩)) b5
end Mp
set_option maxHeartbeats 4000000
/-! Own rules over the hand layer: calls of defs and methods by positional promises, classes given where they are met. -/
namespace Mp
open PySem PySem.Spec PyProof.Rows L2

/-! ### promises by a name of the module -/
/-- the module's def x keeps the promise sp and lets nothing out -/
structure FG (P : Program) (w : World) (K : PySem.W.Frag) (mg : Str → Option Value) (base : Heap) (k : Nat) (x : Str) (sp : Sp) : Prop where
  ex : ∃ f, mg x = some (.ref f) ∧ PySem.W.keepIn K (.ref f) = true ∧ FnR P w K mg base CX0 k f sp
/-- the class at C has the method m, which keeps the promise sp -/
structure MG (P : Program) (w : World) (K : PySem.W.Frag) (mg : Str → Option Value) (base : Heap) (k : Nat) (C : Addr) (m : Str) (sp : Sp) : Prop where
  cl : Cls K C
  ex : ∃ g, Meth K C m g ∧ FnR P w K mg base CX0 k g sp
theorem FG.mono {P : Program} {w : World} {K : PySem.W.Frag} {mg : Str → Option Value} {base : Heap} {j k : Nat} {x : Str} {sp : Sp} (F : FG P w K mg base j x sp) (h : j ≤ k) : FG P w K mg base k x sp := by
  obtain ⟨f, a, b, c⟩ := F.ex
  exact ⟨f, a, b, c.mono h⟩
theorem MG.mono {P : Program} {w : World} {K : PySem.W.Frag} {mg : Str → Option Value} {base : Heap} {j k : Nat} {C : Addr} {m : Str} {sp : Sp} (F : MG P w K mg base j C m sp) (h : j ≤ k) : MG P w K mg base k C m sp := by
  obtain ⟨f, a, c⟩ := F.ex
  exact ⟨F.cl, f, a, c.mono h⟩

section
variable {X : Cx} {k : Nat} {sp : Sp} {x : Str} {e : Expr} {es : List Expr} {t : TA} {p pos : Pos}
theorem pe_g (F : FG X.prog X.w X.K X.mg X.base k x sp) (hr : Room k X.A) (ha : PA X (e :: es) t) (hg : Gl X x := by rfl) (hd : (x == ("__debug__" : Str)) = false := by decide)
    (he : starEach (e :: es) X.env = (false, eval e X.env) :: starEach es X.env := by rfl) (hst : (backTo pos (starEach es X.env)).any (·.1) = false := by rfl) :
    PE X (.Call (.Name x p) (e :: es) [] pos) (fun σ H Q => t σ H fun vs H1 => sp vs H1 Q E0) := by
  obtain ⟨f, hm, hk, F⟩ := F.ex
  refine ⟨fun pins s σ H Q I h => ?_⟩
  refine wpAny_Call_Name_kw (ld_glob I hg hm ?_ hd)
  refine PySem.W.callWith_K (h₀ := X.base) I.ok.mod.kin hk (thn (ha.run pos pins s σ H _ I h) fun us s1 ⟨vs, H1, I1, r, q⟩ => ⟨I1.kIn, ?_⟩) he hst
  exact wpAny_call (run_fnR F hr (fun _ _ _ _ _ _ _ z => z.elim) I1 r q)
end

/-! ### methods of whatever class is met -/
section
variable {X : Cx} {m : Str} {o e : Expr} {es : List Expr} {ta : TE} {t : TA} {apos pos : Pos} {pl : Sem Bool}
/-- what o.m(..) asks: the instance's class has such a method -/
def rMet (X : Cx) (m : Str) (x : V) (H : Hp) (k : Sp → Prop) : Prop := ∃ (a C dx : Addr) (fs : List (Str × V)) (n : Nat) (sp : Sp), x = .ref a ∧ H a = some (.ins C dx fs) ∧ fs.lookup m = none ∧ MG X.prog X.w X.K X.mg X.base n C m sp ∧ Room n X.A ∧ k sp
theorem pe_mv (he : PE X o ta) (ha : PA X (e :: es) t)
    (hst : starEach (e :: es) X.env = (false, eval e X.env) :: starEach es X.env := by rfl) (hpl : (backTo pos (starEach es X.env)).any (·.1) = false := by rfl)
    (ht : eval (.Call (.Attribute o m apos) (e :: es) [] pos) X.env = (do
      let ov ← eval o X.env
      standAt apos.atName
      let (f, first) ← holding [ov] (getMethod ov m pl)
      callWith pos f first (backTo pos (starEach (e :: es) X.env)) (backToKw pos (keywordEach [] X.env))) := by rfl) :
    PE X (.Call (.Attribute o m apos) (e :: es) [] pos) (fun σ H Q => ta σ H fun x H1 => rMet X m x H1 fun sp => t σ H1 fun vs H2 => sp (x :: vs) H2 Q E0) := by
  refine ⟨fun pins s σ H Q I h => ?_⟩
  refine PySem.W.methodCall_KW (pl := pl) (thn (he.run pins s σ H _ I h) fun u s1 ⟨x, H1, I1, rx, a, C, dx, fs, n, sp, ex, ea, l, G, hr, q⟩ => ?_) ht
  subst ex
  obtain rfl : u = Value.ref a := rx
  obtain ⟨g, hm, F⟩ := G.ex
  refine getmeth_ok I1 ea G.cl hm l ?_
  refine PySem.W.callWith_K (first := [.ref a]) (h₀ := X.base) I.ok.mod.kin hm.kp (thn (ha.run pos pins s1 σ H1 _ I1 q) fun us s2 ⟨vs, H2, I2, r, q2⟩ => ⟨I2.kIn, ?_⟩) hst hpl
  exact wpAny_call (run_fnR (us := .ref a :: us) (vs := .ref a :: vs) F hr (fun _ _ _ _ _ _ _ z => z.elim) I2 (.cons rfl r) q2)
theorem pe_mv0 (he : PE X o ta)
    (ht : eval (.Call (.Attribute o m apos) [] [] pos) X.env = (do
      let ov ← eval o X.env
      standAt apos.atName
      let (f, first) ← holding [ov] (getMethod ov m pl)
      callWith pos f first (backTo pos (starEach [] X.env)) (backToKw pos (keywordEach [] X.env))) := by rfl) :
    PE X (.Call (.Attribute o m apos) [] [] pos) (fun σ H Q => ta σ H fun x H1 => rMet X m x H1 fun sp => sp [x] H1 Q E0) := by
  refine ⟨fun pins s σ H Q I h => ?_⟩
  refine PySem.W.methodCall_KW (pl := pl) (thn (he.run pins s σ H _ I h) fun u s1 ⟨x, H1, I1, rx, a, C, dx, fs, n, sp, ex, ea, l, G, hr, q⟩ => ?_) ht
  subst ex
  obtain rfl : u = Value.ref a := rx
  obtain ⟨g, hm, F⟩ := G.ex
  refine getmeth_ok I1 ea G.cl hm l ?_
  refine PySem.W.callWith_K0 (first := [.ref a]) I1.kIn hm.kp ?_
  exact wpAny_call (run_fnR (us := [.ref a]) (vs := [.ref a]) F hr (fun _ _ _ _ _ _ _ z => z.elim) I1 (.cons rfl .nil) q)
end

/-! ### a def run below the running body (within built-ins) -/
section
variable {X : Cx} {pins : List (Addr × Obj)} {σ : L2.St} {H : Hp} {s : Shared}
theorem run_sub {n : Nat} {A : Around} {f : Addr} {sp : Sp} {Q : VK} {us : List Value} {vs : List V} (F : FnR X.prog X.w X.K X.mg X.base CX0 n f sp) (sb : Sub X n A) (I : Inv X pins σ H s) (r : Vals vs us) (h : sp vs H Q E0) :
    wpAny (model X.prog X.w) A (call (.ref f) us) (EP X pins σ Q) X.xe s := by
  have e0 : Env0 X.prog X.w X.K X.mg X.base A X.stack s H := by
    have e := I.env0
    exact ⟨by rw [sb.fr]; exact e.frames, e.mod, e.bs, e.bsz, e.funs, e.frf, e.hok, e.bare⟩
  refine wpAny_call (codeAny_mono (F A X.stack s H us vs Q E0 sb.room e0 r h) fun r s' hq => ?_)
  cases r with
  | error e => exact False.elim hq
  | ok fl =>
    cases fl with
    | ret u => exact I.after hq
    | next => exact False.elim hq
    | brk => exact False.elim hq
    | cont => exact False.elim hq
theorem Sub.self {n : Nat} (hr : Room n X.A) : Sub X n X.A := ⟨hr, rfl⟩
/-- an instance as the library's rules for own operators want it -/
theorem ins_at {a C dx : Addr} {fs : List (Str × V)} (I : Inv X pins σ H s) (h : H a = some (.ins C dx fs)) : ∃ od m, PySem.W.InstAt s.heap a (PySem.W.instObj C dx) C (some od) ∧ Fr X.base X.env.locals s.heap m := by
  obtain ⟨mA, J, _⟩ := ins_get I.hok h
  obtain ⟨od, J, _⟩ := J.look
  obtain ⟨m, F⟩ := I.fr
  exact ⟨od, m, J, F⟩
end

/-- what own operators ask of a class: the special method m, found as a def, its promise -/
structure OG (P : Program) (w : World) (K : PySem.W.Frag) (mg : Str → Option Value) (base : Heap) (k : Nat) (C : Addr) (m : Str) (sp : Sp) : Prop where
  ex : ∃ g, PySem.W.findIn K (.ref C) m = some (some (.ref g)) ∧ PySem.W.isFn K (.ref g) = true ∧ PySem.W.fnIn K g = true ∧ FnR P w K mg base CX0 k g sp

section
variable {X : Cx}
/-- str(x) of an own instance -/
def rStrO (X : Cx) : List V → Hp → VK → Prop := fun xs H Q => ∃ (a C dx : Addr) (fs : List (Str × V)) (n : Nat) (sp : Sp), xs = [.ref a] ∧ H a = some (.ins C dx fs) ∧ OG X.prog X.w X.K X.mg X.base n C "__str__" sp ∧ Room (n + 2) X.A ∧
  sp [.ref a] H (fun v H' => (∃ z, v = .str z) ∧ Q v H') E0
theorem call_strO : CallR X (.type "str") (rStrO X) := by
  intro pins s σ H xs us Q I r h
  obtain ⟨a, C, dx, fs, n, sp, rfl, ea, G, hr, q⟩ := h
  obtain ⟨u, rfl, ru⟩ := vals1 r
  obtain rfl : u = Value.ref a := ru
  obtain ⟨g, hf, hfn, _, F⟩ := G.ex
  obtain ⟨od, m, J, _⟩ := ins_at I ea
  have sb : Sub X n X.A.in1.in1 := (Sub.self hr).in1.in1
  refine PySem.W.kso_call (by have := sb.room.units0; exact this) I.kIn J hf hfn (wpAny_mono (run_sub (us := [.ref a]) (vs := [.ref a]) F sb I (.cons rfl .nil) q) (fun v s' z => ?_) fun _ _ z => z)
  obtain ⟨v1, H', I', rv, ⟨z, rfl⟩, q'⟩ := z
  obtain ⟨t, rfl⟩ := rv
  exact ⟨.str z, H', I', ⟨t, rfl⟩, q'⟩
end
end Mp
set_option maxHeartbeats 4000000
/-! Own operators of instances: in, len, truth, subscripts, == and !=, iter. -/
namespace Mp
open PySem PySem.Spec PyProof.Rows L2

section
variable {prog : Program} {w : World} {A : Around} {E : Value → Shared → Prop} {s : Shared} {K : PySem.W.Frag} {x C L f : Addr} {h₀ : Heap} {m : Str → Option Value} {ox : Obj} {od : Option Obj}
open PySem.W in
/-- the truth of an instance that has a length and no truth of its own -/
theorem truthy_len {Q : Bool → Shared → Prop} (F : Fr h₀ L s.heap m) (X₀ : K.In h₀) (I : InstAt s.heap x ox C od) (hb : findIn K (.ref C) "__bool__" = some none)
    (hs : findIn K (.ref C) "__len__" = some (some (.ref f))) (hf : isFn K (.ref f) = true)
    (h : wpAny (model prog w) A.in1 (call (.ref f) [.ref x]) (PySem.W.LenBack (fun v s' => ∃ n t, v = .int n t ∧ Q (n != 0) s')) E s) : wpAny (model prog w) A (truthy (.ref x)) Q E s := by
  have X := X₀.keeps F.keep
  unfold truthy
  refine wpAny_bind (m := callSpecial? (.ref x) (Str.ofString "__bool__")) (wpAny_bind (wpAny_bind (I.type.here ((looks_findIn X hb).here (wpAny_pure ?_)))))
  refine wpAny_bind (wpAny_bind (I.type.here ((looks_findIn X hs).here ?_)))
  show wpAny _ _ (if (some (Value.ref f)).isNone = true then _ else _) _ _ _
  rw [if_neg (by simp)]
  refine wpAny_bind (wpAny_runValue (codeAny_builtin PySem.entry_len ?_))
  rw [Around.under_plainId PySem.plain_len _]
  unfold Builtin.«len»
  refine wpAny_bind (m := oneArg "len" _) (wpAny_pure ?_)
  refine wpAny_bind (m := callSpecial? (.ref x) (Str.ofString "__len__")) (special_fn X I hs (beq_iff_eq.mp hf) (wpAny_mono h (fun r s' hr => ?_) fun _ _ y => y))
  cases r <;> first | exact hr.elim | skip
  rename_i n u
  obtain ⟨⟨h0, h1⟩, n', t', ev, hq⟩ := hr
  injection ev with e1 e2
  subst e1
  refine wpAny_bind (wpAny_holding (wpAny_pure ?_))
  refine wpAny_bind (wpAny_letGo ?_)
  show wpAny _ _ (if n < 0 then _ else _) _ _ _
  rw [if_neg (by omega)]
  show wpAny _ _ (if n ≥ 2 ^ 63 then _ else _) _ _ _
  rw [if_neg (by omega)]
  exact wpAny_bind (wpAny_mkInt (wpAny_pure (wpAny_pure hq)))
end

section
variable {X : Cx}
/-- y in x, x an own instance with a def for it -/
def rInO (X : Cx) (neg : Bool) : R2 := fun y x H Q => ∃ (a C dx : Addr) (fs : List (Str × V)) (n : Nat) (sp : Sp), x = .ref a ∧ H a = some (.ins C dx fs) ∧ OG X.prog X.w X.K X.mg X.base n C "__contains__" sp ∧ Room n X.A ∧
  sp [.ref a, y] H (fun v H' => ∃ b, v = .bl b ∧ Q (.bl (if neg then !b else b)) H') E0
theorem op_inO : OpR X (compareOp .In) (rInO X false) := by
  intro pins s σ H y x v u Q I ry rx h
  obtain ⟨a, C, dx, fs, n, sp, rfl, ea, G, hr, q⟩ := h
  obtain rfl : u = Value.ref a := rx
  obtain ⟨g, hf, hfn, _, F⟩ := G.ex
  obtain ⟨od, m, J, Fm⟩ := ins_at I ea
  refine PySem.W.in_K Fm I.ok.mod.kin J hf hfn (wpAny_mono (run_sub (us := [.ref a, v]) (vs := [.ref a, y]) F (Sub.self hr) I (.cons rfl (.cons ry .nil)) q) (fun v s' z => ?_) fun _ _ z => z)
  obtain ⟨v1, H', I', rv, b, rfl, q'⟩ := z
  obtain rfl : v = Value.bool b := rv
  exact wpAny_truthy_bool ⟨.bl b, H', I', rfl, q'⟩
theorem op_notInO : OpR X (compareOp .NotIn) (rInO X true) := by
  intro pins s σ H y x v u Q I ry rx h
  obtain ⟨a, C, dx, fs, n, sp, rfl, ea, G, hr, q⟩ := h
  obtain rfl : u = Value.ref a := rx
  obtain ⟨g, hf, hfn, _, F⟩ := G.ex
  obtain ⟨od, m, J, Fm⟩ := ins_at I ea
  refine PySem.W.notIn_K Fm I.ok.mod.kin J hf hfn (wpAny_mono (run_sub (us := [.ref a, v]) (vs := [.ref a, y]) F (Sub.self hr) I (.cons rfl (.cons ry .nil)) q) (fun v s' z => ?_) fun _ _ z => z)
  obtain ⟨v1, H', I', rv, b, rfl, q'⟩ := z
  obtain rfl : v = Value.bool b := rv
  exact wpAny_truthy_bool ⟨.bl (!b), H', I', rfl, q'⟩

/-- len(x) -/
def rLenO (X : Cx) : List V → Hp → VK → Prop := fun xs H Q => ∃ (a C dx : Addr) (fs : List (Str × V)) (n : Nat) (sp : Sp), xs = [.ref a] ∧ H a = some (.ins C dx fs) ∧ OG X.prog X.w X.K X.mg X.base n C "__len__" sp ∧ Room (n + 1) X.A ∧
  sp [.ref a] H (fun v H' => ∃ i : Int, v = .int i ∧ 0 ≤ i ∧ i < 2 ^ 63 ∧ Q (.int i) H') E0
theorem call_lenO : CallR X (.builtin "len") (rLenO X) := by
  intro pins s σ H xs us Q I r h
  obtain ⟨a, C, dx, fs, n, sp, rfl, ea, G, hr, q⟩ := h
  obtain ⟨u, rfl, ru⟩ := vals1 r
  obtain rfl : u = Value.ref a := ru
  obtain ⟨g, hf, hfn, _, F⟩ := G.ex
  obtain ⟨od, m, J, Fm⟩ := ins_at I ea
  refine PySem.W.len_K Fm I.ok.mod.kin J hf hfn (wpAny_mono (run_sub (us := [.ref a]) (vs := [.ref a]) F (Sub.self hr).in1 I (.cons rfl .nil) q) (fun v s' z => ?_) fun _ _ z => z)
  obtain ⟨v1, H', I', rv, i, rfl, h0, h1, q'⟩ := z
  obtain ⟨t, rfl⟩ := rv
  exact ⟨⟨h0, h1⟩, .int i, H', I'.tok _, ⟨_, rfl⟩, q'⟩

/-- the truth of such an instance -/
def rTruO (X : Cx) : V → Hp → (Bool → Hp → Prop) → Prop := fun x H Q => ∃ (a C dx : Addr) (fs : List (Str × V)) (n : Nat) (sp : Sp), x = .ref a ∧ H a = some (.ins C dx fs) ∧ PySem.W.findIn X.K (.ref C) "__bool__" = some none ∧
  OG X.prog X.w X.K X.mg X.base n C "__len__" sp ∧ Room (n + 1) X.A ∧ sp [.ref a] H (fun v H' => ∃ i : Int, v = .int i ∧ 0 ≤ i ∧ i < 2 ^ 63 ∧ Q (i != 0) H') E0
theorem tru_own {A : Around} {pins : List (Addr × Obj)} {σ : L2.St} {H : Hp} {s : Shared} {n : Nat} {a C dx : Addr} {fs : List (Str × V)} {sp : Sp} {Q : Bool → Hp → Prop} (I : Inv X pins σ H s) (ea : H a = some (.ins C dx fs)) (hb : PySem.W.findIn X.K (.ref C) "__bool__" = some none)
    (G : OG X.prog X.w X.K X.mg X.base n C "__len__" sp) (sb : Sub X (n + 1) A) (q : sp [.ref a] H (fun v H' => ∃ i : Int, v = .int i ∧ 0 ≤ i ∧ i < 2 ^ 63 ∧ Q (i != 0) H') E0) :
    wpAny (model X.prog X.w) A (truthy (.ref a)) (TP X pins σ Q) X.xe s := by
  obtain ⟨g, hf, hfn, _, F⟩ := G.ex
  obtain ⟨od, m, J, Fm⟩ := ins_at I ea
  refine truthy_len Fm I.ok.mod.kin J hb hf hfn (wpAny_mono (run_sub (us := [.ref a]) (vs := [.ref a]) F sb.in1 I (.cons rfl .nil) q) (fun v s' z => ?_) fun _ _ z => z)
  obtain ⟨v1, H', I', rv, i, rfl, h0, h1, q'⟩ := z
  obtain ⟨t, rfl⟩ := rv
  exact ⟨⟨h0, h1⟩, i, _, rfl, H', I'.tok _, q'⟩
/-- not x -/
theorem pe_notO {a : Expr} {ta : TE} {pos : Pos} (ha : PE X a ta) : PE X (.UnaryOp .Not a pos) (fun σ H Q => ta σ H fun x H1 => rTruO X x H1 fun b H2 => Q (.bl (!b)) H2) := by
  refine ⟨fun pins s σ H Q I h => ?_⟩
  refine UnaryOp_ (thn (ha.run pins s σ H _ I h) fun v s1 ⟨x, H1, I1, r1, a, C, dx, fs, n, sp, ex, ea, hb, G, hr, q⟩ => ?_)
  subst ex
  obtain rfl : v = Value.ref a := r1
  refine not_of (thn (tru_own (Q := fun b H2 => Q (.bl (!b)) H2) I1 ea hb G (Sub.self hr) q) fun b s2 ⟨H2, I2, q2⟩ => ⟨.bl (!b), H2, I2, rfl, q2⟩)
/-- bool(x) -/
def rBoolO (X : Cx) : List V → Hp → VK → Prop := fun xs H Q => ∃ (a C dx : Addr) (fs : List (Str × V)) (n : Nat) (sp : Sp), xs = [.ref a] ∧ H a = some (.ins C dx fs) ∧ PySem.W.findIn X.K (.ref C) "__bool__" = some none ∧
  OG X.prog X.w X.K X.mg X.base n C "__len__" sp ∧ Room (n + 3) X.A ∧ sp [.ref a] H (fun v H' => ∃ i : Int, v = .int i ∧ 0 ≤ i ∧ i < 2 ^ 63 ∧ Q (.bl (i != 0)) H') E0
open Builtin in
theorem call_boolO : CallR X (.type "bool") (rBoolO X) := by
  intro pins s σ H xs us Q I r h
  obtain ⟨a, C, dx, fs, n, sp, rfl, ea, hb, G, hr, q⟩ := h
  obtain ⟨u, rfl, ru⟩ := vals1 r
  obtain rfl : u = Value.ref a := ru
  refine callType_codes (T := "bool") (Bi := Builtin.«object.__init__») (Q₁ := fun r s₁ => ∃ b, r = .bool b ∧ EP X pins σ Q (.bool b) s₁) PySem.F.called_bool (PySem.F.typeCall_bool_1 _) PySem.F.entry_object_init ?_ ?_
  · refine codeAny_of_tree ?_
    show wpAny _ X.A.in1.in1 (do checkBuiltinCall "bool.__new__" ⟨[.type "bool", .ref a], []⟩; again (.builtin "bool.__new__" ⟨[.type "bool", .ref a], []⟩)) _ _ s
    refine wpAny_bind (wpAny_of_eq (PySem.F.newCall_bool_1 _) (wpAny_pure ⟨plainId_quiet (by decide +kernel) _, codeAny_builtin PySem.F.entry_bool_new ?_⟩))
    rw [Around.under_plainId (by decide +kernel) _]
    have f1 := PySem.F.conv_sub_bool
    unfold Builtin.«bool.__new__»
    have key := tru_own (A := X.A.in1.in1) (Q := fun b H2 => Q (.bl b) H2) I ea hb G (Sub.self hr).in1.in1 q
    obtain ⟨hp, gs, dr, tk, os⟩ := s
    repeat (any_goals (first | assumption | (refine wpAny_bind (m := truthy (Value.ref a)) (wpAny_mono key (fun b s2 z => ?_) fun _ _ z => z)) | wp_step))
    obtain ⟨H2, I2, q2⟩ := z
    exact ⟨b, rfl, .bl b, H2, I2, rfl, q2⟩
  · rintro obj s₁ ⟨b, rfl, hq⟩
    exact ⟨PySem.typeIs_bool _ _, PySem.F.args_object_init_2 _ _, object_init_meets PySem.F.called_bool.init.lookup PySem.F.called_bool.made (by decide) X.prog X.w X.A.in1 _ s₁ ⟨PySem.typeIs_bool _ _, rfl, hq⟩⟩
end
end Mp
set_option maxHeartbeats 4000000
/-! Own operators, further: o[i], == and !=, iteration. -/
namespace Mp
open PySem PySem.Spec PyProof.Rows L2

section
variable {X : Cx} {pins : List (Addr × Obj)} {σ : L2.St} {H : Hp} {s : Shared}
theorem run_subX {CX : CXT} {n : Nat} {A : Around} {f : Addr} {sp : Sp} {E : XK} {Q : VK} {us : List Value} {vs : List V} (F : FnR X.prog X.w X.K X.mg X.base CX n f sp) (hx : Passes CX X E) (sb : Sub X n A) (I : Inv X pins σ H s) (r : Vals vs us) (h : sp vs H Q E) :
    wpAny (model X.prog X.w) A (call (.ref f) us) (EP X pins σ Q) X.xe s := by
  have e0 : Env0 X.prog X.w X.K X.mg X.base A X.stack s H := by
    have e := I.env0
    exact ⟨by rw [sb.fr]; exact e.frames, e.mod, e.bs, e.bsz, e.funs, e.frf, e.hok, e.bare⟩
  refine wpAny_call (codeAny_mono (F A X.stack s H us vs Q E sb.room e0 r h) fun r s' hq => ?_)
  cases r with
  | error e => exact hx pins σ H s e s' I hq
  | ok fl =>
    cases fl with
    | ret u => exact I.after hq
    | next => exact False.elim hq
    | brk => exact False.elim hq
    | cont => exact False.elim hq
end

/-- .. a special method that may raise -/
structure OX (P : Program) (w : World) (K : PySem.W.Frag) (mg : Str → Option Value) (base : Heap) (CX : CXT) (k : Nat) (C : Addr) (m : Str) (sp : Sp) : Prop where
  ex : ∃ g, PySem.W.findIn K (.ref C) m = some (some (.ref g)) ∧ PySem.W.isFn K (.ref g) = true ∧ PySem.W.fnIn K g = true ∧ FnR P w K mg base CX k g sp

section
variable {X : Cx} {CX : CXT} {E : XK} {a b : Expr} {ta tb : TE} {pos : Pos}
/-- o[i] of an own instance -/
def rIxO (X : Cx) (CX : CXT) (E : XK) : R2 := fun x y H Q => ∃ (a C dx : Addr) (fs : List (Str × V)) (n : Nat) (sp : Sp), x = .ref a ∧ H a = some (.ins C dx fs) ∧ OX X.prog X.w X.K X.mg X.base CX n C "__getitem__" sp ∧ Room (n + 1) X.A ∧ sp [.ref a, y] H Q E
theorem pe_ixO (hx : Passes CX X E) (ha : PE X a ta) (hb : PE X b tb) (hs : ∀ o i, subscripted b true o i = runValue (.builtin "lifetime.subscript" ⟨[o, i], []⟩) := by intros; with_unfolding_all rfl) : PE X (.Subscript a b pos) (tOp (rIxO X CX E) ta tb) := by
  refine ⟨fun pins s σ H Q I h => ?_⟩
  refine Subscript_ (binT ha hb I (R := fun x y H2 => rIxO X CX E x y H2 Q) h fun v u s2 x y H2 I2 rx ry q => ?_)
  obtain ⟨p, C, dx, fs, n, sp, rfl, ea, G, hr, q⟩ := q
  obtain rfl : v = Value.ref p := rx
  obtain ⟨g, hf, hfn, hfi, F⟩ := G.ex
  obtain ⟨od, m, J, Fm⟩ := ins_at I2 ea
  exact PySem.W.sub_K Fm I2.ok.mod.kin J hf hfi hfn (run_subX (us := [.ref p, u]) (vs := [.ref p, y]) F hx (Sub.self hr).in1 I2 (.cons rfl (.cons ry .nil)) q) (hs _ _)
end

section
variable {prog : Program} {w : World} {A : Around} {E : Value → Shared → Prop} {s : Shared} {K : PySem.W.Frag} {x C L f : Addr} {h₀ : Heap} {m : Str → Option Value} {ox : Obj} {od : Option Obj} {b tb : Value}
theorem slot_object_ne : Slot "object" "__ne__" "object.__ne__" := .of (owner := "object") (n := "__ne__") (by rw [typeLookup_type, builtinLookup_eq_fast]; kernel_rfl) (by decide +kernel) (by decide +kernel) (by decide +kernel)
  (by first | exact .inl (by decide +kernel) | exact .inr (by decide +kernel)) (by rw [isSubtype_type]; kernel_rfl)
open PySem.W in
/-- x != b where the class says == alone -/
theorem ne_K {Q : Value → Shared → Prop} (hu : A.units + 1 < cLine) (F : Fr h₀ L s.heap m) (X₀ : K.In h₀) (I : InstAt s.heap x ox C od) (hb : Looks (model prog w) s.heap (typeOf b) tb) (hn : notFirst K C tb = true)
    (hne : findIn K (.ref C) "__ne__" = some (some (.builtin "object.__ne__"))) (ho : mroIn K C (.type "object") = some true) (hs : findIn K (.ref C) "__eq__" = some (some (.ref f))) (hf : isFn K (.ref f) = true)
    (h : wpAny (model prog w) A.in1 (call (.ref f) [.ref x, b]) (fun v s' => ∃ r, v = .bool r ∧ Q (.bool (!r)) s') E s) : wpAny (model prog w) A (richCompare .NotEq (.ref x) b) Q E s := by
  have X := X₀.keeps F.keep
  have body : wpAny (model prog w) A (call (.builtin "object.__ne__") [.ref x, b]) (fun v s' => ∃ r, v = .bool r ∧ Q (.bool r) s') E s := by
    refine wpAny_call (codeAny_call_builtin slot_object_ne.plain PySem.F.cmpEntry_ne (check_slot PySem.F.cmpKind_ne PySem.F.cmpSplit_ne (I.type.andThen (looks_mroIn X ho)) (PySem.F.cmpArgs_ne _ _) ?_))
    unfold Builtin.«object.__ne__»
    repeat (first
      | with_reducible refine wpAny_cRoomFor hu ?_
      | (refine wpAny_bind (m := callSpecialIfBound? (.ref x) (Str.ofString "__eq__") [b]) (ifBound_K X I hs hf (wpAny_mono h (fun v s' hv => ?_) fun _ _ e => e)))
      | wp_step)
    obtain ⟨r, rfl, hq⟩ := hv
    exact wpAny_bind (wpAny_truthy_bool (wpAny_pure ⟨!r, rfl, hq⟩))
  have one : wpAny (model prog w) A (tryCompare (.ref x) "__ne__" b) (fun r s' => ∃ c, r = some (.bool c) ∧ Q (.bool c) s') E s := by
    unfold tryCompare
    simp only [callSpecialIfBound?, bindSpecialIfBound?]
    refine wpAny_bind (wpAny_holding (wpAny_bind (wpAny_bind (wpAny_bind (I.type.here ((looks_findIn X hne).here ?_))))))
    have fin : wpAny (model prog w) A (call (.builtin "object.__ne__") ([.ref x] ++ [b]) >>= fun v => pure (some v)) (fun a s' => ∃ r, a = some (.bool r) ∧ Q (.bool r) s') E s :=
      wpAny_bind (wpAny_mono body (fun v s' h' => by
        obtain ⟨r, rfl, hq⟩ := h'
        exact wpAny_pure ⟨r, rfl, hq⟩) fun _ _ h' => h')
    have fin2 := wpAny_mono fin (Q' := fun a s' => wpAny (model prog w) A (match a with
            | some Value.notImplemented => pure none
            | none => pure none
            | some r => pure (some r)) (fun r s' => ∃ c, r = some (Value.bool c) ∧ Q (Value.bool c) s') E s') (fun a s' h' => by
        obtain ⟨r, rfl, hq⟩ := h'
        exact wpAny_pure ⟨r, rfl, hq⟩) fun _ _ h' => h'
    refine wpAny_bind (wpAny_askSetting (wpAny_ite ?_))
    split
    · exact wpAny_bind (wpAny_of_eq (slot_object_ne.bind _) (wpAny_pure (by exact fin2)))
    · exact wpAny_tryCatch (wpAny_bind (wpAny_of_eq (slot_object_ne.bind _) (wpAny_pure (by exact fin2))))
  unfold richCompare
  simp only [oneThing_ref]
  refine wpAny_holding (wpAny_bind (wpAny_cRoomFor (Nat.lt_of_succ_lt hu) ?_))
  rw [cmpInfo_NotEq]
  dsimp only
  refine wpAny_bind (I.type.here (wpAny_bind (hb.here ?_)))
  split
  · rename_i q
    have e : subIn K tb (.ref C) = some false := by
      rcases Bool.or_eq_true_iff.mp hn with e | e
      · rw [beq_iff_eq.mp e] at q; simp at q
      · exact beq_iff_eq.mp e
    refine wpAny_bind ((looks_subIn X e).here ?_)
    simp only [Bool.false_eq_true, if_false]
    refine wpAny_bind (wpAny_mono one (fun r s' z => ?_) fun _ _ e => e)
    obtain ⟨v, rfl, hq⟩ := z
    exact wpAny_pure hq
  · refine wpAny_bind (wpAny_pure ?_)
    simp only [Bool.false_eq_true, if_false]
    refine wpAny_bind (wpAny_mono one (fun r s' z => ?_) fun _ _ e => e)
    obtain ⟨v, rfl, hq⟩ := z
    exact wpAny_pure hq
end

section
variable {X : Cx}
/-- the type t of x: as isinstance's rules know it, or an instance's class -/
def TyL (K : PySem.W.Frag) (H : Hp) (x : V) (t : Value) : Prop := TyX K H x t ∨ ∃ (a C dx : Addr) (fs : List (Str × V)), x = .ref a ∧ H a = some (.ins C dx fs) ∧ t = .ref C
theorem look_ty {P : Program} {w : World} {pins : List (Addr × Obj)} {σ : L2.St} {H : Hp} {s : Shared} {x : V} {u t : Value} (I : Inv X pins σ H s) (rx : RelV x u) (h : TyL X.K H x t) : PySem.W.Looks (model P w) s.heap (typeOf u) t := by
  rcases h with h | ⟨a, C, dx, fs, rfl, ha, rfl⟩
  · obtain ⟨P', Z, p, _⟩ := kit_of I rx h
    exact Z.ty _ _ I.kIn p
  · obtain rfl : u = Value.ref a := rx
    obtain ⟨od, m, J, _⟩ := ins_at I ha
    exact J.type
/-- x == y, x an own instance -/
def rEqO (X : Cx) : R2 := fun x y H Q => ∃ (a C dx : Addr) (fs : List (Str × V)) (n : Nat) (sp : Sp) (t : Value), x = .ref a ∧ H a = some (.ins C dx fs) ∧ TyL X.K H y t ∧ PySem.W.notFirst X.K C t = true ∧ OG X.prog X.w X.K X.mg X.base n C "__eq__" sp ∧ Room n X.A ∧
  sp [.ref a, y] H (fun v H' => ∃ b, v = .bl b ∧ Q (.bl b) H') E0
theorem rc_eqO {A : Around} {pins : List (Addr × Obj)} {σ : L2.St} {H : Hp} {s : Shared} {y : V} {u t : Value} {n : Nat} {a C dx : Addr} {fs : List (Str × V)} {sp : Sp} {Q : Bool → Hp → Prop} (I : Inv X pins σ H s) (ea : H a = some (.ins C dx fs)) (ry : RelV y u) (ty : TyL X.K H y t)
    (hn : PySem.W.notFirst X.K C t = true) (G : OG X.prog X.w X.K X.mg X.base n C "__eq__" sp) (sb : Sub X n A) (q : sp [.ref a, y] H (fun v H' => ∃ b, v = .bl b ∧ Q b H') E0) :
    wpAny (model X.prog X.w) A (richCompare .Eq (.ref a) u) (fun r s' => ∃ b, r = .bool b ∧ ∃ H', Inv X pins σ H' s' ∧ Q b H') X.xe s := by
  obtain ⟨g, hf, hfn, _, F⟩ := G.ex
  obtain ⟨od, m, J, Fm⟩ := ins_at I ea
  refine PySem.W.cmp_K (op := .Eq) sb.room.units0 Fm I.ok.mod.kin J (look_ty I ry ty) hn hf hfn (wpAny_mono (run_sub (us := [.ref a, u]) (vs := [.ref a, y]) F sb I (.cons rfl (.cons ry .nil)) q) (fun v s' z => ?_) fun _ _ z => z)
  obtain ⟨v1, H', I', rv, b, rfl, q'⟩ := z
  obtain rfl : v = Value.bool b := rv
  exact ⟨b, rfl, H', I', q'⟩
theorem op_eqO : OpR X (compareOp .Eq) (rEqO X) := by
  intro pins s σ H x y v u Q I rx ry h
  obtain ⟨a, C, dx, fs, n, sp, t, rfl, ea, ty, hn, G, hr, q⟩ := h
  obtain rfl : v = Value.ref a := rx
  show wpAny _ _ (richCompare .Eq (.ref a) u) _ _ _
  refine wpAny_mono (rc_eqO I ea ry ty hn G (Sub.self hr) (Q := fun b H' => Q (.bl b) H') q) (fun r s' z => ?_) fun _ _ z => z
  obtain ⟨b, rfl, H', I', q'⟩ := z
  exact ⟨.bl b, H', I', rfl, q'⟩
/-- x != y, x an own instance whose class says == alone -/
def rNeO (X : Cx) : R2 := fun x y H Q => ∃ (a C dx : Addr) (fs : List (Str × V)) (n : Nat) (sp : Sp) (t : Value), x = .ref a ∧ H a = some (.ins C dx fs) ∧ TyL X.K H y t ∧ PySem.W.notFirst X.K C t = true ∧
  PySem.W.findIn X.K (.ref C) "__ne__" = some (some (.builtin "object.__ne__")) ∧ PySem.W.mroIn X.K C (.type "object") = some true ∧ OG X.prog X.w X.K X.mg X.base n C "__eq__" sp ∧ Room (n + 1) X.A ∧
  sp [.ref a, y] H (fun v H' => ∃ b, v = .bl b ∧ Q (.bl (!b)) H') E0
theorem op_neO : OpR X (compareOp .NotEq) (rNeO X) := by
  intro pins s σ H x y v u Q I rx ry h
  obtain ⟨a, C, dx, fs, n, sp, t, rfl, ea, ty, hn, hne, ho, G, hr, q⟩ := h
  obtain rfl : v = Value.ref a := rx
  obtain ⟨g, hf, hfn, _, F⟩ := G.ex
  obtain ⟨od, m, J, Fm⟩ := ins_at I ea
  show wpAny _ _ (richCompare .NotEq (.ref a) u) _ _ _
  refine ne_K (by have := hr.un; omega) Fm I.ok.mod.kin J (look_ty I ry ty) hn hne ho hf hfn (wpAny_mono (run_sub (us := [.ref a, u]) (vs := [.ref a, y]) F (Sub.self hr).in1 I (.cons rfl (.cons ry .nil)) q) (fun v s' z => ?_) fun _ _ z => z)
  obtain ⟨v1, H', I', rv, b, rfl, q'⟩ := z
  obtain rfl : v = Value.bool b := rv
  exact ⟨b, rfl, .bl (!b), H', I', rfl, q'⟩
end
end Mp
set_option maxHeartbeats 4000000
/-! match over texts. -/
namespace Mp
open PySem PySem.Spec PyProof.Rows L2

/-- a pattern that asks whether a text is one of a few: it binds nothing -/
structure PPat (X : Cx) (p : Pattern) (f : Str → Bool) : Prop where
  run : ∀ (pins : List (Addr × Obj)) (s : Shared) (σ : L2.St) (H : Hp) (z : Str) (tk : Tok) (Q : Option (List (Str × Value)) → Shared → Prop), Inv X pins σ H s → (∀ s', Inv X pins σ H s' → Q (if f z = true then some [] else none) s') →
    wpAny (model X.prog X.w) X.A (matchPattern p X.env (.str z tk)) Q X.xe s
structure PPats (X : Cx) (ps : List Pattern) (f : Str → Bool) : Prop where
  run : ∀ (pins : List (Addr × Obj)) (s : Shared) (σ : L2.St) (H : Hp) (z : Str) (tk : Tok) (Q : Option (List (Str × Value)) → Shared → Prop), Inv X pins σ H s → (∀ s', Inv X pins σ H s' → Q (if f z = true then some [] else none) s') →
    wpAny (model X.prog X.w) X.A (matchFirst ps X.env (.str z tk)) Q X.xe s
theorem fm_none {α β : Type} : ∀ l : List α, l.filterMap (fun _ => (none : Option β)) = []
  | [] => rfl
  | _ :: l => by rw [List.filterMap_cons_none rfl]; exact fm_none l
section
variable {X : Cx} {x : Str} {pos : Pos} {p : Pattern} {ps : List Pattern} {f g : Str → Bool}
theorem pp_str {i pos'} : PPat X (.MatchValue (.Constant (.str x) i pos') pos) (fun z => decide (z = x)) := by
  refine ⟨fun pins s σ H z tk Q I h => ?_⟩
  refine wpAny_matchPattern_Value (Calls.Constant_str (eq_str (wpAny_truthy_bool ?_)))
  have e := h _ (I.tok (s.toks + 1))
  by_cases hz : z = x
  · subst hz; simpa using e
  · have : (z == x) = false := by simpa using hz
    rw [this]
    simpa [hz] using e
theorem pps_nil : PPats X [] (fun _ => false) := ⟨fun pins s σ H z tk Q I h => wpAny_matchFirst_nil (by have := h s I; simpa using this)⟩
theorem pps_cons (h1 : PPat X p f) (h2 : PPats X ps g) : PPats X (p :: ps) (fun z => f z || g z) := by
  refine ⟨fun pins s σ H z tk Q I h => ?_⟩
  refine wpAny_matchFirst_cons (h1.run pins s σ H z tk _ I fun s' I' => ?_)
  cases e : f z with
  | true => simpa [e] using h s' I'
  | false =>
    simp only [Bool.false_eq_true, if_false]
    refine h2.run pins s' σ H z tk _ I' fun s2 I2 => ?_
    simpa [e] using h s2 I2
theorem pp_or (h : PPats X ps f) : PPat X (.MatchOr ps pos) f := by
  refine ⟨fun pins s σ H z tk Q I q => ?_⟩
  refine wpAny_matchPattern_Or (h.run pins s σ H z tk _ I fun s' I' => ?_)
  cases e : f z with
  | true =>
    have z := q s' I'
    rw [e, if_pos rfl] at z
    show Q (some (List.filterMap (fun n => none) (namesOfAll (List.take 1 ps)))) s'
    rw [fm_none]
    exact z
  | false => simpa [e] using q s' I'
end

/-- the cases of a match over a text -/
structure PMs (X : Cx) (cs : List MatchCase) (t : Str → TS) : Prop where
  run : ∀ (first : Bool) (pins : List (Addr × Obj)) (s : Shared) (σ : L2.St) (H : Hp) (z : Str) (tk : Tok) (D : Ends), Inv X pins σ H s → t z D σ H →
    wpAny (model X.prog X.w) X.A (matchCases cs X.env (.str z tk) first) (SP X pins D) X.xe s
def mCons (f : Str → Bool) (t : TS) (u : Str → TS) : Str → TS := fun z D σ H => if f z = true then t D σ H else u z D σ H
def tMatch (te : TE) (t : Str → TS) : TS := fun D σ H => te σ H fun v H1 => ∃ z, v = .str z ∧ t z D σ H1
section
variable {X : Cx} {pos : Pos} {p : Pattern} {f : Str → Bool} {t : TS} {u : Str → TS} {body : List Stmt} {rest : List MatchCase} {e : Expr} {te : TE}
theorem pm_nil : PMs X [] (fun _ => tNext) := ⟨fun _ _ _ σ H _ _ _ I h => wpAny_matchCases_nil ⟨σ, H, I, h⟩⟩
theorem pm_cons (hp : PPat X p f) (hb : PSs X body t) (hr : PMs X rest u) : PMs X (⟨p, none, body⟩ :: rest) (mCons f t u) := by
  refine ⟨fun first pins s σ H z tk D I h => ?_⟩
  refine wpAny_matchCases_cons (hp.run pins s σ H z tk _ I fun s' I' => ?_)
  unfold mCons at h
  cases e : f z with
  | true =>
    simp only [if_true, List.map_nil]
    rw [e] at h
    exact wpAny_assignInOrder_none (hb.run pins s' σ H D I' (by simpa using h))
  | false =>
    simp only [Bool.false_eq_true, if_false]
    rw [e] at h
    exact hr.run false pins s' σ H z tk D I' (by simpa using h)
theorem ps_match {cs : List MatchCase} (he : PE X e te) (hc : PMs X cs u) : PS X (.Match e cs pos) (tMatch te u) := by
  refine ⟨fun pins s σ H D I h => ?_⟩
  refine wpAny_Match (thn (he.run pins s σ H _ I h) fun v s1 ⟨x, H1, I1, r1, q1⟩ => ?_)
  obtain ⟨z, rfl, q⟩ := q1
  obtain ⟨tk, rfl⟩ := r1
  exact hc.run true pins s1 σ H1 z tk D I1 q
end
end Mp
set_option maxHeartbeats 4000000
/-! super().m(..) in a plain own class. -/
namespace Mp
open PySem PySem.Spec PyProof.Rows L2

theorem rev_lookup {x : Str} {u : Value} : ∀ {P : List Str} {us : List Value} {i : Nat}, P.Nodup → P[i]? = some x → us[i]? = some u → (P.zip us).reverse.lookup x = some u
  | [], _, _, _, h, _ => by simp at h
  | _ :: _, [], _, _, _, h => by simp at h
  | p :: P, w :: us, 0, nd, h1, h2 => by
    simp at h1 h2; subst h1; subst h2
    have no : (P.zip us).reverse.lookup p = none := by
      rw [List.lookup_eq_none_iff]
      intro q hq
      obtain ⟨a, b⟩ := q
      have hm := (List.of_mem_zip (List.mem_reverse.mp hq)).1
      have ne : p ≠ a := fun e => (List.nodup_cons.mp nd).1 (e ▸ hm)
      simpa using ne
    rw [List.zip_cons_cons, List.reverse_cons, List.lookup_append, no]
    simp [List.lookup]
  | p :: P, w :: us, i + 1, nd, h1, h2 => by
    rw [List.zip_cons_cons, List.reverse_cons, List.lookup_append, rev_lookup (i := i) (List.nodup_cons.mp nd).2 (by simpa using h1) (by simpa using h2)]
    rfl

/-- a def that says super(): its names -/
structure SuScope (N P : List Str) (sc : Scope) : Prop where
  kind : sc.kind = .function
  co : sc.isCoroutine = false
  gen : sc.isGenerator = false
  nd : N.Nodup
  pre : N.take P.length = P
  par : ∀ x ∈ P, sc.names.lookup x = some .local
  nocell : ∀ y ∈ sc.names, y.2 ≠ .cell
  free : ∀ y ∈ sc.names, y.2 = .free → y.1 = "__class__"
def suSB (N P : List Str) (sc : Scope) : Bool :=
  decide (sc.kind = .function) && !sc.isCoroutine && !sc.isGenerator && decide N.Nodup && decide (N.take P.length = P) && P.all (fun x => decide (sc.names.lookup x = some .local)) && sc.names.all (fun y => !decide (y.2 = .cell) && (!decide (y.2 = .free) || decide (y.1 = ("__class__" : Str))))
theorem suScope_by {N P : List Str} {sc : Scope} (h : suSB N P sc = true) : SuScope N P sc := by
  unfold suSB at h
  simp only [Bool.and_eq_true, Bool.or_eq_true, Bool.not_eq_true', decide_eq_true_eq, decide_eq_false_iff_not, List.all_eq_true] at h
  obtain ⟨⟨⟨⟨⟨⟨h1, h2⟩, h3⟩, h4⟩, h5⟩, h6⟩, h7⟩ := h
  refine ⟨h1, h2, h3, h4, h5, h6, fun y hy => (h7 y hy).1, fun y hy e => ?_⟩
  rcases (h7 y hy).2 with z | z
  · exact absurd e z
  · exact z

/-- the context of its body -/
def cxSu (CX : CXT) (P : Program) (w : World) (K : PySem.W.Frag) (mg : Str → Option Value) (base : Heap) (N : List Str) (qual : Str) (scope : Scope) (f : Addr) (cd : Value) (cc : Addr) (A : Around) (outer : List Env) (s : Shared) (H : Hp) (E : XK) : Cx where
  prog := P
  w := w
  K := K
  mg := mg
  base := base
  A := A.deeper (PySem.W.ksEnv qual scope s.heap.objs.size f cd cc)
  N := N
  s_0 := s
  H_0 := H
  env := PySem.W.ksEnv qual scope s.heap.objs.size f cd cc
  outer := outer
  stack := PySem.W.ksEnv qual scope s.heap.objs.size f cd cc :: outer
  ex := []
  calm := true
  fn := fun _ => false
  pn := []
  xe := fun e s' => wpAny (model P w) (A.deeper (PySem.W.ksEnv qual scope s.heap.objs.size f cd cc)) (leaving (PySem.W.ksEnv qual scope s.heap.objs.size f cd cc) e) (fun _ s'' => CX outer H s E e s'') (fun e' s'' => CX outer H s E e' s'') s'

theorem one_lookup {x y : Str} {c d : Addr} (h : [(x, c)].lookup y = some d) : y = x ∧ d = c := by
  by_cases e : y = x
  · subst e
    simp [List.lookup] at h
    exact ⟨rfl, h.symm⟩
  · have : (y == x) = false := by simpa using e
    simp [List.lookup, this] at h

theorem inv_startS {CX : CXT} {P : Program} {w : World} {K : PySem.W.Frag} {mg : Str → Option Value} {base : Heap} {N ps : List Str} {qual : Str} {scope : Scope} {f cc : Addr} {cd cl u0 : Value} {cld : Option Addr} {csl : Array (Option Value)} {A : Around} {outer : List Env} {s : Shared} {H : Hp} {E : XK} {us : List Value} {vs : List V}
    (S : SuScope N ps scope) (hd : A.handled = none) (e0 : Env0 P w K mg base A outer s H) (hcc : K.lookup cc = some ⟨cl, cld, .cell (some u0), csl⟩) (hl : vs.length = ps.length) (r : Vals vs us) {h1 : Heap} {tk : Nat}
    (hns : h1.Ns s.heap.objs.size fun y => (ps.zip us).reverse.lookup y) (kp : ∀ b o, s.heap.get? b = some o → h1.get? b = some o) :
    Inv (cxSu CX P w K mg base N qual scope f cd cc A outer s H E) [] (start N vs) H { s with heap := h1, toks := tk } := by
  have hpl : ps.length ≤ N.length := by have := congrArg List.length S.pre; rw [List.length_take] at this; omega
  have noA : ∀ b : Addr, b ∉ (cxSu CX P w K mg base N qual scope f cd cc A outer s H E).ex := fun b z => absurd (show b ∈ ([] : List Addr) from z) (by simp)
  have hb := e0.mod.kin _ _ hcc
  refine ⟨⟨e0.mod, S.kind, rfl, rfl, Nat.le_refl _, fun y z c e1 e2 => ?_, fun y hy => ?_, fun y c z _ => ?_, fun _ => hd, Around.frames_deeper e0.frames, .inr ⟨rfl, rfl⟩, fun b z => absurd z (noA b), e0.bs, e0.bsz, fun b _ _ => noA b, fun b z => absurd z (noA b), e0.funs, e0.frf⟩,
    rfl, e0.bare, Un.kept kp, ⟨_, hns, fun i y v h1 h2 h3 => ?_⟩, fun y c e => ?_, e0.hok.fresh (Nat.le_refl _), fun y c e => ?_, fun p hp => absurd (show p ∈ ([] : List (Addr × Obj)) from hp) (by simp), e0.hok.kept kp, ?_⟩
  · exact (one_lookup e1).1.trans (one_lookup e2).1.symm
  · have hy : scope.names.lookup y = some .cell ∨ scope.names.lookup y = some .free := hy
    rcases hy with hy | hy
    · exact absurd rfl (S.nocell _ (PySem.mem_of_lookup hy))
    · have e := S.free _ (PySem.mem_of_lookup hy) rfl
      exact ⟨cc, by rw [show y = "__class__" from e]; rfl⟩
  · have z : false = true := z
    cases z
  · have hi : i < vs.length := by
      unfold L2.start at h2
      by_cases hi : i < vs.length
      · exact hi
      · rw [List.getElem?_append_right (by simpa using hi)] at h2
        rw [List.getElem?_replicate] at h2
        split at h2 <;> cases h2
    have ha : vs[i]? = some v := by
      unfold L2.start at h2
      rw [List.getElem?_append_left (by simpa using hi), List.getElem?_map] at h2
      cases e : vs[i]? with
      | none => rw [e] at h2; cases h2
      | some a => rw [e] at h2; cases h2; rfl
    obtain ⟨u, hu, rv⟩ := r.get ha
    have hp : ps[i]? = some y := by
      rw [← S.pre, List.getElem?_take_of_lt (by omega)]; exact h1
    have ndP : ps.Nodup := by rw [← S.pre]; exact S.nd.sublist (List.take_sublist _ _)
    exact ⟨u, rv, .inl ⟨S.par y (List.mem_of_getElem? hp), rev_lookup ndP hp hu⟩⟩
  · obtain ⟨_, rfl⟩ := one_lookup e
    exact ⟨_, _, kp _ _ (e0.bs _ _ hb).1, rfl⟩
  · obtain ⟨_, rfl⟩ := one_lookup e
    exact (e0.bs _ _ hb).2
  · unfold L2.start
    show _ = N.length
    rw [List.length_append, List.length_map, List.length_replicate]
    omega

/-- a block whose first statement may say super() -/
structure PSu (X : Cx) (body sts : List Stmt) (t : TS) : Prop where
  run : ∀ (pins : List (Addr × Obj)) (s : Shared) (σ : L2.St) (H : Hp) (D : Ends), Inv X pins σ H s → t D σ H → PySem.wpAt (model X.prog X.w) X.A (.func body X.env) (execs sts X.env) (SP X pins D) X.xe s

section
variable {CX : CXT} {P : Program} {w : World} {K : PySem.W.Frag} {mg : Str → Option Value} {base : Heap} {k : Nat} {f cc : Addr} {name qual : Str} {params : Arguments} {body : List Stmt} {scope : Scope} {dV kV doc pm cdv ct oc cl u0 : Value} {an od cld : Option Addr} {csl : Array (Option Value)}
  {osl : Array (Option Value)} {N ps : List Str} {sp : Sp}
theorem run_bndS {A : Around} {outer : List Env} {s : Shared} {H : Hp} {args : Args} {Q : VK} {E : XK} {G : List V → Hp → Prop} (lk : K.lookup f = some ⟨oc, od, .func (PySem.W.ksFn name qual params body scope dV kV doc pm an cdv ct cc), osl⟩) (hcd : PySem.W.codeIn K cdv qual = true)
    (hcc : K.lookup cc = some ⟨cl, cld, .cell (some u0), csl⟩)
    (S : SuScope N ps scope) (hr : Room (k + 1) A) (e0 : Env0 P w K mg base A outer s H) (hb : StX.Bnd CX P w K mg base (PySem.W.ksFn name qual params body scope dV kV doc pm an cdv ct cc) args ps A outer s H E G)
    (hbody : ∀ (s2 : Shared) (H2 : Hp) (vs : List V), G vs H2 → Room k (A.deeper (PySem.W.ksEnv qual scope s2.heap.objs.size f cdv cc)) →
      ∃ t, PSu (cxSu CX P w K mg base N qual scope f cdv cc A outer s2 H2 E) body body t ∧ t { nx := fun _ H' => Q .non H', rt := Q } (start N vs) H2) : codeAny (model P w) A (.call (.ref f) args) (CR CX outer P w H s Q E) s := by
  have KX : K.In s.heap := e0.mod.kin.keeps fun b o e => (e0.bs b o e).1
  refine codeAny_call_function hr.depth (KX _ _ lk) rfl S.co S.gen rfl (PySem.W.codeRec_of KX hcd) ?_
  refine hb _ _ _ fun s2 H2 vs us e2 un ho hx r hl g => ?_
  have lim : s2.heap.NoLimit := e0.mod.nolimit.keeps fun b o e => (e2.bs b o e).1
  refine wpAny_newFunctionEnv (s := s2) S.nocell (fun y hy => S.par y.1 (List.of_mem_zip hy).1) (fun h1 hns hsb => ?_) S.kind
  have kp : ∀ b o, s2.heap.get? b = some o → h1.get? b = some o := fun b o e => hsb.extBut b o (Nat.ne_of_lt (Heap.lt_size e)) (Heap.get?_push_of_some _ e)
  refine ⟨lim.fresh _ hsb, PySem.ks_codeAny_funcAt ?_⟩
  obtain ⟨t, ht, hq⟩ := hbody s2 H2 vs g (hr.deeper _)
  have I : Inv (cxSu CX P w K mg base N qual scope f cdv cc A outer s2 H2 E) [] (start N vs) H2 { s2 with heap := h1, toks := s2.toks + (ps.zip us).length } := inv_startS S hr.hd e2 hcc hl r hns kp
  refine PySem.wpAt_mono (ht.run [] _ _ _ _ I hq) (fun fl s' hs => ?_) fun e s' hs => ?_
  · have fin : ∀ {σ' : L2.St} {H' : Hp} {v' : V} {u' : Value}, Inv (cxSu CX P w K mg base N qual scope f cdv cc A outer s2 H2 E) [] σ' H' s' → RelV v' u' → Q v' H' → CE outer P w H s Q u' s' :=
      fun {σ' H' v' u'} J rv' q => ⟨v', H', J.os.trans ho, J.bare, un.trans J.base, J.hok, rv', q⟩
    cases fl with
    | ret u' =>
      obtain ⟨v', σ', H', J, rv', q⟩ := hs
      exact fin J rv' q
    | next =>
      obtain ⟨σ', H', J, q⟩ := hs
      exact fin (v' := V.non) (u' := Value.none) J rfl q
    | brk =>
      obtain ⟨_, _, _, q⟩ := hs
      exact False.elim q
    | cont =>
      obtain ⟨_, _, _, q⟩ := hs
      exact False.elim q
  · exact wpAny_mono hs (fun _ s'' z => hx e s'' z) fun e' s'' z => hx e' s'' z
end

theorem psu_of {X : Cx} {body sts : List Stmt} {t : TS} (h : PSs X sts t) : PSu X body sts t := ⟨fun pins s σ H D I q => PySem.wpAt_of_wpAny (h.run pins s σ H D I q)⟩

/-- what the text must have for super().m in the def at f: sf is its first name -/
structure SuDef (X : Cx) (f D : Addr) (sf : Str) : Prop where
  fu : X.env.func = some f
  fd : ∃ oc od fd osl ar, X.K.lookup f = some ⟨oc, od, .func fd, osl⟩ ∧ (fd.params.posonlyargs ++ fd.params.args).head? = some ar ∧ ar.arg = sf
  code : ∃ cda ccl cdd vs ccs file tf, X.env.code = .ref cda ∧ X.K.lookup cda = some ⟨ccl, cdd, .fields vs, ccs⟩ ∧ vs[2]? = some (.str file tf) ∧ ((X.prog.main.file : Str) == file) = true
  cell : ∃ cc cl cld csl, X.env.cells.lookup ("__class__" : Str) = some cc ∧ X.K.lookup cc = some ⟨cl, cld, .cell (some (.ref D)), csl⟩
  cls : ∃ cdD, PySem.W.clsIn X.K D = some cdD
  ks : X.env.kindOf "super" = some .globalImplicit
  kc : X.env.kindOf "__class__" = some .free
  top : (X.prog.main.scope.names.lookup ("super" : Str)).isSome = false
  mg : X.mg "super" = none
/-- .. of the instance's class: the method m found behind D -/
structure SuMet (P : Program) (w : World) (K : PySem.W.Frag) (mg : Str → Option Value) (base : Heap) (k : Nat) (C D : Addr) (m : Str) (sp : Sp) : Prop where
  sub : PySem.W.mroIn K C (.ref D) = some true
  ex : ∃ g, PySem.W.ks_superIn K C D m = some (some (.ref g)) ∧ PySem.W.typeIn K (.ref g) = some (.type "function") ∧ PySem.W.fnIn K g = true ∧ FnR P w K mg base CX0 k g sp
theorem superIn_cls {K : PySem.W.Frag} {C D : Addr} {m : Str} {v : Option Value} (h : PySem.W.ks_superIn K C D m = some v) : ∃ cd, PySem.W.clsIn K C = some cd ∧ PySem.W.alongIn K m ((cd.mro.dropWhile (· != .ref D)).drop 1) = some v := by
  unfold PySem.W.ks_superIn at h
  cases hc : PySem.W.clsIn K C with
  | none => rw [hc] at h; cases h
  | some cd => rw [hc] at h; exact ⟨cd, rfl, h⟩
section
variable {X : Cx} {f D : Addr} {m sf : Str} {body rest : List Stmt} {e : Expr} {es : List Expr} {t : TA} {u : TS} {p0 p1 apos pos pos' : Pos} {pl : Sem Bool}
/-- super().m(e, ..), then the rest -/
def tSuper (X : Cx) (D : Addr) (m : Str) (t : TA) (u : TS) : TS := fun Dn σ H => ∃ (a C dx : Addr) (fs : List (Str × V)) (n : Nat) (sp : Sp), σ[0]? = some (some (V.ref a)) ∧ H a = some (.ins C dx fs) ∧ SuMet X.prog X.w X.K X.mg X.base n C D m sp ∧ Room n X.A ∧
  PySem.W.nsIn X.K cStatics "thirdparty.any" = some none ∧ t σ H fun vs H1 => sp (V.ref a :: vs) H1 (fun _ H2 => u Dn σ H2) E0
theorem psu_super (S : SuDef X f D sf) (hN : X.N[0]? = some sf) (hv : X.env.kindOf sf = some .local) (hvis : Vis X.env.scope sf) (hk : X.env.scope.kind = .function) (ha : PA X (e :: es) t) (hr : PSs X rest u)
    (hi : interactive X.env = false := by rfl) (hm : (m == ("__class__" : Str)) = false := by decide)
    (hs : swapsWith (.Call (.Attribute (.Call (.Name "super" p0) [] [] p1) m apos) (e :: es) [] pos) none pos'.line X.env = pure false := by rfl)
    (he : eval (.Call (.Attribute (.Call (.Name "super" p0) [] [] p1) m apos) (e :: es) [] pos) X.env = (do
      let ov ← attributeBase (.Call (.Name "super" p0) [] [] p1) m X.env (eval (.Call (.Name "super" p0) [] [] p1) X.env)
      standAt apos.atName
      let (f, first) ← holding [ov] (getMethod ov m pl)
      callWith pos f first (backTo pos (starEach (e :: es) X.env)) []) := by rfl)
    (hst : starEach (e :: es) X.env = (false, eval e X.env) :: starEach es X.env := by rfl) (hpl : (backTo pos (starEach es X.env)).any (·.1) = false := by rfl) :
    PSu X body (.Expr (.Call (.Attribute (.Call (.Name "super" p0) [] [] p1) m apos) (e :: es) [] pos) pos' :: rest) (tSuper X D m t u) := by
  refine ⟨fun pins s σ H Dn I h => ?_⟩
  obtain ⟨a, C, dx, fs, n, sp, hσ, ea, ⟨hsub, g, hsi, hty, hfn, F⟩, hroom, hopq, hq⟩ := h
  obtain ⟨cd, hC, hal⟩ := superIn_cls hsi
  obtain ⟨od, mm, J, Fm⟩ := ins_at I ea
  obtain ⟨oc, od', fd, osl, ar, lf, hp, har⟩ := S.fd
  obtain ⟨cda, ccl, cdd, vs, ccs, file, tf, hco, lc, hvs, hfile⟩ := S.code
  obtain ⟨cc, cl, cld, csl, hcc, lcc⟩ := S.cell
  obtain ⟨cdD, hD⟩ := S.cls
  obtain ⟨oD, hD1, hD2⟩ : ∃ oD, X.K.lookup D = some oD ∧ oD.data = .cls cdD := by
    unfold PySem.W.clsIn at hD
    split at hD
    · rename_i c d cd' sl ho
      cases hD
      exact ⟨_, ho, rfl⟩
    · cases hD
  refine PySem.ks_wpAt_execs_cons (PySem.ks_wpAt_Expr_any (Q := fun f' s' => match f' with | .next => PySem.wpAt (model X.prog X.w) X.A (.func body X.env) (execs rest X.env) (SP X pins Dn) X.xe s' | f' => SP X pins Dn f' s') ?_ hi hs)
  refine PySem.ks_wpAt_MethodCall (pl := pl) ?_ he
  have K0 := I.kIn
  refine PySem.ks_wpAt_super_base S.ks S.kc hm S.fu (K0 _ _ lf) rfl hp hco (K0 _ _ lc) rfl hvs hfile S.top ?_
  obtain ⟨mb, b1, b2⟩ := I.mod.blt
  refine PySem.W.ks_loadName_global hk S.ks (Calls.loadGlobal_builtin (by rw [I.ok.glob]; exact I.mod.glob.keeps I.bk) S.mg (by rw [I.ok.blt]; exact b1.keeps I.bk) ((b2 _ (by decide)).trans (show bootBuiltins "super" = some (.type "super") by first | rfl | kernel_rfl)) ⟨rfl, ?_⟩)
  refine wpAny_loadName_free hk S.kc hcc ⟨_, K0 _ _ lcc, rfl⟩ ?_
  obtain ⟨m0, hn, hl⟩ := id I.loc
  obtain ⟨u0, r0, l0⟩ := hl 0 sf (V.ref a) hN hσ hvis
  obtain rfl : u0 = Value.ref a := r0
  have hv2 : m0 sf = some (.ref a) := by
    rcases l0 with ⟨_, z⟩ | ⟨z, _⟩
    · exact z
    · rcases z with z | z <;> (rw [hv] at z; cases z)
  rw [har]
  refine wpAny_loadName_local hk hv hn hv2 ?_
  obtain ⟨hh, gs, dr, tk, os⟩ := s
  refine PySem.ks_wpAny_isType_cls (K0 _ _ hD1) hD2 ⟨rfl, ?_⟩
  refine PySem.ks_wpAny_call_super (K0 _ _ hD1) hD2 J.at_ J.cls (fun c e => ?_) (PySem.W.looks_mroIn K0 hsub) (fun h' e k => ?_)
  · have := J.no
    unfold PySem.W.notCls at this
    rw [e] at this
    exact Bool.noConfusion this
  · -- the super object, pinned
    have I2 := ClX.pin_new (t' := tk) (o := PySem.W.ks_superObj D a C) I k (Nat.le_refl _) e (fun v z => nomatch z)
    have K2 := I2.kIn
    obtain ⟨of, hof, hofc⟩ : ∃ of, X.K.lookup g = some of ∧ of.cls = .type "function" := by
      have ht' : (X.K.lookup g).map (·.cls) = some (.type "function") := hty
      cases z : X.K.lookup g with
      | none => rw [z] at ht'; cases ht'
      | some of => rw [z] at ht'; exact ⟨of, rfl, Option.some.inj ht'⟩
    refine PySem.ks_wpAny_getMethod_super e (PySem.W.looks_opaque K2 hopq) (l₀ := cd.mro) (fun A Q E s k q => wpAny_bind ((PySem.W.looks_clsIn K2 hC) A _ E s k (wpAny_pure q))) rfl K2 hal (K2 _ _ hof) hofc (PySem.W.ks_ne K0 J hC) hm ?_
    have I3 := ClX.met_new (g := g) (C := a) (ClX.unpin I2)
    refine ClX.callwith_cm I3 (ClX.base_none (ClX.unpin I2) (Nat.le_refl _)) hfn (thn (ha.run pos _ _ σ H _ I3 hq) fun us s3 ⟨vs', H2, I4, rv, q2⟩ => ⟨⟨ClX.pin_at I4, I4.kIn⟩, ?_⟩) hst hpl
    refine thn (ClX.run_cm F hroom (fun _ _ _ _ _ _ _ z => z.elim) I4 rv q2) fun v s5 ⟨x, H3, I5, _, q3⟩ => ?_
    exact PySem.wpAt_of_wpAny (hr.run pins _ σ H3 Dn I5 q3)
end
end Mp
set_option maxHeartbeats 4000000
/-! Promises of defs that say super(); making instances: C(e, *y, k = v), cls(*y), C(). -/
namespace Mp
open PySem PySem.Spec PyProof.Rows L2

section
variable {CX : CXT} {P : Program} {w : World} {K : PySem.W.Frag} {mg : Str → Option Value} {base : Heap} {k : Nat} {f cc : Addr} {name qual : Str} {params : Arguments} {body : List Stmt} {scope : Scope} {dV kV doc pm cdv ct oc cl u0 : Value} {an od cld : Option Addr} {csl : Array (Option Value)}
  {osl : Array (Option Value)} {N ps : List Str} {sp : Sp}
theorem bnd_plain {fd : FuncData} {A : Around} {outer : List Env} {s : Shared} {H : Hp} {us : List Value} {vs : List V} {E : XK} (e0 : Env0 P w K mg base A outer s H) (hb : bindArgs fd ⟨us, []⟩ = pure (ps.zip us)) (r : Vals vs us) (hl : vs.length = ps.length) :
    StX.Bnd CX P w K mg base fd ⟨us, []⟩ ps A outer s H E (fun xs H2 => xs = vs ∧ H2 = H) := fun A' Ex Q h => by
  rw [hb]
  exact wpAny_pure (h s H vs us e0 Un.refl rfl (fun _ _ z => z) r hl ⟨rfl, rfl⟩)
/-- a def (plain parameters) that says super() -/
theorem fn_su (lk : K.lookup f = some ⟨oc, od, .func (PySem.W.ksFn name qual params body scope dV kV doc pm an cdv ct cc), osl⟩) (hcd : PySem.W.codeIn K cdv qual = true) (hcc : K.lookup cc = some ⟨cl, cld, .cell (some u0), csl⟩)
    (S : SuScope N ps scope) (len : ∀ vs H Q E, sp vs H Q E → vs.length = ps.length)
    (hb : ∀ us : List Value, us.length = ps.length → bindArgs (PySem.W.ksFn name qual params body scope dV kV doc pm an cdv ct cc) ⟨us, []⟩ = pure (ps.zip us))
    (hbody : ∀ (A : Around) (outer : List Env) (s : Shared) (H : Hp) (vs : List V) (Q : VK) (E : XK), Room k (A.deeper (PySem.W.ksEnv qual scope s.heap.objs.size f cdv cc)) → sp vs H Q E →
      ∃ t, PSu (cxSu CX P w K mg base N qual scope f cdv cc A outer s H E) body body t ∧ t { nx := fun _ H' => Q .non H', rt := Q } (L2.start N vs) H) : FnR P w K mg base CX (k + 1) f sp := by
  intro A outer s H us vs Q E hr e0 r hsp
  have hl := len _ _ _ _ hsp
  refine run_bndS lk hcd hcc S hr e0 (bnd_plain e0 (hb us (by rw [← r.length]; exact hl)) r hl) fun s2 H2 xs ⟨ex, eH⟩ hr' => ?_
  subst ex eH
  exact hbody A outer s2 _ _ Q E hr' hsp
/-- def f(a, .., *v) that says super() -/
theorem fn_suStar {pv : Str} (lk : K.lookup f = some ⟨oc, od, .func (PySem.W.ksFn name qual params body scope dV kV doc pm an cdv ct cc), osl⟩) (hcd : PySem.W.codeIn K cdv qual = true) (hcc : K.lookup cc = some ⟨cl, cld, .cell (some u0), csl⟩)
    (S : SuScope N (ps ++ [pv]) scope) (hCX : StX.CXUp CX)
    (hb : ∀ us rest : List Value, us.length = ps.length → bindArgs (PySem.W.ksFn name qual params body scope dV kV doc pm an cdv ct cc) ⟨us ++ rest, []⟩ = (newTuple rest >>= fun t => pure (ps.zip us ++ [(pv, t)])))
    (hbody : ∀ (A : Around) (outer : List Env) (s : Shared) (H : Hp) (vs : List V) (Q : VK) (E : XK), Room k (A.deeper (PySem.W.ksEnv qual scope s.heap.objs.size f cdv cc)) → sp vs H Q E →
      ∃ t, PSu (cxSu CX P w K mg base N qual scope f cdv cc A outer s H E) body body t ∧ t { nx := fun _ H' => Q .non H', rt := Q } (L2.start N vs) H) :
    FnR P w K mg base CX (k + 1) f (fun vs H Q E => ∃ ws rest, vs = ws ++ rest ∧ ws.length = ps.length ∧ rest.length ≤ sizeLine ∧ ∀ p, H p = Option.none → sp (ws ++ [V.ref p]) (upd H p (.tup rest)) Q E) := by
  intro A outer s H us vs Q E hr e0 r hsp
  obtain ⟨ws, rest, ev, hl, hz, hq⟩ := hsp
  subst ev
  obtain ⟨u1, u2, eu, r1, r2⟩ := StX.vals_split r
  subst eu
  have hn : H s.heap.objs.size = Option.none := e0.hok.fresh (Nat.le_refl _)
  have hl1 : u1.length = ps.length := by rw [← r1.length]; exact hl
  have hl2 : u2.length ≤ sizeLine := by rw [← r2.length]; exact hz
  refine run_bndS lk hcd hcc S hr e0 (G := fun xs H2 => ∃ p, H p = Option.none ∧ xs = ws ++ [V.ref p] ∧ H2 = upd H p (.tup rest)) (fun A' Ex Q' h => ?_) fun s2 H2 xs ⟨p, hp, ex, eH⟩ hr' => ?_
  · rw [hb u1 u2 hl1]
    refine wpAny_bind (wpAny_newTuple (wpAny_pure ?_) hl2)
    have new : ObjOk P w (upd H s.heap.objs.size (.tup rest)) (s.heap.push ({ cls := .type "tuple", data := .seq u2.toArray } : Obj)) s.heap.objs.size (.tup rest) := ⟨hz, u2, r2, ⟨_, Heap.get?_push_size _ rfl, rfl, _, rfl⟩⟩
    have un := StX.un_laid (fs := frs outer) (s := s) (o := ({ cls := .type "tuple", data := .seq u2.toArray } : Obj)) (u := .tup rest) hn
    have z := h _ _ (ws ++ [V.ref s.heap.objs.size]) (u1 ++ [Value.ref s.heap.objs.size]) (StX.env0_laid e0 new) un rfl (fun e s' => hCX outer s H _ _ E e s' un (fun b o q => Heap.get?_push_of_some _ q) rfl) (r1.append (.cons rfl .nil))
      (by rw [List.length_append, List.length_append, hl] <;> rfl) ⟨_, hn, rfl, rfl⟩
    rw [List.zip_append hl1.symm] at z
    exact z
  · subst ex eH
    exact hbody A outer s2 _ _ Q E hr' (hq p hp)
end

/-! ### keywords behind a star parameter -/
/-- a promise of a def called with positional values and keywords ks -/
def FnK (P : Program) (w : World) (K : PySem.W.Frag) (mg : Str → Option Value) (base : Heap) (CX : CXT) (k : Nat) (f : Addr) (ks : List Str) (sp : List V → List V → Hp → VK → XK → Prop) : Prop :=
  ∀ (A : Around) (outer : List Env) (s : Shared) (H : Hp) (us ws : List Value) (vs zs : List V) (Q : VK) (E : XK), Room k A → Env0 P w K mg base A outer s H → Vals vs us → Vals zs ws → zs.length = ks.length → sp vs zs H Q E →
    codeAny (model P w) A (.call (.ref f) ⟨us, ks.zip ws⟩) (CR CX outer P w H s Q E) s
section
variable {CX : CXT} {P : Program} {w : World} {K : PySem.W.Frag} {mg : Str → Option Value} {base : Heap} {k : Nat} {f : Addr} {name qual : Str} {params : Arguments} {body : List Stmt} {scope : Scope} {dV kV doc pm cdv ct oc : Value} {an od : Option Addr}
  {osl : Array (Option Value)} {N ps ks : List Str} {sp : Sp} {pv : Str}
/-- def f(a, .., *v, k, ..) with all keywords given -/
theorem fn_starK (lk : K.lookup f = some ⟨oc, od, .func (PySem.W.fnOf name qual params body scope dV kV doc pm an cdv ct), osl⟩) (hcd : PySem.W.codeIn K cdv qual = true) (S : FnScope N (ps ++ ks ++ [pv]) scope) (hCX : StX.CXUp CX)
    (hb : ∀ us rest ws : List Value, us.length = ps.length → ws.length = ks.length → bindArgs (PySem.W.fnOf name qual params body scope dV kV doc pm an cdv ct) ⟨us ++ rest, ks.zip ws⟩ = (newTuple rest >>= fun t => pure (ps.zip us ++ ks.zip ws ++ [(pv, t)])))
    (hbody : ∀ (A : Around) (outer : List Env) (s : Shared) (H : Hp) (vs : List V) (Q : VK) (E : XK), Room k (A.deeper (envOfC qual scope s.heap.objs.size f cdv)) → sp vs H Q E →
      ∃ t, PSs (cxOf CX P w K mg base N qual scope f cdv A outer s H E) body t ∧ t { nx := fun _ H' => Q .non H', rt := Q } (L2.start N vs) H) :
    FnK P w K mg base CX (k + 1) f ks (fun vs zs H Q E => ∃ ws rest, vs = ws ++ rest ∧ ws.length = ps.length ∧ rest.length ≤ sizeLine ∧ ∀ p, H p = Option.none → sp (ws ++ zs ++ [V.ref p]) (upd H p (.tup rest)) Q E) := by
  intro A outer s H us kw vs zs Q E hr e0 r rz lz hsp
  obtain ⟨ws, rest, ev, hl, hz, hq⟩ := hsp
  subst ev
  obtain ⟨u1, u2, eu, r1, r2⟩ := StX.vals_split r
  subst eu
  have hn : H s.heap.objs.size = Option.none := e0.hok.fresh (Nat.le_refl _)
  have hl1 : u1.length = ps.length := by rw [← r1.length]; exact hl
  have hl2 : u2.length ≤ sizeLine := by rw [← r2.length]; exact hz
  have hlk : kw.length = ks.length := by rw [← rz.length]; exact lz
  refine StX.run_bnd lk hcd S hr e0 (G := fun xs H2 => ∃ p, H p = Option.none ∧ xs = ws ++ zs ++ [V.ref p] ∧ H2 = upd H p (.tup rest)) (fun A' Ex Q' h => ?_) fun s2 H2 xs ⟨p, hp, ex, eH⟩ hr' => ?_
  · rw [hb u1 u2 kw hl1 hlk]
    refine wpAny_bind (wpAny_newTuple (wpAny_pure ?_) hl2)
    have new : ObjOk P w (upd H s.heap.objs.size (.tup rest)) (s.heap.push ({ cls := .type "tuple", data := .seq u2.toArray } : Obj)) s.heap.objs.size (.tup rest) := ⟨hz, u2, r2, ⟨_, Heap.get?_push_size _ rfl, rfl, _, rfl⟩⟩
    have un := StX.un_laid (fs := frs outer) (s := s) (o := ({ cls := .type "tuple", data := .seq u2.toArray } : Obj)) (u := .tup rest) hn
    have z := h _ _ (ws ++ zs ++ [V.ref s.heap.objs.size]) (u1 ++ kw ++ [Value.ref s.heap.objs.size]) (StX.env0_laid e0 new) un rfl (fun e s' => hCX outer s H _ _ E e s' un (fun b o q => Heap.get?_push_of_some _ q) rfl) ((r1.append rz).append (.cons rfl .nil))
      (by simp only [List.length_append, hl, lz, List.length_cons, List.length_nil]) ⟨_, hn, rfl, rfl⟩
    rw [List.zip_append (by simp only [List.length_append, hl1, hlk]), List.zip_append hl1.symm] at z
    exact z
  · subst ex eH
    exact hbody A outer s2 _ _ Q E hr' (hq p hp)
end

/-! ### new instances -/
theorem callWith_st {M : Model} {A : Around} {E : Value → Shared → Prop} {s : Shared} {pos : Pos} {f : Value} {first : List Value} {Q : Value → Shared → Prop} {P : Heap → Prop} {args : List (Bool × Sem Value)} {kws : List (Option Str × Sem Value)} (hst : args.any (·.1) = true)
    (hk : ∀ h, P h → ∃ k, (k = PySem.Keeper.frame ∨ k = PySem.Keeper.machine ∨ k = PySem.Keeper.boundFrame) ∧ PySem.W.Looks M h (keeperOf f) k)
    (h : wpAny M A (evalArgs f true args kws) (fun a s₁ => P s₁.heap ∧ wpAny M A (call f (first ++ a.pos) a.kw) Q E s₁) E s) : wpAny M A (callWith pos f first args kws) Q E s := by
  unfold callWith
  refine wpAny_bind (wpAny_holding (wpAny_mono h (fun a s₁ h₁ => wpAny_bind (wpAny_standAt ?_)) fun _ _ x => x))
  obtain ⟨k, hk', L⟩ := hk _ h₁.1
  simp only [hst, Bool.true_or]
  refine wpAny_bind (L.here ?_)
  have tail : ∀ {t : Sem Value}, wpAny M A t Q E s₁ → wpAny M A (t >>= fun r => holding [r] point >>= fun _ => pure r) Q E s₁ :=
    fun ht => wpAny_bind (wpAny_mono ht (fun r s₂ hr => wpAny_bind (wpAny_holding (wpAny_point (wpAny_pure hr)))) fun _ _ x => x)
  have marked (mk : Value) : wpAny M A (callMarked mk f (first ++ a.pos) a.kw) Q E s₁ := by unfold callMarked; exact Calls.wpAny_keep h₁.2
  rcases hk' with rfl | rfl | rfl <;> dsimp only <;> first | exact tail (marked _) | exact tail (PySem.wpAny_operating h₁.2)
section
variable {X : Cx} {CX : CXT} {k i : Nat} {f C : Addr} {ks : List Str} {sp : Sp} {spk : List V → List V → Hp → VK → XK → Prop} {E : XK} {x : Str} {p pos sp_ : Pos} {e : Expr} {es : List Expr} {kws : List Keyword} {t tk : TA} {te : TE}
theorem run_makeFK {pins : List (Addr × Obj)} {σ : L2.St} {H : Hp} {s : Shared} {Q : VK} {us ws : List Value} {vs zs : List V} (M : Mk X.K C f) (F : FnK X.prog X.w X.K X.mg X.base CX k f ks spk) (hr : Room (k + 1) X.A)
    (hx : Passes CX X E) (I : Inv X pins σ H s) (r : Vals vs us) (rz : Vals zs ws) (l2 : zs.length = ks.length)
    (h : ∀ x dx, H x = none → H dx = none → dx ≠ x → spk (.ref x :: vs) zs (upd (upd H dx (.own x)) x (.ins C dx [])) (fun v H2 => v = .non ∧ Q (.ref x) H2) E) :
    wpAny (model X.prog X.w) X.A (call (.ref C) us (ks.zip ws)) (EP X pins σ Q) X.xe s := by
  have hq := h (s.heap.objs.size + 1) s.heap.objs.size (I.hok.fresh (Nat.le_succ _)) (I.hok.fresh (Nat.le_refl _)) (Nat.ne_of_lt (Nat.lt_succ_self _))
  have I2 := Inv.made (C := C) I
  have r1 : Vals (V.ref (s.heap.objs.size + 1) :: vs) (Value.ref (s.heap.objs.size + 1) :: us) := .cons rfl r
  refine wpAny_call (make_map (f := f) I.kIn M.makes M.init (beq_iff_eq.mp M.fn) (codeAny_mono (F _ X.stack _ _ (Value.ref (s.heap.objs.size + 1) :: us) ws _ zs _ E (hr.make C us (ks.zip ws))
    (I2.env0.make C us (ks.zip ws)) r1 rz l2 hq) fun r s' hq' => ?_))
  cases r with
  | error e => exact hx pins σ _ _ e s' I2 hq'
  | ok fl =>
    cases fl with
    | ret u =>
      obtain ⟨v, H', I3, rv, ev, q3⟩ := I2.after hq'
      subst ev
      exact ⟨rv, ⟨V.ref (s.heap.objs.size + 1), H', I3, rfl, q3⟩⟩
    | next => exact False.elim hq'
    | brk => exact False.elim hq'
    | cont => exact False.elim hq'
/-- C(e, *y, k = v, ..) -/
def tMakeFK (C : Addr) (ks : List Str) (spk : List V → List V → Hp → VK → XK → Prop) (E : XK) (t tk : TA) : TE := fun σ H Q => t σ H fun vs H1 => tk σ H1 fun zs H2 => zs.length = ks.length ∧
  ∀ x dx, H2 x = none → H2 dx = none → dx ≠ x → spk (.ref x :: vs) zs (upd (upd H2 dx (.own x)) x (.ins C dx [])) (fun v H3 => v = .non ∧ Q (.ref x) H3) E
theorem pe_makeFK (M : Mk X.K C f) (F : FnK X.prog X.w X.K X.mg X.base CX k f ks spk) (hr : Room (k + 1) X.A) (hg : Gl X x) (hm : X.mg x = some (.ref C)) (hx : Passes CX X E)
    (ha : PA X (e :: es) t) (hkw : PK X kws tk) (hall : (backToKw pos (keywordEach kws X.env)).all (·.1.isSome) = true := by rfl) (hks : (backToKw pos (keywordEach kws X.env)).filterMap (·.1) = ks := by rfl)
    (hdb : (x == ("__debug__" : Str)) = false := by decide) (he : starEach (e :: es) X.env = (false, eval e X.env) :: starEach es X.env := by rfl)
    (hst : (backTo pos (starEach (e :: es) X.env)).any (·.1) = true := by rfl) :
    PE X (.Call (.Name x p) (e :: es) kws pos) (tMakeFK C ks spk E t tk) := by
  refine ⟨fun pins s σ H Q I h => ?_⟩
  refine wpAny_Call_Name_kw (ld_glob I hg hm ?_ hdb)
  have core : wpAny (model X.prog X.w) X.A (evalArgs (.ref C) true (backTo pos (starEach (e :: es) X.env)) (backToKw pos (keywordEach kws X.env)))
      (fun a s₁ => X.K.In s₁.heap ∧ wpAny (model X.prog X.w) X.A (call (.ref C) ([] ++ a.pos) a.kw) (EP X pins σ Q) X.xe s₁) X.xe s := by
    refine evalArgs_kw2 hall (thn (ha.run pos pins s σ H _ I h) fun us s1 ⟨vs, H1, I1, r, q⟩ => ?_) he
    refine thn (hkw.run pos pins s1 σ H1 _ I1 q) fun ws s2 ⟨zs, H2, I2, rz, l2, q2⟩ => ⟨I2.kIn, ?_⟩
    rw [hks]
    exact run_makeFK M F hr hx I2 r rz l2 q2
  exact callWith_st (P := fun h => X.K.In h) hst (PySem.W.keeps_K M.kp) core
/-- x( *y), x a local name that holds a class -/
theorem pe_lmakeS {y : Expr} (hN : X.N[i]? = some x) (hv : Vis X.env.scope x) (he : PE X y te) (hd : (x == ("__debug__" : Str)) = false := by decide) (hcd : (x == ("__classdict__" : Str)) = false := by decide)
    (hst : starEach [.Starred y sp_] X.env = [(true, eval y X.env)] := by rfl) :
    PE X (.Call (.Name x p) [.Starred y sp_] [] pos) (fun σ H Q => ∃ (C f : Addr) (k : Nat) (sp : Sp), σ[i]? = some (some (.ref C)) ∧ Mk X.K C f ∧ FnR X.prog X.w X.K X.mg X.base CX0 k f sp ∧ Room (k + 1) X.A ∧
      te σ H fun v H1 => ∃ a xs, v = V.ref a ∧ (SqT X.K H1 a xs ∨ SqL X.K H1 a xs) ∧ ∀ x dx, H1 x = none → H1 dx = none → dx ≠ x → sp (.ref x :: xs) (upd (upd H1 dx (.own x)) x (.ins C dx [])) (fun v H2 => v = .non ∧ Q (.ref x) H2) E0) := by
  refine ⟨fun pins s σ H Q I h => ?_⟩
  obtain ⟨C, f, k, sp, hs, M, F, hr, h⟩ := h
  refine wpAny_Call_Name_kw (thn ((pe_var (pos := p) (i := i) hN hv hd hcd).run pins s σ H (fun v H1 => v = .ref C ∧ H1 = H) I ⟨.ref C, hs, rfl, rfl⟩) fun u s1 ⟨v, H1, I1, r1, ev, eH⟩ => ?_)
  subst ev
  subst eH
  obtain rfl : u = Value.ref C := r1
  refine PySem.W.callWith_S (h₀ := X.base) I.ok.mod.kin M.kp (thn (he.run pins s1 σ H1 _ I1 h) fun v s2 ⟨y, H2, I2, ry, a, xs, ey, hxs, q⟩ => ?_) hst
  subst ey
  obtain rfl : v = Value.ref a := ry
  exact StX.star_any I2 hxs fun us s3 I3 rv => ⟨I3.kIn, StX.run_makeR M F hr (fun _ _ _ _ _ _ _ z => z.elim) I3 rv q⟩
/-- C() -/
theorem pe_makeR0 (M : Mk X.K C f) (F : FnR X.prog X.w X.K X.mg X.base CX k f sp) (hr : Room (k + 1) X.A) (hg : Gl X x) (hm : X.mg x = some (.ref C)) (hx : Passes CX X E) (hdb : (x == ("__debug__" : Str)) = false := by decide) :
    PE X (.Call (.Name x p) [] [] pos) (StX.tMakeR C sp E tNil) := by
  refine ⟨fun pins s σ H Q I h => ?_⟩
  refine wpAny_Call_Name_kw (ld_glob I hg hm ?_ hdb)
  exact PySem.W.callWith_K0 I.kIn M.kp (StX.run_makeR (us := []) M F hr hx I .nil h)
end
end Mp
set_option maxHeartbeats 4000000
/-! super().__init__(..) in an own exception over ValueError; its making. -/
namespace Mp
open PySem PySem.Spec PyProof.Rows L2

section
variable {X : Cx} {f D : Addr} {sf : Str} {body rest : List Stmt} {e : Expr} {es : List Expr} {t : TA} {u : TS} {p0 p1 apos pos pos' : Pos} {pl : Sem Bool}
/-- super().__init__(e, ..) of an exception that is being made, then the rest -/
def tSuperX (X : Cx) (D : Addr) (t : TA) (u : TS) : TS := fun Dn σ H => ∃ (a C : Addr), σ[0]? = some (some (V.ref a)) ∧ H a = some (exo a C none) ∧ OexC X.K C ∧ PySem.W.mroIn X.K C (.ref D) = some true ∧
  PySem.W.ks_superIn X.K C D "__init__" = some (some (.builtin "ValueError.__init__")) ∧ PySem.W.subIn X.K (.ref C) (.type "ValueError") = some true ∧
  PySem.W.nsIn X.K cStatics "thirdparty.any" = some none ∧ t σ H fun vs H1 => vs.length ≤ 1000 ∧ H1 a = some (exo a C none) ∧ u Dn σ H1
theorem psu_superX (S : SuDef X f D sf) (hN : X.N[0]? = some sf) (hv : X.env.kindOf sf = some .local) (hvis : Vis X.env.scope sf) (hk : X.env.scope.kind = .function) (ha : PA X (e :: es) t) (hr : PSs X rest u)
    (hi : interactive X.env = false := by rfl)
    (hs : swapsWith (.Call (.Attribute (.Call (.Name "super" p0) [] [] p1) "__init__" apos) (e :: es) [] pos) none pos'.line X.env = pure false := by rfl)
    (he : eval (.Call (.Attribute (.Call (.Name "super" p0) [] [] p1) "__init__" apos) (e :: es) [] pos) X.env = (do
      let ov ← attributeBase (.Call (.Name "super" p0) [] [] p1) "__init__" X.env (eval (.Call (.Name "super" p0) [] [] p1) X.env)
      standAt apos.atName
      let (f, first) ← holding [ov] (getMethod ov "__init__" pl)
      callWith pos f first (backTo pos (starEach (e :: es) X.env)) []) := by rfl)
    (hst : starEach (e :: es) X.env = (false, eval e X.env) :: starEach es X.env := by rfl) (hpl : (backTo pos (starEach es X.env)).any (·.1) = false := by rfl) :
    PSu X body (.Expr (.Call (.Attribute (.Call (.Name "super" p0) [] [] p1) "__init__" apos) (e :: es) [] pos) pos' :: rest) (tSuperX X D t u) := by
  refine ⟨fun pins s σ H Dn I h => ?_⟩
  obtain ⟨a, C, hσ, ea, T, hsub, hsi, hVE, hopq, hq⟩ := h
  obtain ⟨cd, hC, hal⟩ := superIn_cls hsi
  obtain ⟨oc, od', fd, osl, ar, lf, hp, har⟩ := S.fd
  obtain ⟨cda, ccl, cdd, vs, ccs, file, tf, hco, lc, hvs, hfile⟩ := S.code
  obtain ⟨cc, cl, cld, csl, hcc, lcc⟩ := S.cell
  obtain ⟨cdD, hD⟩ := S.cls
  obtain ⟨oD, hD1, hD2⟩ : ∃ oD, X.K.lookup D = some oD ∧ oD.data = .cls cdD := by
    unfold PySem.W.clsIn at hD
    split at hD
    · rename_i c d cd' sl ho
      cases hD
      exact ⟨_, ho, rfl⟩
    · cases hD
  refine PySem.ks_wpAt_execs_cons (PySem.ks_wpAt_Expr_any (Q := fun f' s' => match f' with | .next => PySem.wpAt (model X.prog X.w) X.A (.func body X.env) (execs rest X.env) (SP X pins Dn) X.xe s' | f' => SP X pins Dn f' s') ?_ hi hs)
  refine PySem.ks_wpAt_MethodCall (pl := pl) ?_ he
  have K0 := I.kIn
  refine PySem.ks_wpAt_super_base S.ks S.kc (by decide) S.fu (K0 _ _ lf) rfl hp hco (K0 _ _ lc) rfl hvs hfile S.top ?_
  obtain ⟨mb, b1, b2⟩ := I.mod.blt
  refine PySem.W.ks_loadName_global hk S.ks (Calls.loadGlobal_builtin (by rw [I.ok.glob]; exact I.mod.glob.keeps I.bk) S.mg (by rw [I.ok.blt]; exact b1.keeps I.bk) ((b2 _ (by decide)).trans (show bootBuiltins "super" = some (.type "super") by first | rfl | kernel_rfl)) ⟨rfl, ?_⟩)
  refine wpAny_loadName_free hk S.kc hcc ⟨_, K0 _ _ lcc, rfl⟩ ?_
  obtain ⟨m0, hn, hl⟩ := id I.loc
  obtain ⟨u0, r0, l0⟩ := hl 0 sf (V.ref a) hN hσ hvis
  obtain rfl : u0 = Value.ref a := r0
  have hv2 : m0 sf = some (.ref a) := by
    rcases l0 with ⟨_, z⟩ | ⟨z, _⟩
    · exact z
    · rcases z with z | z <;> (rw [hv] at z; cases z)
  rw [har]
  refine wpAny_loadName_local hk hv hn hv2 ?_
  obtain ⟨t1, ho⟩ := exo_at I.hok ea
  have J : PySem.W.InstAt s.heap a ({ cls := .ref C, dict := none, data := .fields #[.ref t1, .none, .none, .none, .bool false, .none] } : Obj) C none := ⟨ho, rfl, rfl, trivial⟩
  obtain ⟨hh, gs, dr, tk, os⟩ := s
  refine PySem.ks_wpAny_isType_cls (K0 _ _ hD1) hD2 ⟨rfl, ?_⟩
  refine PySem.ks_wpAny_call_super (K0 _ _ hD1) hD2 J.at_ J.cls (fun c e => nomatch e) (PySem.W.looks_mroIn K0 hsub) (fun h' e k => ?_)
  have I2 := ClX.pin_new (t' := tk) (o := PySem.W.ks_superObj D a C) I k (Nat.le_refl _) e (fun v z => nomatch z)
  have K2 := I2.kIn
  have hI : PySem.W.Looks (model X.prog X.w) h' (isInstance (.ref a) (.type "ValueError")) true := by
    have J2 : PySem.W.InstAt h' a ({ cls := .ref C, dict := none, data := .fields #[.ref t1, .none, .none, .none, .bool false, .none] } : Obj) C none := ⟨k _ _ ho, rfl, rfl, trivial⟩
    exact J2.type.andThen (PySem.W.looks_subIn K2 hVE)
  refine PySem.W.kxs_getMethod PySem.W.kxs_ValueError e (PySem.W.looks_opaque K2 hopq) (l₀ := cd.mro) (fun A Q E s k q => wpAny_bind ((PySem.W.looks_clsIn K2 hC) A _ E s k (wpAny_pure q))) rfl K2 hal hI (PySem.W.ks_ne K0 J hC) (by decide) ?_
  have I3 := ClX.pin_new (t' := tk + 1) (o := PySem.W.kxs_mw "ValueError.__init__" a) (h' := h'.push (PySem.W.kxs_mw "ValueError.__init__" a)) (ClX.unpin I2) (fun b o z => Heap.get?_push_of_some _ z) (Nat.le_refl _) (Heap.get?_push_size _ rfl) (fun v z => nomatch z)
  rw [hst]
  refine PySem.W.kxs_callWith (i := "ValueError.__init__") (x := a) (by show (false || (backTo pos (starEach es X.env)).any (·.1)) = false; rw [hpl]; rfl) (PySem.Calls.evalArgs_plain ?_)
  have ha' := ha.run pos _ _ σ H _ I3 hq
  rw [hst] at ha'
  refine thn ha' fun us s3 ⟨vs', H2, I4, rv, hlen, ea2, q2⟩ => ⟨ClX.pin_at I4, ?_⟩
  have I5 := ClX.unpin I4
  have hu := ClX.pin_at I4
  obtain ⟨nm, q, N, bs, bm, sn, sub, ab, col, dd, k0, k1, k2, k3, k5, hCo, hbm⟩ := T.cls
  obtain ⟨t2, ho2⟩ := exo_at I5.hok ea2
  obtain ⟨hp3, g3, d3, tk3, os3⟩ := s3
  have hus : us.length ≤ sizeLine := by
    rw [← Paired.length rv, sizeLine_eq]
    omega
  have fin : ∀ h2, (∀ b o, b ≠ a → hp3.get? b = some o → h2.get? b = some o) → h2.get? a = some (PySem.HandSPX.excO C hp3.objs.size) → PySem.wpAt (model X.prog X.w) X.A (.func body X.env) (execs rest X.env) (SP X pins Dn) X.xe ⟨h2, g3, d3, tk3, os3⟩ := fun h2 k hx => by
    have J := I5.write (t' := tk3) (x := a) (e := a) (o := exo a C none) (by rw [ea2]; exact True.intro) (.inl rfl) k ⟨_, hx⟩ (exo_ok hx)
    have eu : upd H2 a (exo a C none) = H2 := by
      funext b
      by_cases hb : b = a
      · rw [hb, upd_same, ea2]
      · rw [upd_ne hb]
    rw [eu] at J
    exact PySem.wpAt_of_wpAny (hr.run pins _ σ H2 Dn J q2)
  show wpAny _ _ (call (.ref h'.objs.size) us) _ _ _
  refine wpAny_call (codeAny_of_tree ?_)
  show wpAny _ X.A.in1 (callAny (.ref h'.objs.size) ⟨us, []⟩) _ _ _
  simp only [callAny]
  refine wpAny_bind (wpAny_load hu ?_)
  simp only [PySem.W.kxs_mw, show (Value.type "method-wrapper" == Value.type "method" || Value.type "method-wrapper" == Value.type "builtin_function_or_method" || Value.type "method-wrapper" == Value.type "method-wrapper") = true by decide, if_true]
  refine PySem.W.KFB.if_so (by decide) ?_
  refine wpAny_bind (PySem.W.check_bound_init F.excBase_ValueError.toExcCallFacts (I5.kIn _ _ hCo) ho2 rfl ?_)
  refine wpAny_bind (wpAny_pure (wpAny_pure ?_))
  refine ⟨plainId_quiet F.excBase_ValueError.init.plain _, codeAny_builtin F.excBase_ValueError.initEntry ?_⟩
  rw [Around.under_plainId F.excBase_ValueError.init.plain _]
  wp_walk
  refine fin _ (fun b o hb ho => ?_) ?_
  · rw [Heap.get?_update_other _ _ (Ne.symm hb)]
    exact Heap.get?_push_of_some _ ho
  · rw [Heap.get?_update_self _ (Heap.get?_push_of_some _ ho2) rfl]
    rfl
end

section
variable {X : Cx} {e : Expr} {es : List Expr} {ta : TA} {p pos : Pos}
/-- C(e, ..), by a positional promise of C's __init__ -/
theorem pmk_oexR {x : Str} {C fI : Addr} {k : Nat} {sp : Sp} (T : OexC X.K C) (iC : PySem.W.findIn X.K (.ref C) "__init__" = some (some (.ref fI))) (tI : PySem.W.typeIn X.K (.ref fI) = some (.type "function"))
    (F1 : FnR X.prog X.w X.K X.mg X.base CX0 k fI sp) (hr : Room (k + 1) X.A) (hg : Gl X x) (hm : X.mg x = some (.ref C)) (ha : PA X (e :: es) ta)
    (hdb : (x == ("__debug__" : Str)) = false := by decide) (he : starEach (e :: es) X.env = (false, eval e X.env) :: starEach es X.env := by rfl) (hpl : (backTo pos (starEach es X.env)).any (·.1) = false := by rfl) :
    PMk X (.Call (.Name x p) (e :: es) [] pos) (tMkO C sp [] ta) := by
  intro pins s σ H Q I h
  obtain ⟨nm, q, N, bs, bm, sn, sub, ab, col, dd, k0, k1, k2, k3, k5, hC, hbm⟩ := T.cls
  refine wpAny_Call_Name_kw (ld_glob I hg hm ?_ hdb)
  refine PySem.W.callWith_K (h₀ := X.base) I.ok.mod.kin T.kC (thn (ha.run pos pins s σ H _ I h) fun us s1 ⟨vs, H1, I1, r1, hz, q1⟩ => ⟨I1.kIn, ?_⟩) he hpl
  show wpAny _ _ (call (.ref C) us) _ _ _
  obtain ⟨hp, g, dr, tk, os⟩ := s1
  have hsz : hp.objs.size ≤ hp.objs.size + 1 := Nat.le_succ _
  have hn : H1 (hp.objs.size + 1) = none := I1.hok.fresh hsz
  have hq := q1 (hp.objs.size + 1) hn
  have kk : ∀ b o, hp.get? b = some o → ((hp.push (PySem.W.kdv_tup us)).push (PySem.HandSPX.excO C hp.objs.size)).get? b = some o := fun b o e => Heap.get?_push_of_some _ (Heap.get?_push_of_some _ e)
  have hget : ((hp.push (PySem.W.kdv_tup us)).push (PySem.HandSPX.excO C hp.objs.size)).get? (hp.objs.size + 1) = some (PySem.HandSPX.excO C hp.objs.size) := by heap_get
  have I2 : Inv X pins σ (upd H1 (hp.objs.size + 1) (exo (hp.objs.size + 1) C none)) ⟨(hp.push (PySem.W.kdv_tup us)).push (PySem.HandSPX.excO C hp.objs.size), g, dr, tk, os⟩ :=
    I1.laid (t' := tk) (a := hp.objs.size + 1) (o := exo (hp.objs.size + 1) C none) (h' := (hp.push (PySem.W.kdv_tup us)).push (PySem.HandSPX.excO C hp.objs.size)) kk hsz (exo_ok hget)
  have r2 : Vals (V.ref (hp.objs.size + 1) :: (vs ++ [])) (Value.ref (hp.objs.size + 1) :: us) := .cons rfl (by rw [List.append_nil]; exact r1)
  have hus : us.length ≤ sizeLine := by
    rw [← Paired.length r1, sizeLine_eq]
    omega
  refine wpAny_call (PySem.HandSPX.call_own F.excBase_ValueError (fun Y => PySem.HandSPX.refsVE_contains Y bm hbm) (I1.kIn _ _ hC) (PySem.W.looks_findIn I1.kIn iC) (fun self => PySem.W.bind_fn I1.kIn self tI) hus
    (codeAny_mono (F1 _ X.stack _ _ (Value.ref (hp.objs.size + 1) :: us) _ _ (fun _ _ _ => False) (hr.make C us []) (I2.env0.make C us []) r2 hq) fun r s' hq' => ?_))
  cases r with
  | error er => exact hq'.elim
  | ok fl =>
    cases fl with
    | ret u =>
      obtain ⟨v, H2, os2, bare2, un2, hok2, rv, ev, d, fs, ea, ed, hd1, q2⟩ := hq'
      subst ev
      obtain ⟨h2, g2, d2, t2, os'⟩ := s'
      exact ⟨rv, mk_end (raises_own T.exC T.tyC) I1 hsz kk un2 hok2 os2 bare2 ea ed hd1 q2⟩
    | next => exact False.elim hq'
    | brk => exact False.elim hq'
    | cont => exact False.elim hq'
end
end Mp
set_option maxHeartbeats 4000000
/-! An own __iter__ that hands out iter(self.own_rows): for, comprehensions, zip. -/
namespace Mp
open PySem PySem.Spec PyProof.Rows L2

/-- a tuple's iterator at its start -/
abbrev titObj (t : Addr) : Obj := { cls := .type "tuple_iterator", data := .fields #[.ref t, .int 0 0] }
def TitO (t it : Addr) : HO := .ext fun h => h.get? it = some (titObj t)
theorem titO_ok {P : Program} {w : World} {H : Hp} {h : Heap} {t it : Addr} (e : h.get? it = some (titObj t)) : ObjOk P w H h it (TitO t it) :=
  ⟨e, ⟨_, e⟩, fun h1 h2 z k => k _ z⟩
theorem titO_at {P : Program} {w : World} {H : Hp} {h : Heap} {t it : Addr} (hok : HOk P w H h) (e : H it = some (TitO t it)) : h.get? it = some (titObj t) := by
  have x : ObjOk P w H h it (.ext fun h => h.get? it = some (titObj t)) := hok it _ e
  exact x.1
/-- iter(t), t a tuple -/
def rIterT (K : PySem.W.Frag) (n : Nat) : List V → Hp → VK → Prop := fun xs H Q => ∃ (t : Addr) (zs : List V), xs = [.ref t] ∧ SqT K H t zs ∧ ∀ it, H it = Option.none → n ≤ it → Q (.ref it) (upd H it (TitO t it))
section
variable {prog : Program} {w : World} {A : Around} {E : Value → Shared → Prop} {s : Shared} {t : Addr} {items : Array Value}
theorem call_iterTup {Q : Value → Shared → Prop} (hl : s.heap.IsTuple t items) (h : Q (.ref s.heap.objs.size) { s with heap := s.heap.push (titObj t) }) : wpAny (model prog w) A (call (.builtin "iter") [.ref t]) Q E s := by
  refine Calls.call_function_entry (by decide +kernel) (by decide +kernel) PySem.W.kdk_entry_iter (PySem.W.kdk_args_iter _) ?_
  unfold Builtin.«iter»
  refine wpAny_bind (m := someArgs "iter" 1 2 _) (wpAny_of_eq (a := [Value.ref t]) (by first | rfl | kernel_rfl!) ?_)
  show wpAny _ _ (pyIter (.ref t) >>= _) _ _ _
  refine wpAny_bind (wpAny_pyIter_tuple hl ?_)
  exact wpAny_pure ⟨_, rfl, h⟩
end
section
variable {X : Cx}
theorem call_iterT : CallR X (.builtin "iter") (rIterT X.K X.s_0.heap.objs.size) := by
  intro pins s σ H xs us Q I r h
  obtain ⟨t, zs, rfl, hq, q⟩ := h
  obtain ⟨u, rfl, ru⟩ := vals1 r
  cases ru
  obtain ⟨its, rv, pl, hz⟩ := I.tuple hq
  refine call_iterTup (show s.heap.IsTuple t its.toArray from pl) ?_
  exact ⟨.ref s.heap.objs.size, _, I.laid (t' := s.toks) (fun b u e => Heap.get?_push_of_some _ e) (Nat.le_refl _) (titO_ok (Heap.get?_push_size _ rfl)), rfl, q _ (I.hok.fresh (Nat.le_refl _)) I.sz⟩
end

/-- the class at C has an __iter__ that hands out an iterator of the tuple that lies in the field x -/
structure ItF (P : Program) (w : World) (K : PySem.W.Frag) (mg : Str → Option Value) (base : Heap) (k : Nat) (C : Addr) (x : Str) : Prop where
  ex : ∃ f, PySem.W.findIn K (.ref C) "__iter__" = some (some (.ref f)) ∧ PySem.W.isFn K (.ref f) = true ∧
    ∀ (A : Around) (outer : List Env) (s : Shared) (H : Hp) (a dx t : Addr) (fs : List (Str × V)) (xs : List V), Room k A → Env0 P w K mg base A outer s H → H a = some (.ins C dx fs) → fs.lookup x = some (.ref t) → SqT K H t xs →
      codeAny (model P w) A (.call (.ref f) ⟨[.ref a], []⟩) (CR CX0 outer P w H s (fun v H' => ∃ it, v = .ref it ∧ H' = upd H it (TitO t it) ∧ H it = none ∧ s.heap.objs.size ≤ it) E0) s

section
variable {X : Cx} {pins : List (Addr × Obj)} {σ : L2.St} {H : Hp} {s : Shared} {a C dx t : Addr} {fs : List (Str × V)} {xs : List V} {x : Str} {k : Nat}
theorem own_iter {A : Around} (sb : Sub X k A) (F : ItF X.prog X.w X.K X.mg X.base k C x) (I : Inv X pins σ H s) (ha : H a = some (.ins C dx fs)) (hl : fs.lookup x = some (.ref t)) (hq : SqT X.K H t xs) :
    wpAny (model X.prog X.w) A (pyIter (.ref a)) (fun v s' => ∃ it, v = .ref it ∧ s.heap.objs.size ≤ it ∧ Inv X ((it, titObj t) :: pins) σ H s') X.xe s := by
  obtain ⟨f, hf, hfn, run⟩ := F.ex
  obtain ⟨od, m, J, Fm⟩ := ins_at I ha
  refine PySem.W.owit_iter Fm I.ok.mod.kin J hf hfn ?_
  have e0 : Env0 X.prog X.w X.K X.mg X.base A X.stack s H := by
    have e := I.env0
    exact ⟨by rw [sb.fr]; exact e.frames, e.mod, e.bs, e.bsz, e.funs, e.frf, e.hok, e.bare⟩
  refine wpAny_call (codeAny_mono (run A X.stack s H a dx t fs xs sb.room e0 ha hl hq) fun r s' hr => ?_)
  cases r with
  | error e => exact hr.elim
  | ok fl =>
    cases fl with
    | ret u =>
      obtain ⟨v, H', I', rv, it, ev, eH, hn, hsz⟩ := I.after hr
      subst ev
      subst eH
      obtain rfl : u = Value.ref it := rv
      have ho := titO_at I'.hok upd_same
      have I2 : Inv X pins σ H s' := by
        have z := ItX.inv_drop (a := it) (φ := fun h => h.get? it = some (titObj t)) I' upd_same
        rw [ItX.dropH_upd hn] at z
        exact z
      unfold PySem.W.OwitIt
      refine wpAny_specialOf (T := "tuple_iterator") ⟨_, ho, rfl⟩ slot_tupleiter_next.lookup ⟨it, rfl, hsz, ?_⟩
      refine I2.pins_of fun p hp => ?_
      rcases List.mem_cons.mp hp with e | e
      · subst e
        exact ⟨ho, hn, Nat.ne_of_gt (Nat.lt_of_lt_of_le I.lt hsz), I.nofs hsz, fun v z => nomatch z⟩
      · exact I2.pin p (List.mem_append_right _ e)
    | next => exact hr.elim
    | brk => exact hr.elim
    | cont => exact hr.elim
/-- a pinned iterator may turn once it is no longer pinned -/
theorem pin_fp {p : Addr × Obj} {s0 : Shared} (I0 : Inv X pins σ H s0) (h : s0.heap.objs.size ≤ p.1) (I : Inv X (p :: pins) σ H s) : FpOk X pins H p.1 := by
  obtain ⟨e, n, ne, nf, d⟩ := I.pin p (List.mem_append_right _ List.mem_cons_self)
  refine ⟨n, ne, nf, .inr (Nat.le_trans I0.sz h), fun y c hc z => ?_, fun q hq z => ?_⟩
  · obtain ⟨v, o, ho, hd⟩ := I.cell y c hc
    rw [z, e] at ho
    cases ho
    exact d v hd
  · have e0 := (I0.pin q hq).1
    rw [z] at e0
    exact absurd (Nat.lt_of_lt_of_le (Heap.lt_size e0) h) (Nat.lt_irrefl _)

variable {tg e : Expr} {te : TE}
def iOwn (X : Cx) (x : Str) (te : TE) : TI := fun σ H R => te σ H fun v H1 => ∃ (a C dx t : Addr) (fs : List (Str × V)) (xs : List V) (k : Nat), v = .ref a ∧ H1 a = some (.ins C dx fs) ∧ fs.lookup x = some (.ref t) ∧ SqT X.K H1 t xs ∧
  ItF X.prog X.w X.K X.mg X.base k C x ∧ Room k X.A ∧ R (Itt X.K t) H1
theorem pi_own (x : Str) (he : PE X e te) : PI X tg e (iOwn X x te) := by
  refine ⟨fun pins s σ H R I h => ?_⟩
  refine thn (he.run pins s σ H _ I h) fun v s1 ⟨y, H1, I1, r1, a, C, dx, t, fs, xs, k, ey, ea, hl, hq, F, hr, q⟩ => ?_
  subst ey
  obtain rfl : v = Value.ref a := r1
  refine thn (own_iter (Sub.self hr) F I1 ea hl hq) fun v s2 ⟨it, ev, hsz, I2⟩ => ?_
  subst ev
  refine ⟨it, [it], _, _, H1, rfl, ClX.unpin I2, turn_tuple t it, ⟨_, ClX.pin_at I2, rfl, rfl⟩, fun b hb => ?_, q⟩
  have eb : b = it := by simpa using hb
  subst eb
  exact pin_fp (p := (b, titObj t)) I1 hsz I2
end

/-! ### zip(o, o) -/
section
variable {X : Cx} {pins : List (Addr × Obj)} {σ : L2.St} {H : Hp} {s : Shared} {a C dx t : Addr} {fs : List (Str × V)} {xs : List V} {x : Str} {k : Nat}
theorem call_zipO {Q : Value → Shared → Prop} (hr : Room (k + 2) X.A) (FI : ItF X.prog X.w X.K X.mg X.base k C x) (I : Inv X pins σ H s) (ha : H a = some (.ins C dx fs)) (hl : fs.lookup x = some (.ref t)) (hq : SqT X.K H t xs)
    (h : ∀ (s' : Shared) (z TI TO i1 i2 : Addr), Inv X pins σ H s' → (∀ b ∈ [z, TI, TO, i1, i2], s.heap.objs.size ≤ b ∧ FpOk X pins H b) → ZipApart z TI TO i1 i2 t t → IsZip s'.heap z TI TO .none → IsPair s'.heap TI (.ref i1) (.ref i2) → IsPair s'.heap TO .none .none →
      s'.heap.IsTupleIter i1 t 0 → s'.heap.IsTupleIter i2 t 0 → Q (.ref z) s') :
    wpAny (model X.prog X.w) X.A (call (.type "zip") [.ref a, .ref a]) Q X.xe s := by
  refine callType_codes (T := "zip") (Bi := Builtin.«object.__init__») (Q₁ := fun r s₁ => ∃ z, r = .ref z ∧ s₁.TypeIs (.ref z) "zip" ∧ Q (.ref z) s₁) PySem.F.called_zip (PySem.F.typeCall_zip_2 _ _) PySem.F.entry_object_init ?_ ?_
  · refine codeAny_of_tree ?_
    show wpAny _ X.A.in1.in1 (do checkBuiltinCall "zip.__new__" ⟨[.type "zip", .ref a, .ref a], []⟩; again (.builtin "zip.__new__" ⟨[.type "zip", .ref a, .ref a], []⟩)) _ _ s
    refine wpAny_bind (wpAny_of_eq (PySem.F.newCall_zip_2 _ _) (wpAny_pure ⟨plainId_quiet (by decide +kernel) _, codeAny_builtin PySem.F.entry_zip_new ?_⟩))
    rw [Around.under_plainId (by decide +kernel) _]
    have hsub := sub_zip
    have sb : Sub X k X.A.in1.in1 := (Sub.self hr).in1.in1
    have key : ∀ (pn : List (Addr × Obj)) (s1 : Shared) (Q : Value → Shared → Prop), Inv X pn σ H s1 → (∀ it s', s1.heap.objs.size ≤ it → Inv X ((it, titObj t) :: pn) σ H s' → Q (.ref it) s') → wpAny (model X.prog X.w) X.A.in1.in1 (pyIter (.ref a)) Q X.xe s1 :=
      fun pn s1 Q I1 hQ => wpAny_mono (own_iter (A := X.A.in1.in1) sb FI I1 ha hl hq) (fun v s' ⟨it, ev, h1, I2⟩ => by rw [ev]; exact hQ it s' h1 I2) fun _ _ e => e
    unfold Builtin.«zip.__new__» Builtin.SmallTypes.iterAll
    repeat (first | (with_reducible refine key _ _ _ (by assumption) (fun it s' h1 I1 => ?_)) | wp_step)
    rename_i it0 s0 h0 I0
    have I0' := ClX.unpin (ClX.unpin I1)
    have e0 := ClX.pin_at I0
    have e1 := ClX.pin_at (ClX.unpin I1)
    have e2 := ClX.pin_at I1
    have l0 : it0 < s0.heap.objs.size := Heap.lt_size e0
    have l1 : it < s'.heap.objs.size := Heap.lt_size e2
    have l2 : it0 < s'.heap.objs.size := Heap.lt_size e1
    have h1' : s0.heap.objs.size ≤ it := h1
    have h0' : s.heap.objs.size ≤ it0 := h0
    obtain ⟨its, rv, pl, _⟩ := I.tuple hq
    have lt : @LT.lt Nat _ t s.heap.objs.size := pl.lt
    have zA : ∀ o : Obj, (s'.heap.push o).objs.size = s'.heap.objs.size + 1 := fun o => Heap.size_push ..
    have zB : ∀ o o2 : Obj, ((s'.heap.push o).push o2).objs.size = s'.heap.objs.size + 2 := fun o o2 => by rw [Heap.size_push, zA]
    have fr : ∀ b, s'.heap.objs.size ≤ b → s.heap.objs.size ≤ b ∧ FpOk X pins H b := fun b hb => ⟨by have hb' : s'.heap.objs.size ≤ b := hb; omega, I0'.fpOk hb (I0'.hok.fresh hb)⟩
    have f2 := pin_fp (p := (it, titObj t)) I0 h1 I1
    refine ⟨_, rfl, ⟨_, Heap.get?_push_size _ rfl, rfl⟩, ?_⟩
    refine h ⟨_, s'.gens, s'.drawn, s'.toks, s'.os⟩ _ s'.heap.objs.size _ it0 it (I0'.kept (t' := s'.toks) fun b o e => Heap.get?_push_of_some _ (Heap.get?_push_of_some _ (Heap.get?_push_of_some _ e))) (fun b hb => ?_) ?_ (Heap.get?_push_size _ rfl)
      (Heap.get?_push_of_some _ (Heap.get?_push_of_some _ (Heap.get?_push_size _ rfl))) (Heap.get?_push_of_some _ (Heap.get?_push_size _ rfl)) ⟨_, Heap.get?_push_of_some _ (Heap.get?_push_of_some _ (Heap.get?_push_of_some _ e1)), rfl, rfl⟩ ⟨_, Heap.get?_push_of_some _ (Heap.get?_push_of_some _ (Heap.get?_push_of_some _ e2)), rfl, rfl⟩
    · rcases List.mem_cons.mp hb with e | hb
      · rw [e]
        exact fr _ (by rw [zB]; omega)
      rcases List.mem_cons.mp hb with e | hb
      · rw [e]
        exact fr _ (Nat.le_refl _)
      rcases List.mem_cons.mp hb with e | hb
      · rw [e]
        exact fr _ (by rw [zA]; omega)
      rcases List.mem_cons.mp hb with e | hb
      · rw [e]
        exact ⟨h0, pin_fp (p := (it0, titObj t)) I h0 (ClX.unpin I1)⟩
      rcases List.mem_cons.mp hb with e | hb
      · rw [e]
        obtain ⟨a1, a2, a3, a4, a5, a6⟩ := f2
        exact ⟨by show s.heap.objs.size ≤ it; omega, a1, a2, a3, a4, a5, fun p hp => a6 p ((List.mem_append.mp hp).elim (List.mem_append_left _) fun z => List.mem_append_right _ (List.mem_cons_of_mem _ z))⟩
      · exact absurd hb (by simp)
    · rw [zB, zA]
      constructor <;> (refine PySem.W.neN ?_; omega)
  · rintro obj s₁ ⟨z, rfl, hT, hq⟩
    exact ⟨hT, PySem.F.args_object_init_3 _ _ _, object_init_meets PySem.F.called_zip.init.lookup PySem.F.called_zip.made (by decide) X.prog X.w X.A.in1 _ s₁ ⟨hT, rfl, hq⟩⟩
end
section
variable {X : Cx} {e e2 : Expr} {ta : TA} {x : Str} {p pos tpos : Pos} {elts : List Expr} {kk : Nat}
def iZipO (X : Cx) (x : Str) (ta : TA) : TI := fun σ H R => ta σ H fun vs H1 => ∃ (a C dx t : Addr) (fs : List (Str × V)) (xs : List V) (k : Nat), vs = [.ref a, .ref a] ∧ H1 a = some (.ins C dx fs) ∧ fs.lookup x = some (.ref t) ∧ SqT X.K H1 t xs ∧
  ItF X.prog X.w X.K X.mg X.base k C x ∧ Room (k + 2) X.A ∧ R (RZ.ItzT X.K t t) H1
theorem pi_zipO (x : Str) (hg : Gl X "zip") (hm : X.mg "zip" = none) (ha : PA X [e, e2] ta)
    (hs : starEach [e, e2] X.env = (false, eval e X.env) :: starEach [e2] X.env := by rfl) (hpl : (backTo pos (starEach [e2] X.env)).any (·.1) = false := by rfl) :
    PI X (.Tuple elts kk tpos) (.Call (.Name "zip" p) [e, e2] [] pos) (iZipO X x ta) := by
  refine ⟨fun pins s σ H R I h => ?_⟩
  refine Call_ (ld_blt I hg hm PyProof.Rows.boot_zip (PyProof.Rows.callWith_type1 (thn (ha.run pos pins s σ H _ I h) fun us s1 ⟨vs, H1, I1, r1, q1⟩ => ?_) hs hpl))
  obtain ⟨a, C, dx, t, fs, xs, k, ev, ea, hl, hq, F, hr, q⟩ := q1
  subst ev
  cases r1 with
  | cons r rr =>
    cases rr with
    | cons r' rr =>
      cases rr
      cases r
      cases r'
      refine call_zipO hr F I1 ea hl hq fun s' z TI TO i1 i2 I2 hfp D hz hTI hTO h1 h2 => wpAny_pyIter_zip hz ?_
      exact ⟨z, [z, TI, TO, i1, i2], _, _, H1, rfl, I2, RZ.turn_zipT D, ⟨hz, hTI, ⟨_, _, hTO⟩, h1, h2⟩, fun b hb => (hfp b hb).2, q⟩
end
end Mp
set_option maxHeartbeats 4000000
/-! enumerate over a tuple (the lines of the rules for lists, turned to tuples). -/
namespace Mp
open PySem PySem.Spec PyProof.Rows L2
open AutoSeq1 (wpAny_loadPart')

theorem meets_enumT (l : Addr) (items : Array Value) (n : Nat) (dct : Option Addr) (sl : Array (Option Value)) :
    Meets (Builtin.«enumerate.__new__» ⟨[.type "enumerate", .ref l], []⟩) (fun _ R s => s.heap.get? l = some { cls := .type "tuple", dict := dct, data := .seq items n, slots := sl } ∧
      R (.ok (.ret (.ref (s.heap.push { cls := .type "tuple_iterator", data := .fields #[.ref l, .int 0 0] }).objs.size)))
        { s with heap := (s.heap.push { cls := .type "tuple_iterator", data := .fields #[.ref l, .int 0 0] }).push { cls := .type "enumerate", data := .fields #[.none, .bool false, .ref s.heap.objs.size, rawInt 0, .none, .none] } }) :=
  .of_wp fun prog w A R s h => by
    obtain ⟨hp, g, d, tk, os⟩ := s; obtain ⟨hl, h⟩ := h
    have hsub := sub_enumerate
    have hL : Heap.IsTuple (Shared.heap ⟨hp, g, d, tk, os⟩) l items := ⟨_, hl, rfl, n, rfl⟩
    wp_walk using wpAny_loadPart' hl
    refine wpAny_stack_any fun st => wpAny_pure ?_
    split
    · rename_i c _ _ _ _ _
      cases (c == Value.type "enumerate")
      · wp_walk using wpAny_loadPart' hl, wpAny_pyIter_tuple hL
        exact ⟨_, rfl, h⟩
      · wp_walk using wpAny_loadPart' hl, wpAny_pyIter_tuple hL
        exact ⟨_, rfl, h⟩
    · wp_walk using wpAny_loadPart' hl, wpAny_pyIter_tuple hL
      exact ⟨_, rfl, h⟩

section
variable {prog : Program} {w : World} {A : Around} {E : Value → Shared → Prop} {s : Shared}
theorem enumT_next_item {e it l : Addr} {i : Nat} {items : Array Value} {x old : Value} {Q : Value → Shared → Prop}
    (he : IsEnum s.heap e it i old) (hit : s.heap.IsTupleIter it l i) (hl : s.heap.IsTuple l items) (hx : items[i]? = some x) (hne : e ≠ it)
    (hQ : ∀ h', IsEnumOut h' e it ((i : Int) + 1) x s.heap.objs.size → h'.IsTupleIter it l (i + 1) →
      h'.get? s.heap.objs.size = some { cls := .type "tuple", data := .seq #[.int i s.toks, x] } → h'.objs.size = s.heap.objs.size + 1 →
      (∀ b o, b ≠ e → b ≠ it → s.heap.get? b = some o → h'.get? b = some o) → Q (.ref s.heap.objs.size) { s with heap := h', toks := s.toks + 1 }) :
    wpAny (model prog w) A (Builtin.«enumerate.__next__» ⟨[.ref e], []⟩) (fun fin s' => ∃ v, fin = .done (.ret v) ∧ Q v s') E s := by
  obtain ⟨hp, g, d, tk, os⟩ := s
  show wpAny _ _ (field (.ref e) 2 >>= _) _ _ _
  refine wpAny_bind (wpAny_field he rfl (x := .ref it) rfl ?_)
  refine wpAny_bind (RZ.nextOf_tuple_item hit hl hx fun h₁ hit₁ hs₁ => ?_)
  replace hs₁ : Heap.SameBut it hp h₁ := hs₁
  have he₁ : IsEnum h₁ e it i old := (hs₁.2 e hne).trans he
  show wpAny _ _ (field (.ref e) 3 >>= _) _ _ ⟨h₁, g, d, tk, os⟩
  refine wpAny_bind (wpAny_field he₁ rfl (x := rawInt i) rfl ?_)
  show wpAny _ _ (field (.ref e) 4 >>= _) _ _ ⟨h₁, g, d, tk, os⟩
  refine wpAny_bind (wpAny_field he₁ rfl (x := .none) rfl ?_)
  show wpAny _ _ (mkInt i >>= _) _ _ ⟨h₁, g, d, tk, os⟩
  refine wpAny_bind (wpAny_mkInt ?_)
  show wpAny _ _ (setField (.ref e) 3 (rawInt ((i : Int) + 1)) >>= _) _ _ ⟨h₁, g, d, tk + 1, os⟩
  refine wpAny_bind (wpAny_setField_rec he₁ (by simp) fun h₂ he₂ hs₂ => ?_)
  replace hs₂ : Heap.SameBut e h₁ h₂ := hs₂
  replace he₂ : IsEnum h₂ e it ((i : Int) + 1) old := he₂
  show wpAny _ _ (setField (.ref e) 4 .none >>= _) _ _ ⟨h₂, g, d, tk + 1, os⟩
  refine wpAny_bind (wpAny_setField_rec he₂ (by simp) fun h₃ he₃ hs₃ => ?_)
  replace hs₃ : Heap.SameBut e h₂ h₃ := hs₃
  replace he₃ : IsEnum h₃ e it ((i : Int) + 1) old := he₃
  show wpAny _ _ (newTuple [.int i tk, x] >>= _) _ _ ⟨h₃, g, d, tk + 1, os⟩
  refine wpAny_bind (wpAny_newTuple ?_)
  have he₄ : IsEnum (h₃.push { cls := .type "tuple", data := .seq #[.int i tk, x] }) e it ((i : Int) + 1) old := Heap.get?_push_of_some _ he₃
  generalize hh₄ : h₃.push { cls := .type "tuple", data := .seq #[.int i tk, x] } = h₄ at he₄
  have hsz : h₃.objs.size = hp.objs.size := by rw [hs₃.1, hs₂.1, hs₁.1]
  have hel : e < hp.objs.size := Heap.lt_size he
  have ht₄ : h₄.get? hp.objs.size = some { cls := .type "tuple", data := .seq #[.int i tk, x] } := by rw [← hh₄, ← hsz]; exact Heap.get?_push_size _ rfl
  have hz₄ : h₄.objs.size = hp.objs.size + 1 := by rw [← hh₄, Heap.size_push, hsz]
  have hk₄ : ∀ b o, b ≠ e → b ≠ it → hp.get? b = some o → h₄.get? b = some o := fun b o hbe hbi hb => by
    rw [← hh₄]; exact Heap.get?_push_of_some _ (hs₃.extBut b o hbe (hs₂.extBut b o hbe (hs₁.extBut b o hbi hb)))
  have hit₄ : h₄.IsTupleIter it l (i + 1) := by
    rw [← hh₄]; obtain ⟨o, ho, r⟩ := (hit₁.extBut hs₂.extBut (Ne.symm hne)).extBut hs₃.extBut (Ne.symm hne); exact ⟨o, Heap.get?_push_of_some _ ho, r⟩
  show wpAny _ _ (Builtin.SmallTypes.ownedTupleIsFree (.ref e) >>= _) _ _ ⟨h₄, g, d, tk + 1, os⟩
  rw [hsz]
  clear hh₄ he₃ hs₃ he₂ hs₂ he₁ hs₁ hit₁ hsz h₃ h₂ h₁
  refine wpAny_bind ?_
  · unfold Builtin.SmallTypes.ownedTupleIsFree
    refine wpAny_bind (wpAny_field he₄ rfl (x := .none) rfl (wpAny_pure ?_))
    simp only [if_true]
    refine wpAny_bind (wpAny_rule ?_)
    refine wpAny_bind (wpAny_field he₄ rfl (x := old) rfl ?_)
    refine wpAny_bind (wpAny_setField_rec he₄ (by simp) fun h₅ he₅ hs₅ => ?_)
    replace hs₅ : Heap.SameBut e h₄ h₅ := hs₅
    replace he₅ : IsEnum h₅ e it ((i : Int) + 1) x := he₅
    show wpAny _ _ (Builtin.SmallTypes.ownedTupleHandOut (.ref e) (.ref hp.objs.size) >>= _) _ _ ⟨h₅, g, d, tk + 1, os⟩
    refine wpAny_bind ?_
    · unfold Builtin.SmallTypes.ownedTupleHandOut
      refine wpAny_bind (wpAny_setField_rec he₅ (by simp) fun h₆ he₆ hs₆ => ?_)
      replace hs₆ : Heap.SameBut e h₅ h₆ := hs₆
      replace he₆ : IsEnumOut h₆ e it ((i : Int) + 1) x hp.objs.size := he₆
      refine wpAny_setField_rec he₆ (by simp) fun h₇ he₇ hs₇ => ?_
      replace hs₇ : Heap.SameBut e h₆ h₇ := hs₇
      replace he₇ : IsEnumOut h₇ e it ((i : Int) + 1) x hp.objs.size := he₇
      refine wpAny_bind (wpAny_letGo (wpAny_pure ⟨_, rfl, hQ h₇ he₇ ?_ ?_ ?_ ?_⟩))
      · exact ((hit₄.extBut hs₅.extBut (Ne.symm hne)).extBut hs₆.extBut (Ne.symm hne)).extBut hs₇.extBut (Ne.symm hne)
      · exact hs₇.extBut _ _ (Nat.ne_of_gt hel) (hs₆.extBut _ _ (Nat.ne_of_gt hel) (hs₅.extBut _ _ (Nat.ne_of_gt hel) ht₄))
      · rw [hs₇.1, hs₆.1, hs₅.1, hz₄]
      · exact fun b o hbe hbi hb => hs₇.extBut b o hbe (hs₆.extBut b o hbe (hs₅.extBut b o hbe (hk₄ b o hbe hbi hb)))

theorem pyNext_enumT_item {e it l : Addr} {i : Nat} {items : Array Value} {x old : Value} {Q : Option Value → Shared → Prop}
    (he : IsEnum s.heap e it i old) (hit : s.heap.IsTupleIter it l i) (hl : s.heap.IsTuple l items) (hx : items[i]? = some x) (hne : e ≠ it)
    (hQ : ∀ h', IsEnumOut h' e it ((i : Int) + 1) x s.heap.objs.size → h'.IsTupleIter it l (i + 1) →
      h'.get? s.heap.objs.size = some { cls := .type "tuple", data := .seq #[.int i s.toks, x] } → h'.objs.size = s.heap.objs.size + 1 →
      (∀ b o, b ≠ e → b ≠ it → s.heap.get? b = some o → h'.get? b = some o) → Q (some (.ref s.heap.objs.size)) { s with heap := h', toks := s.toks + 1 }) :
    wpAny (model prog w) A (pyNext (.ref e)) Q E s := by
  have hT : s.TypeIs (.ref e) "enumerate" := ⟨_, he, rfl⟩
  unfold pyNext
  exact wpAny_bind (wpAny_attempt (wpAny_callSpecial?_slot (name := Str.ofString "__next__") hT F.slot_enumerate_next
    (wpAny_call_entry F.slot_enumerate_next hT F.entry_enumerate_next
      (enumT_next_item he hit hl hx hne fun h' a b c d k => wpAny_pure (hQ h' a b c d k)) (F.args_enumerate_next_1 _))))

theorem pyNext_enumT_end {e it l : Addr} {i : Nat} {items : Array Value} {old : Value} {Q : Option Value → Shared → Prop} (hh : A.handled = none)
    (he : IsEnum s.heap e it i old) (hit : s.heap.IsTupleIter it l i) (hl : s.heap.IsTuple l items) (hx : items[i]? = none)
    (hQ : ∀ h', Heap.ExtBut it s.heap h' → Q none { s with heap := h' }) : wpAny (model prog w) A (pyNext (.ref e)) Q E s := by
  have hT : s.TypeIs (.ref e) "enumerate" := ⟨_, he, rfl⟩
  unfold pyNext
  refine wpAny_bind (wpAny_attempt (wpAny_callSpecial?_slot (name := Str.ofString "__next__") hT F.slot_enumerate_next
    (wpAny_call_entry F.slot_enumerate_next hT F.entry_enumerate_next ?_ (F.args_enumerate_next_1 _))))
  show wpAny _ _ (field (.ref e) 2 >>= _) _ _ _
  refine wpAny_bind (wpAny_field he rfl (x := .ref it) rfl ?_)
  refine wpAny_bind (RZ.nextOf_tuple_end hh hit hl hx fun h' x he' hx' => ?_)
  obtain ⟨o, ho, hc⟩ := hx'
  refine wpAny_bind (wpAny_isInstance (T := "StopIteration") (b := true) ⟨o, ho, hc⟩ isSubtype_stop ?_)
  exact wpAny_pure (hQ _ he')
theorem call_enumT {l : Addr} {items : Array Value} {Q : Value → Shared → Prop} (hL : s.heap.IsTuple l items)
    (h : ∀ h', IsEnum h' (s.heap.objs.size + 1) s.heap.objs.size 0 .none → h'.IsTupleIter s.heap.objs.size l 0 → h'.objs.size = s.heap.objs.size + 2 →
      (∀ b o, s.heap.get? b = some o → h'.get? b = some o) → Q (.ref (s.heap.objs.size + 1)) { s with heap := h' }) :
    wpAny (model prog w) A (call (.type "enumerate") [.ref l]) Q E s := by
  obtain ⟨⟨c, dct, dt, sl⟩, hl, hc, n, hd⟩ := hL
  replace hc : c = .type "tuple" := hc
  replace hd : dt = .seq items n := hd
  subst hc hd
  refine callType_new F.called_enumerate (by decide) (F.typeCall_enumerate_1 _) (F.newCall_enumerate_1 _) (fun obj => F.args_object_init_2 obj _) F.entry_enumerate_new
    (meets_enumT l items n dct sl) ⟨hl, ?_⟩
  have hz : (s.heap.push { cls := .type "tuple_iterator", data := .fields #[.ref l, .int 0 0] }).objs.size = s.heap.objs.size + 1 := Heap.size_push ..
  show _ ∧ _
  rw [hz]
  have he : IsEnum ((s.heap.push { cls := .type "tuple_iterator", data := .fields #[.ref l, .int 0 0] }).push
      { cls := .type "enumerate", data := .fields #[.none, .bool false, .ref s.heap.objs.size, rawInt 0, .none, .none] }) (s.heap.objs.size + 1) s.heap.objs.size 0 .none := by
    have := Heap.get?_push_size (s.heap.push { cls := .type "tuple_iterator", data := .fields #[.ref l, .int 0 0] })
      (o := { cls := .type "enumerate", data := .fields #[.none, .bool false, .ref s.heap.objs.size, rawInt 0, .none, .none] }) rfl
    rw [hz] at this; exact this
  refine ⟨⟨_, he, rfl⟩, h _ he ⟨_, Heap.get?_push_of_some _ (Heap.get?_push_size _ rfl), rfl, rfl⟩ (by rw [Heap.size_push, hz]) fun b o x => Heap.get?_push_of_some _ (Heap.get?_push_of_some _ x)⟩

end
/-- the list at a as it stands at each turn, each item in a new pair -/
def IteT (K : PySem.W.Frag) (a : Addr) : It :=
  ⟨fun i H => ∃ (xs : List V) (x : V), SqT K H a xs ∧ xs[i]? = some x, fun i H v H' => ∃ T x, v = .ref T ∧ H T = none ∧ H' = upd H T (.tup [.int (i : Nat), x]) ∧ ∀ xs, SqT K H a xs → xs[i]? = some x, fun i H => ∃ xs : List V, SqT K H a xs ∧ xs.length ≤ i⟩
theorem turn_enumT {P : Program} {w : World} {K : PySem.W.Frag} {elts : List Expr} {kk : Nat} {tpos : Pos} (a e it : Addr) :
    Turn P w K (.Tuple elts kk tpos) (IteT K a) [e, it] e (fun i h => (∃ old, IsEnum h e it ((i : Nat) : Int) old) ∧ h.IsTupleIter it a i ∧ e ≠ it) where
  mem := by simp
  obj := fun i h st b hb => by
    obtain ⟨⟨old, he⟩, ⟨o, ho, hc, hd⟩, _⟩ := st
    have e' : b = e ∨ b = it := by simpa using hb
    rcases e' with z | z
    · rw [z]; exact ⟨_, he, fun v q => nomatch q⟩
    · rw [z]; exact ⟨o, ho, fun v q => by rw [hd] at q; cases q⟩
  keep := fun i h h' st k => let ⟨⟨old, he⟩, hi, hne⟩ := st; ⟨⟨old, k e (by simp) _ he⟩, hi.at fun o q => k it (by simp) o q, hne⟩
  item := by
    intro X hP hw hK hc i pins s σ H E I hf st hg
    subst hP hw hK
    obtain ⟨⟨old, he⟩, hit, hne⟩ := st
    obtain ⟨xs, x, hq, hx⟩ := hg
    obtain ⟨its, rv, p, hz⟩ := I.tuple hq
    obtain ⟨u, hu, ru⟩ := rv.get hx
    have hel : e < s.heap.objs.size := Heap.lt_size he
    have hil : it < s.heap.objs.size := by obtain ⟨_, q, _⟩ := hit; exact Heap.lt_size q
    refine pyNext_enumT_item he hit p (x := u) (by simpa using hu) hne fun h' ho hit' hT hsz hk => ?_
    refine ⟨_, rfl, wpAny_letOwnedTupleGo_enum (s := { s with heap := h', toks := s.toks + 1 }) ho fun h'' he' sb => ?_⟩
    have hT2 : h''.get? s.heap.objs.size = some { cls := .type "tuple", data := .seq #[.int i s.toks, u] } := (sb.2 _ (Nat.ne_of_gt hel)).trans hT
    have new : ObjOk X.prog X.w (upd H s.heap.objs.size (.tup [.int (i : Nat), x])) h'' s.heap.objs.size (.tup [.int (i : Nat), x]) :=
      ⟨by show 2 ≤ sizeLine; decide, [.int i s.toks, u], .cons ⟨_, rfl⟩ (.cons ru .nil), ⟨_, hT2, rfl, _, rfl⟩⟩
    have I1 : Inv X pins σ (upd H s.heap.objs.size (.tup [.int (i : Nat), x])) { s with heap := h'', toks := s.toks + 1 } :=
      I.turnedNew (ch := [e, it]) (fun b ob hb q => (sb.2 b (fun z => hb (by simp [z]))).trans (hk b ob (fun z => hb (by simp [z])) (fun z => hb (by simp [z])) q)) hf (Nat.le_refl _) new
    refine ⟨.ref s.heap.objs.size, _, I1, rfl, ⟨_, x, rfl, I.hok.fresh (Nat.le_refl _), rfl, fun ys hy => by rw [I.tuple_inj hy hq]; exact hx⟩, ⟨⟨u, ?_⟩, hit'.at fun o q => (sb.2 it (Ne.symm hne)).trans q, hne⟩, fun b hb => ?_⟩
    · have e1 : ((i + 1 : Nat) : Int) = (i : Int) + 1 := by omega
      rw [e1]; exact he'
    · have hb' : b < s.heap.objs.size := by
        have e' : b = e ∨ b = it := by simpa using hb
        rcases e' with z | z
        · rw [z]; exact hel
        · rw [z]; exact hil
      rw [upd_ne (Nat.ne_of_lt hb')]
      exact (hf b hb).1
  done := by
    intro X hP hw hK hc i pins s σ H E I hf st hg
    subst hP hw hK
    obtain ⟨⟨old, he⟩, hit, hne⟩ := st
    obtain ⟨xs, hq, hx⟩ := hg
    obtain ⟨its, rv, p, hz⟩ := I.tuple hq
    obtain ⟨f0, f1, f2, f3, f4, f5⟩ := hf it (by simp)
    have hl := rv.length
    exact pyNext_enumT_end (I.ok.hd hc) he hit p (by simp; omega) fun h' eb => ⟨rfl, I.turned (t' := s.toks) (fun b o hb q => eb b o hb q) f0 f1 f3 f4 f5⟩
  self := fun A i s Q E st h => let ⟨⟨_, he⟩, _⟩ := st; wpAny_pyIter_enum he h
def iEnumT (K : PySem.W.Frag) (ta : TA) : TI := fun σ H R => ta σ H fun vs H1 => ∃ a xs, vs = [.ref a] ∧ SqT K H1 a xs ∧ R (IteT K a) H1
theorem pi_enumT {X : Cx} {e : Expr} {ta : TA} {p pos tpos : Pos} {elts : List Expr} {kk : Nat} (hg : Gl X "enumerate") (hm : X.mg "enumerate" = none) (ha : PA X [e] ta) (hs : starEach [e] X.env = [(false, eval e X.env)] := by rfl) :
    PI X (.Tuple elts kk tpos) (.Call (.Name "enumerate" p) [e] [] pos) (iEnumT X.K ta) := by
  refine ⟨fun pins s σ H R I h => ?_⟩
  refine Call_ (ld_blt I hg hm boot_enumerate (PyProof.Rows.callWith_type1 (thn (ha.run pos pins s σ H _ I h) fun us s1 ⟨vs, H1, I1, r1, q1⟩ => ?_) hs rfl))
  obtain ⟨a, xs, ex, hq, q⟩ := q1
  subst ex
  cases r1 with
  | cons r rr =>
    cases rr
    cases r
    obtain ⟨its, rv, p', hz⟩ := I1.tuple hq
    refine call_enumT p' fun h' he hit hsz hk => wpAny_pyIter_enum he ?_
    have I2 : Inv X pins σ H1 { s1 with heap := h' } := I1.kept (t' := s1.toks) hk
    refine ⟨s1.heap.objs.size + 1, [s1.heap.objs.size + 1, s1.heap.objs.size], _, _, H1, rfl, I2, turn_enumT a (s1.heap.objs.size + 1) s1.heap.objs.size, ⟨⟨.none, he⟩, hit, Nat.succ_ne_self _⟩, fun b hb => ?_, q⟩
    have e' : b = s1.heap.objs.size + 1 ∨ b = s1.heap.objs.size := by simpa using hb
    have hle : s1.heap.objs.size ≤ b := by
      rcases e' with z | z
      · rw [z]; exact Nat.le_add_right _ _
      · rw [z]; exact Nat.le_refl _
    exact I1.fpOk hle (I1.hok.fresh hle)
end Mp
set_option maxHeartbeats 4000000
/-! A dict whose keys are nested tuples, all values True. -/
namespace Mp
open PySem PySem.Spec PyProof.Rows L2

mutual
/-- the value is the key k -/
inductive NkV (K : PySem.W.Frag) (H : Hp) : NestedKey → V → Prop
  | non : NkV K H .none .non
  | int (i : Int) : NkV K H (.num i) (.int i)
  | str (x : Str) : NkV K H (.text x) (.str x)
  | tup {a : Addr} {ks : List NestedKey} {xs : List V} : SqT K H a xs → NkA K H ks xs → NkV K H (.tup ks) (.ref a)
inductive NkA (K : PySem.W.Frag) (H : Hp) : List NestedKey → List V → Prop
  | nil : NkA K H [] []
  | cons {k : NestedKey} {v : V} {ks : List NestedKey} {vs : List V} : NkV K H k v → NkA K H ks vs → NkA K H (k :: ks) (v :: vs)
end
section
variable {X : Cx} {pins : List (Addr × Obj)} {σ : L2.St} {H : Hp} {s : Shared}
mutual
theorem NkV.is (I : Inv X pins σ H s) : ∀ {k : NestedKey} {v : V} {u : Value}, NkV X.K H k v → RelV v u → NestedIs s.heap k u
  | _, _, _, .non, r => by cases r; exact .none
  | _, _, _, .int i, r => by obtain ⟨t, rfl⟩ := r; exact .int i t
  | _, _, _, .str x, r => by obtain ⟨t, rfl⟩ := r; exact .text x t
  | _, _, _, @NkV.tup _ _ a ks xs h ha, r => by
    obtain rfl : _ = Value.ref a := r
    obtain ⟨its, rits, ⟨o, e, hc, n, hd⟩, _⟩ := I.tuple h
    refine .tup e hc hd (NkA.is I ha ?_)
    simpa using rits
theorem NkA.is (I : Inv X pins σ H s) : ∀ {ks : List NestedKey} {vs : List V} {us : List Value}, NkA X.K H ks vs → Vals vs us → NestedAll s.heap ks us
  | _, _, _, .nil, r => by cases r; exact .nil
  | _, _, _, .cons a b, r => by
    cases r with
    | cons r1 r2 => exact .cons (NkV.is I a r1) (NkA.is I b r2)
end
end
theorem NkA.ints {K : PySem.W.Frag} {H : Hp} : ∀ (is : List Int), NkA K H (is.map .num) (is.map V.int)
  | [] => .nil
  | i :: is => .cons (.int i) (NkA.ints is)

/-- the entries as they stand -/
def kdx (ks : List (NestedKey × Addr)) : List (NestedKey × Addr × Value) := ks.map fun p => (p.1, p.2, .bool true)
def KdB (P : Program) (w : World) (d : Addr) (ks : List (NestedKey × Addr)) (h : Heap) : Prop := ∃ o es ep, h.get? d = some o ∧ o.ExactDict ∧ o.data = .dict es ep ∧ es.toList = (kdx ks).map (entryOfKey (nestedKind P w))
def KdO (P : Program) (w : World) (d : Addr) (ks : List (NestedKey × Addr)) : HO := .ext (KdB P w d ks)
theorem kdO_ok {P : Program} {w : World} {H : Hp} {h : Heap} {d : Addr} {ks : List (NestedKey × Addr)} (e : KdB P w d ks h) : ObjOk P w H h d (KdO P w d ks) := by
  obtain ⟨o, es, ep, ho, r⟩ := e
  exact ⟨⟨o, es, ep, ho, r⟩, ⟨o, ho⟩, fun h1 h2 ⟨o, es, ep, ho, r⟩ k => ⟨o, es, ep, k _ ho, r⟩⟩
theorem kdO_at {P : Program} {w : World} {H : Hp} {h : Heap} {d : Addr} {ks : List (NestedKey × Addr)} (hok : HOk P w H h) (e : H d = some (KdO P w d ks)) : KdB P w d ks h := by
  have x : ObjOk P w H h d (.ext (KdB P w d ks)) := hok d _ e
  exact x.1
/-- what must hold of the keys -/
def KdK (K : PySem.W.Frag) (H : Hp) (ks : List (NestedKey × Addr)) : Prop := (∀ p ∈ ks, NkV K H p.1 (.ref p.2) ∧ p.1.depth ≤ 8) ∧ (ks.map (·.1)).Nodup
section
variable {X : Cx} {pins : List (Addr × Obj)} {σ : L2.St} {H : Hp} {s : Shared} {d : Addr} {ks : List (NestedKey × Addr)}
theorem kd_of (I : Inv X pins σ H s) (e : H d = some (KdO X.prog X.w d ks)) (c : KdK X.K H ks) : s.heap.DictOfH (nestedKind X.prog X.w) d (kdx ks) := by
  obtain ⟨o, es, ep, ho, hx, hd, he⟩ := kdO_at I.hok e
  refine ⟨o, es, ep, ho, hx, hd, he, fun x hm => ?_, ?_⟩
  · obtain ⟨p, hp, rfl⟩ := List.mem_map.mp hm
    obtain ⟨h1, h2⟩ := c.1 p hp
    exact ⟨NkV.is I h1 rfl, h2⟩
  · have : (kdx ks).map (·.1) = ks.map (·.1) := by unfold kdx; rw [List.map_map]; rfl
    rw [this]
    exact c.2
theorem kdx_at (k : NestedKey) : ∀ ks : List (NestedKey × Addr), (atKey (kdx ks) k).isSome = decide (k ∈ ks.map (·.1))
  | [] => rfl
  | p :: ks => by
    have ih := kdx_at k ks
    unfold kdx atKey at ih ⊢
    rw [List.map_cons, List.find?_cons]
    by_cases h : p.1 = k
    · simp [h]
    · have h' : ¬ k = p.1 := fun e => h e.symm
      simp only [h, decide_false, List.map_cons, List.mem_cons, h', false_or]
      exact ih
/-- k in d -/
def rInN (X : Cx) : R2 := fun x y H Q => ∃ (a d : Addr) (ks : List (NestedKey × Addr)) (k : NestedKey), x = .ref a ∧ y = .ref d ∧ H d = some (KdO X.prog X.w d ks) ∧ KdK X.K H ks ∧ NkV X.K H k (.ref a) ∧ k.depth ≤ 8 ∧ (d == sysModules) = false ∧ Room 0 X.A ∧ Q (.bl (decide (k ∈ ks.map (·.1)))) H
theorem op_inN : OpR X (compareOp .In) (rInN X) := by
  intro pins s σ H x y v u Q I rx ry h
  obtain ⟨a, d, ks, k, rfl, rfl, e, c, hk, hdp, hd, hr, q⟩ := h
  obtain rfl : v = Value.ref a := rx
  obtain rfl : u = Value.ref d := ry
  refine wpAny_in_heap (knd := nestedKind X.prog X.w) (k := k) (by have := hr.un; show X.A.units + 1 + 8 < cLine; omega) ⟨NkV.is I hk rfl, hdp⟩ hd (kd_of I e c) ?_
  rw [kdx_at]
  exact ⟨.bl _, H, I.tok _, rfl, q⟩
/-- d[k] = True, k new -/
def tSetN (X : Cx) : TSet := fun o i v H Q => ∃ (a d : Addr) (ks : List (NestedKey × Addr)) (k : NestedKey), i = .ref a ∧ o = .ref d ∧ v = .bl true ∧ H d = some (KdO X.prog X.w d ks) ∧ KdK X.K H ks ∧ NkV X.K H k (.ref a) ∧ k.depth ≤ 8 ∧ k ∉ ks.map (·.1) ∧ ks.length ≤ 1000 ∧ Room 0 X.A ∧
  Q (upd H d (KdO X.prog X.w d (ks ++ [(k, a)])))
theorem pset_N : PSet X (tSetN X) := by
  intro pins s σ H o i v ov iv u Q I ro ri rv h
  obtain ⟨a, d, ks, k, rfl, rfl, rfl, e, c, hk, hdp, hn, hl, hr, q⟩ := h
  obtain rfl : ov = Value.ref d := ro
  obtain rfl : iv = Value.ref a := ri
  obtain rfl : u = Value.bool true := rv
  refine wpAny_setItem_heap (knd := nestedKind X.prog X.w) (k := k) (by have := hr.un; show X.A.units + 1 + 8 < cLine; omega) ⟨NkV.is I hk rfl, hdp⟩ (kd_of I e c) (fun h' hm hs => ?_) (by unfold kdx; rw [List.length_map, sizeLine_eq]; omega)
  have hnone : atKey (kdx ks) k = none := by
    have z := kdx_at k ks
    rw [decide_eq_false hn] at z
    cases hq : atKey (kdx ks) k with
    | none => rfl
    | some p => rw [hq] at z; cases z
  rw [storedH_new hnone] at hm
  obtain ⟨o, es, ep, ho, hx, hd, he, _, _⟩ := hm
  have eb : KdB X.prog X.w d (ks ++ [(k, a)]) h' := ⟨o, es, ep, ho, hx, hd, by rw [he]; unfold kdx; rw [List.map_append (l₁ := ks)]; rfl⟩
  exact ⟨_, I.write (x := d) (e := d) (t' := s.toks + (nestedKind X.prog X.w).draws k) (by rw [e]; exact True.intro) (.inl rfl) (fun b o nb z => (hs.2 b nb).trans z) ⟨_, ho⟩ (kdO_ok eb), q⟩
/-- {} -/
theorem pe_dnewN {pos : Pos} : PE X (.Dict [] [] pos) (fun _ H Q => ∀ d, H d = none → (d == sysModules) = false → Q (.ref d) (upd H d (KdO X.prog X.w d []))) := ⟨fun pins s σ H Q I h => by
  refine wpAny_Dict_empty ⟨.ref s.heap.objs.size, _, I.laid (a := s.heap.objs.size) (o := KdO X.prog X.w s.heap.objs.size []) (t' := s.toks) (fun _ _ q => Heap.get?_push_of_some _ q) (Nat.le_refl _) (kdO_ok ⟨_, #[], 0, Heap.get?_push_size _ rfl, ⟨rfl, rfl, rfl⟩, rfl, rfl⟩), rfl, h _ (I.hok.fresh (Nat.le_refl _)) ?_⟩
  exact beq_eq_false_iff_ne.mpr (Ne.symm (Nat.ne_of_lt I.big))⟩
end
end Mp
set_option maxHeartbeats 4000000
/-! == of two tuples whose items have an == of their own, with both answers. -/
namespace Mp
open PySem PySem.Spec PyProof.Rows L2
section
open PySem.SeqAt MeetsSeq MeetsSeq2 MeetsSeq3 SeqRoads2
open AutoSeq1 (wpAny_loadPart')
variable {prog : Program} {w : World} {A : Around} {R : Result → Shared → Prop}
theorem tuple_eqB (l b : Addr) (items items2 : Array Value) (n n2 : Nat) (dd dd2 : Option Addr) (sl sl2 : Array (Option Value)) (e : Nat → Bool) (I : Shared → Prop)
    (turn : ∀ i (h1 : i < items.size) (h2 : i < items2.size) s, I s → wpAny (model prog w) A.in1 (eqBool items[i] items2[i]) (fun r s' => r = e i ∧ I s') (fun e s' => R (.error e) s') s)
    (fin : ∀ s, I s → R (.ok (.ret (.bool ((List.range (min items.size items2.size)).all e && items.size == items2.size)))) s)
    {s : Shared} (hl1 : s.heap.get? l = some { cls := .type "tuple", dict := dd, data := .seq items n, slots := sl }) (hb1 : s.heap.get? b = some { cls := .type "tuple", dict := dd2, data := .seq items2 n2, slots := sl2 }) (h : I s) :
    wpAny (model prog w) A.in1 (Builtin.«tuple.__eq__» ⟨[.ref l, .ref b], []⟩) (GQ.FinOf prog w A R) (fun e s' => R (.error e) s') s := by
  have f2 := AutoSeq1.sub_tuple_tuple
  have hZ : (items.toList.zip items2.toList).length = min items.size items2.size := by simp
  have h0 := h
  obtain ⟨hp, g, d, tk, os⟩ := s
  wp_walk using wpAny_loadPart' hl1, wpAny_loadPart' hb1, wpAny_forIn_list _ (fun rest b s' => b.1 = none ∧ I s' ∧ ∃ i, rest = (items.toList.zip items2.toList).drop i ∧
      (List.range (min items.size items2.size)).all e = ((List.range (min items.size items2.size)).drop i).all e) _
  case turn =>
    rintro ⟨y, x⟩ rest b s' ⟨hb', hI, i, hz, hR⟩
    have hlt : i < (items.toList.zip items2.toList).length := by
      rcases Nat.lt_or_ge i (items.toList.zip items2.toList).length with h' | h'
      · exact h'
      · rw [List.drop_of_length_le h'] at hz; cases hz
    have hm : i < min items.size items2.size := hZ ▸ hlt
    have h1 : i < items.size := Nat.lt_of_lt_of_le hm (Nat.min_le_left _ _)
    have h2 : i < items2.size := Nat.lt_of_lt_of_le hm (Nat.min_le_right _ _)
    rw [List.drop_eq_getElem_cons hlt] at hz
    injection hz with hyx hrest
    have hy : y = items[i] := by have := congrArg Prod.fst hyx; simpa using this
    have hx : x = items2[i] := by have := congrArg Prod.snd hyx; simpa using this
    subst hy hx
    have hd : (List.range (min items.size items2.size)).drop i = i :: (List.range (min items.size items2.size)).drop (i + 1) := by simp [List.drop_eq_getElem_cons, hm]
    rw [hd, List.all_cons] at hR
    refine wpAny_bind (wpAny_mono (turn i h1 h2 s' hI) (fun r s2 q2 => ?_) fun _ _ x => x)
    obtain ⟨hr, q2⟩ := q2
    subst hr
    cases hy : e i with
    | true =>
      rw [hy] at hR
      wp_walk
      exact ⟨rfl, q2, i + 1, hrest, by simpa using hR⟩
    | false =>
      rw [hy] at hR
      wp_walk
      have z := fin s2 q2
      rw [hR] at z
      simpa using z
  case fin =>
    rintro ⟨b1, b2⟩ s' ⟨hb', hI, i, hz, hR⟩
    simp only at hb'
    subst hb'
    have hge : min items.size items2.size ≤ i := by
      rcases Nat.lt_or_ge i (items.toList.zip items2.toList).length with h' | h'
      · rw [List.drop_eq_getElem_cons h'] at hz; cases hz
      · exact hZ ▸ h'
    rw [List.drop_of_length_le (by simpa using hge)] at hR
    have z := fin s' hI
    rw [hR] at z
    wp_walk
    simpa [Builtin.Tuple.tupleCompareSizes] using z
  case h =>
    exact ⟨rfl, h0, 0, rfl, by simp⟩
variable {E : Value → Shared → Prop} {s : Shared}
theorem rc_tupB {l b : Addr} {items items2 : Array Value} {Q : Value → Shared → Prop} (e : Nat → Bool) (hu : A.units < cLine) (I : Shared → Prop)
    (hl : s.heap.IsTuple l items) (hb : s.heap.IsTuple b items2)
    (turn : ∀ i (h1 : i < items.size) (h2 : i < items2.size) s, I s → wpAny (model prog w) A.in1 (eqBool items[i] items2[i]) (fun r s' => r = e i ∧ I s') E s)
    (fin : ∀ s, I s → Q (.bool ((List.range (min items.size items2.size)).all e && items.size == items2.size)) s) (h : I s) : wpAny (model prog w) A (richCompare .Eq (.ref l) (.ref b)) Q E s := by
  obtain ⟨⟨cls, dd, data, sl⟩, ho, hc, n, hd⟩ := id hl
  obtain ⟨⟨cls2, dd2, data2, sl2⟩, ho2, hc2, n2, hd2⟩ := id hb
  simp only at hc hd hc2 hd2
  subst hc hd hc2 hd2
  refine wpAny_richCompare_same_room (op := .Eq) ⟨_, ho, rfl⟩ ⟨_, ho2, rfl⟩ F.slot_tuple_eq (GQ.call_here F.slot_tuple_eq ⟨_, ho, rfl⟩ F.entry_tuple_eq (F.args_tuple_eq_2 _ _) ?_) hu
  exact tuple_eqB (R := wants (fun v s' => v ≠ .notImplemented ∧ Q v s') E) l b items items2 n n2 dd dd2 sl sl2 e I turn (fun s' q => ⟨(fun x => nomatch x), fin s' q⟩) ho ho2 h
end

/-- == inside a built-in gives what D says, and only makes objects -/
abbrev EqvB := V → V → Bool → Hp → Prop
def MonB (D : EqvB) : Prop := ∀ x y b H H', Ext H H' → D x y b H → D x y b H'
def EqB (X : Cx) (n : Nat) (D : EqvB) : Prop :=
  ∀ (A : Around) (pins : List (Addr × Obj)) (s : Shared) (σ : L2.St) (H : Hp) (x y : V) (b : Bool) (u v : Value), Sub X n A → Inv X pins σ H s → RelV x u → RelV y v → D x y b H →
    wpAny (model X.prog X.w) A (eqBool u v) (fun r s' => r = b ∧ ∃ H', Inv X pins σ H' s' ∧ Ext H H') X.xe s
section
variable {X : Cx} {n : Nat} {D : EqvB}
/-- instances of the class at C with an own == -/
def DInsB (X : Cx) (n : Nat) (C : Addr) : EqvB := fun x y b H => ∃ (p q dp dq : Addr) (fs gs : List (Str × V)) (sp : Sp), x = .ref p ∧ y = .ref q ∧ H p = some (.ins C dp fs) ∧ H q = some (.ins C dq gs) ∧
  OG X.prog X.w X.K X.mg X.base n C "__eq__" sp ∧ (p = q → b = true) ∧ Evl.SpV sp [.ref p, .ref q] H (.bl b)
theorem mon_insB {C : Addr} : MonB (DInsB X n C) := fun x y b H H' e ⟨p, q, dp, dq, fs, gs, sp, h1, h2, h3, h4, h5, h6, h7⟩ =>
  ⟨p, q, dp, dq, fs, gs, sp, h1, h2, e _ _ h3, e _ _ h4, h5, h6, fun H1 e1 => h7 H1 (Evl.Ex.trans e e1)⟩
theorem eqB_ins {C : Addr} : EqB X n (DInsB X n C) := by
  intro A pins s σ H x y b u v sb I rx ry d
  obtain ⟨p, q, dp, dq, fs, gs, sp, rfl, rfl, hp, hq, G, hpq, hs⟩ := d
  obtain rfl : u = Value.ref p := rx
  obtain rfl : v = Value.ref q := ry
  by_cases e : p = q
  · subst e
    have hb := hpq rfl
    subst hb
    exact SeqAt.EqAt.same (A := A) (s := s) (.ref p) X.prog X.w X.xe _ ⟨rfl, H, I, Ext.rfl'⟩
  · have ty : TyL X.K H (.ref q) (.ref C) := .inr ⟨q, C, dq, gs, rfl, hq, rfl⟩
    refine GQ.eqBool_refG e (wpAny_mono (rc_eqO (Q := fun r H' => r = b ∧ Ext H H') I hp (show RelV (.ref q) (Value.ref q) from rfl) ty (by simp [PySem.W.notFirst]) G sb ?_) (fun r s' z => ?_) fun _ _ x => x)
    · exact hs H (Evl.Ex.refl H) _ (fun H' e => ⟨b, rfl, rfl, e⟩) E0
    · obtain ⟨r', rfl, H', I', h1, h2⟩ := z
      exact ⟨r', rfl, h1, H', I', h2⟩
/-- x == y of two tuples -/
def rEqTB (X : Cx) (D : EqvB) : R2 := fun x y H Q => ∃ (l b : Addr) (xs ys : List V) (e : Nat → Bool), x = .ref l ∧ y = .ref b ∧ SqT X.K H l xs ∧ SqT X.K H b ys ∧ (∀ i x y, xs[i]? = some x → ys[i]? = some y → D x y (e i) H) ∧
  ∀ H', Ext H H' → Q (.bl ((List.range (min xs.length ys.length)).all e && xs.length == ys.length)) H'
theorem rcB_tup {A : Around} {pins : List (Addr × Obj)} {s : Shared} {σ : L2.St} {H : Hp} {l b : Addr} {xs ys : List V} {e : Nat → Bool} (hD : MonB D) (h : EqB X n D) (sb : Sub X (n + 1) A) (I : Inv X pins σ H s) (hl : SqT X.K H l xs) (hb : SqT X.K H b ys)
    (he : ∀ i x y, xs[i]? = some x → ys[i]? = some y → D x y (e i) H) :
    wpAny (model X.prog X.w) A (richCompare .Eq (.ref l) (.ref b)) (fun r s' => r = .bool ((List.range (min xs.length ys.length)).all e && xs.length == ys.length) ∧ ∃ H', Inv X pins σ H' s' ∧ Ext H H') X.xe s := by
  obtain ⟨its, r, p1, z⟩ := I.tuple hl
  obtain ⟨its2, r2, p2, z2⟩ := I.tuple hb
  have n1 : its.toArray.size = xs.length := by rw [List.size_toArray, ← r.length]
  have n2 : its2.toArray.size = ys.length := by rw [List.size_toArray, ← r2.length]
  refine rc_tupB e sb.room.units0 (fun s' => ∃ H', Inv X pins σ H' s' ∧ Ext H H') p1 p2 (fun i h1 h2 s' q => ?_) (fun s' q => ⟨by rw [n1, n2], q⟩) ⟨H, I, Ext.rfl'⟩
  obtain ⟨H1, I1, e1⟩ := q
  have h1' : i < its.length := by simpa using h1
  have h2' : i < its2.length := by simpa using h2
  have k1 : i < xs.length := by rw [r.length]; exact h1'
  have k2 : i < ys.length := by rw [r2.length]; exact h2'
  have g1 : its[i]? = some its.toArray[i] := by rw [List.getElem?_eq_getElem h1'] <;> simp
  have g2 : its2[i]? = some its2.toArray[i] := by rw [List.getElem?_eq_getElem h2'] <;> simp
  obtain ⟨u, hu, ru⟩ := r.get (List.getElem?_eq_getElem k1)
  obtain ⟨v, hv, rv⟩ := r2.get (List.getElem?_eq_getElem k2)
  rw [g1] at hu
  rw [g2] at hv
  rw [Option.some.inj hu, Option.some.inj hv]
  refine wpAny_mono (h A.in1 pins s' σ H1 _ _ (e i) u v sb.in1 I1 ru rv (hD _ _ _ _ _ e1 (he i _ _ (List.getElem?_eq_getElem k1) (List.getElem?_eq_getElem k2)))) (fun r s2 q => ?_) fun _ _ x => x
  obtain ⟨hr, H2, I2, e2⟩ := q
  exact ⟨hr, H2, I2, e1.trans e2⟩
theorem op_eqTB (hD : MonB D) (h : EqB X n D) (hr : Room (n + 1) X.A) : OpR X (compareOp .Eq) (rEqTB X D) := by
  intro pins s σ H x y v u Q I rx ry q
  obtain ⟨l, b, xs, ys, e, rfl, rfl, hl, hb, he, q⟩ := q
  obtain rfl : v = Value.ref l := rx
  obtain rfl : u = Value.ref b := ry
  show wpAny (model X.prog X.w) X.A (richCompare .Eq _ _) (EP X pins σ Q) X.xe s
  refine wpAny_mono (rcB_tup hD h (Sub.self hr) I hl hb he) (fun r s' z => ?_) fun _ _ x => x
  obtain ⟨rfl, H', I', e'⟩ := z
  exact ⟨.bl _, H', I', rfl, q H' e'⟩
end
end Mp
set_option maxHeartbeats 4000000
/-! repr of data; calls of defs below a stack without guards. -/
namespace Mp
open PySem PySem.Spec PyProof.Rows L2

section
variable {X : Cx}
theorem dp_hasDict {K : PySem.W.Frag} {H : Hp} : ∀ {x : V} {d : PyData}, Dp K H x d → d.canLay0 = true → d.hasDict = false := fun _ h => PyData.hasDict_of_canLay _ h
/-- repr(x), x data -/
def rReprD (K : PySem.W.Frag) : List V → Hp → VK → Prop := fun xs H Q => ∃ x d, xs = [x] ∧ Dp K H x d ∧ d.canLay0 = true ∧ d.showable = true ∧ d.depth ≤ 60 ∧ d.shown.length ≤ sizeLine ∧ Q (.str d.shown) H
theorem call_reprD (hg : X.A.guards = some []) (hu : X.A.units + 70 < cLine) : CallR X (.builtin "repr") (rReprD X.K) := by
  intro pins s σ H xs us Q I r h
  obtain ⟨x, d, rfl, hd, hl, hs, hdp, hz, q⟩ := h
  obtain ⟨u, rfl, ru⟩ := vals1 r
  obtain ⟨as, rd⟩ := Dp.reads I d x u hd ru
  have hno := PyData.hasDict_of_canLay d hl
  cases rd with
  | none => exact PySem.P.repr_of_none ⟨.str _, H, I.tok _, ⟨_, rfl⟩, q⟩
  | bool b => exact PySem.P.repr_of_bool ⟨.str _, H, I.tok _, ⟨_, rfl⟩, q⟩
  | int i t => exact PySem.P.repr_of_int (of_decide_eq_true (by simpa [PyData.showable] using hs)) ⟨.str _, H, I.tok _, ⟨_, rfl⟩, q⟩
  | str y t => exact PySem.P.repr_of_str ⟨.str _, H, I.tok _, ⟨_, rfl⟩, q⟩
  | list h1 h2 h3 h4 =>
    exact repr_of_reads' (.list h1 h2 h3 h4) hs (fun e => by rw [hno] at e; cases e) hg (by omega) (fun _ _ e => e) (fun h' u tk k => ⟨.str _, H, I.kept k, ⟨_, rfl⟩, q⟩) hz
  | tuple h1 h2 h3 h4 =>
    exact repr_of_reads' (.tuple h1 h2 h3 h4) hs (fun e => by rw [hno] at e; cases e) hg (by omega) (fun _ _ e => e) (fun h' u tk k => ⟨.str _, H, I.kept k, ⟨_, rfl⟩, q⟩) hz
  | dict h1 h2 h3 h4 h5 => simp [PyData.canLay0] at hl
end
end Mp
set_option maxHeartbeats 4000000
/-! A run that is told of a state whose sleeping generators are dead is told of the state itself: it leaves them as they are. -/
namespace Mp
open PySem
open Sem (wp)

/-- no generator's frame among them -/
def NG (fs : List Frame) : Prop := ∀ f ∈ fs, ∃ k h g l c p kp, f = Frame.ret k h g l c p kp
theorem NG.nil : NG [] := fun _ h => nomatch h
theorem NG.cons {f : Frame} {fs : List Frame} (h : NG (f :: fs)) : NG fs := fun x hx => h x (List.mem_cons_of_mem _ hx)
theorem NG.app {a b : List Frame} (ha : NG a) (hb : NG b) : NG (a ++ b) := fun x hx => (List.mem_append.mp hx).elim (ha x) (hb x)
theorem NG.one {k h g l c p kp} : NG [Frame.ret k h g l c p kp] := fun x hx => by
  have e : x = Frame.ret k h g l c p kp := by simpa using hx
  exact ⟨_, _, _, _, _, _, _, e⟩
theorem NG.nogen {g k l c p fs} (h : NG (Frame.gen g k l c p :: fs)) : False := by
  obtain ⟨_, _, _, _, _, _, _, e⟩ := h _ List.mem_cons_self
  cases e
theorem NG.split : ∀ {fs : List Frame}, NG fs → splitAtGen fs = none
  | [], _ => rfl
  | f :: fs, h => by
    obtain ⟨k, hh, g, l, c, p, kp, rfl⟩ := h _ List.mem_cons_self
    show (splitAtGen fs).map _ = none
    rw [NG.split h.cons]
    rfl

/-- what is told of the sleeping generator y: x -/
inductive PR : GenState → GenState → Prop
  | same {y : GenState} (h : ∀ k l c p fs cl, y = .suspended k l c p fs cl → NG fs) : PR y y
  | dead {k l c p fs cl} : PR (.suspended (fun _ => .unsupported "dead") l c p fs cl) (.suspended k l c p fs cl)
theorem PR.seen {x y : GenState} (h : PR x y) : x.seen = y.seen := by
  cases h <;> rfl
theorem PR.bare {x y : GenState} (h : PR x y) : x.bare = y.bare := by
  cases h <;> rfl
/-- the array b tells of the array G; g sleeps as gs, told dead -/
structure RG (g : Nat) (gs : GenState) (b G : Array GenState) : Prop where
  size : b.size = G.size
  at_ : ∀ (i : Nat) y, G[i]? = some y → ∃ x, b[i]? = some x ∧ PR x y
  me : G[g]? = some gs
  dead : ∃ k l c p fs cl, gs = .suspended k l c p fs cl ∧ b[g]? = some (.suspended (fun _ => .unsupported "dead") l c p fs cl)
section
variable {g : Nat} {gs : GenState} {b G : Array GenState}
theorem RG.back (r : RG g gs b G) {i : Nat} {x : GenState} (h : b[i]? = some x) : ∃ y, G[i]? = some y ∧ PR x y := by
  have hi : i < G.size := by
    rw [← r.size]
    exact (Array.getElem?_eq_some_iff.mp h).1
  obtain ⟨x', h1, h2⟩ := r.at_ i _ (Array.getElem?_eq_getElem hi)
  rw [h] at h1
  cases h1
  exact ⟨_, Array.getElem?_eq_getElem hi, h2⟩
theorem RG.push (r : RG g gs b G) (c : Code) : RG g gs (b.push (.fresh c)) (G.push (.fresh c)) := by
  have hg : g < G.size := (Array.getElem?_eq_some_iff.mp r.me).1
  refine ⟨by simp [r.size], fun i y h => ?_, ?_, ?_⟩
  · rw [Array.getElem?_push] at h
    rw [Array.getElem?_push, r.size]
    split at h
    · rename_i e
      rw [if_pos e]
      cases h
      exact ⟨_, rfl, .same fun _ _ _ _ _ _ z => nomatch z⟩
    · rename_i e
      rw [if_neg e]
      exact r.at_ i y h
  · rw [Array.getElem?_push, if_neg (Nat.ne_of_lt hg)]
    exact r.me
  · obtain ⟨k, l, c', p, fs, cl, e, h⟩ := r.dead
    refine ⟨k, l, c', p, fs, cl, e, ?_⟩
    rw [Array.getElem?_push, r.size, if_neg (Nat.ne_of_lt hg)]
    exact h
theorem RG.set (r : RG g gs b G) {i : Nat} (hi : i ≠ g) {x : GenState} (hx : PR x x) : RG g gs (b.setIfInBounds i x) (G.setIfInBounds i x) := by
  refine ⟨by simp [r.size], fun j y h => ?_, ?_, ?_⟩
  · rw [Array.getElem?_setIfInBounds] at h ⊢
    rw [r.size]
    split at h
    · rename_i e
      rw [if_pos e]
      split at h
      · rename_i e2
        rw [if_pos e2]
        cases h
        exact ⟨_, rfl, hx⟩
      · cases h
    · rename_i e
      rw [if_neg e]
      exact r.at_ j y h
  · rw [Array.getElem?_setIfInBounds, if_neg hi]
    exact r.me
  · obtain ⟨k, l, c', p, fs, cl, e, h⟩ := r.dead
    refine ⟨k, l, c', p, fs, cl, e, ?_⟩
    rw [Array.getElem?_setIfInBounds, if_neg hi]
    exact h
end
def NGe : End → Prop
  | .ret _ => True
  | .susp _ _ _ _ _ _ fs => NG fs
theorem NGe.pr {e : End} (h : NGe e) : PR e.genState e.genState := by
  cases e with
  | ret r => exact .same fun _ _ _ _ _ _ z => nomatch z
  | susp v gd l k c p fs =>
    refine .same fun k' l' c' p' fs' cl' z => ?_
    injection z with _ _ _ _ z _
    rw [← z]
    exact h

/-- a dead generator's continuation does not run -/
theorem dead_runs {M : Model} {Γ : Ctx} {p : Pos} {x : String} {t : Sem PySem.Fin} {fs : List Frame} {s s' : Shared} {e : End} (h : Runs M Γ p t fs s e s') : t ≠ .unsupported x := by
  induction h with
  | segRet _ _ ih _ => exact ih
  | segGen _ _ ih _ => exact ih
  | segSuspOut _ _ ih => exact ih
  | segSuspGen _ _ _ _ ih _ => exact ih
  | _ => exact fun z => nomatch z
abbrev wg (a : Shared) (G : Array GenState) : Shared := { a with gens := G }
section
variable {M : Model} {g : Nat} {gs : GenState}
theorem runs_frame {Γ : Ctx} {p : Pos} {t : Sem PySem.Fin} {fs : List Frame} {a a' : Shared} {e : End} (h : Runs M Γ p t fs a e a') :
    NG fs → ∀ G, RG g gs a.gens G → ∃ G', RG g gs a'.gens G' ∧ Runs M Γ p t fs (wg a G) e (wg a' G') ∧ NGe e := by
  induction h with
  | done => exact fun _ G r => ⟨G, r, .done, True.intro⟩
  | raise => exact fun _ G r => ⟨G, r, .raise, True.intro⟩
  | again q _ ih => exact fun n G r => let ⟨G', r', h, ne⟩ := ih n G r; ⟨G', r', .again q h, ne⟩
  | rule _ ih => exact fun n G r => let ⟨G', r', h, ne⟩ := ih n G r; ⟨G', r', .rule h, ne⟩
  | «at» _ ih => exact fun n G r => let ⟨G', r', h, ne⟩ := ih n G r; ⟨G', r', .at h, ne⟩
  | load ho _ ih => exact fun n G r => let ⟨G', r', h, ne⟩ := ih n G r; ⟨G', r', .load ho h, ne⟩
  | update ho _ ih => exact fun n G r => let ⟨G', r', h, ne⟩ := ih n G r; ⟨G', r', .update ho h, ne⟩
  | loadIfAlive _ ih => exact fun n G r => let ⟨G', r', h, ne⟩ := ih n G r; ⟨G', r', .loadIfAlive h, ne⟩
  | point _ ih => exact fun n G r => let ⟨G', r', h, ne⟩ := ih n G r; ⟨G', r', .point h, ne⟩
  | alloc _ ih => exact fun n G r => let ⟨G', r', h, ne⟩ := ih n G r; ⟨G', r', .alloc h, ne⟩
  | fresh _ ih => exact fun n G r => let ⟨G', r', h, ne⟩ := ih n G r; ⟨G', r', .fresh h, ne⟩
  | ask _ ih => exact fun n G r => let ⟨G', r', h, ne⟩ := ih n G r; ⟨G', r', .ask h, ne⟩
  | choose hn _ ih => exact fun n G r => let ⟨G', r', h, ne⟩ := ih n G r; ⟨G', r', .choose hn h, ne⟩
  | os _ ih => exact fun n G r => let ⟨G', r', h, ne⟩ := ih n G r; ⟨G', r', .os h, ne⟩
  | handled _ ih => exact fun n G r => let ⟨G', r', h, ne⟩ := ih n G r; ⟨G', r', .handled h, ne⟩
  | genState hg _ ih =>
    intro n G r
    obtain ⟨y, hy, py⟩ := r.back hg
    obtain ⟨G', r', h, ne⟩ := ih n G r
    exact ⟨G', r', .genState hy (by rw [← py.seen]; exact h), ne⟩
  | stack _ ih => exact fun n G r => let ⟨G', r', h, ne⟩ := ih n G r; ⟨G', r', .stack h, ne⟩
  | thread _ ih => exact fun n G r => let ⟨G', r', h, ne⟩ := ih n G r; ⟨G', r', .thread h, ne⟩
  | newGen _ ih =>
    intro n G r
    obtain ⟨G', r', h, ne⟩ := ih n _ (r.push _)
    refine ⟨G', r', .newGen ?_, ne⟩
    rw [r.size] at h
    exact h
  | call _ _ ih1 ih2 =>
    intro n G r
    obtain ⟨G1, r1, h1, _⟩ := ih1 NG.nil G r
    obtain ⟨G2, r2, h2, ne⟩ := ih2 n G1 r1
    exact ⟨G2, r2, .call h1 h2, ne⟩
  | callSusp _ ih =>
    intro n G r
    obtain ⟨G1, r1, h1, ne⟩ := ih NG.nil G r
    exact ⟨G1, r1, .callSusp h1, NG.app ne NG.one⟩
  | yield => exact fun _ G r => ⟨G, r, .yield, NG.nil⟩
  | @resumeFresh Γ p g' l k s c e₁ s₁ e s' hg _ q _ ih1 ih2 =>
    intro n G r
    obtain ⟨y, hy, py⟩ := r.back hg
    have hgg : g' ≠ g := fun z => by
      obtain ⟨_, _, _, _, _, _, _, h⟩ := r.dead
      rw [z, h] at hg
      cases hg
    cases py with
    | same hs =>
      obtain ⟨G1, r1, h1, ne1⟩ := ih1 NG.nil (G.setIfInBounds g' .running) (r.set hgg (.same fun _ _ _ _ _ _ z => nomatch z))
      obtain ⟨G2, r2, h2, ne⟩ := ih2 n (G1.setIfInBounds g' e₁.genState) (r1.set hgg ne1.pr)
      exact ⟨G2, r2, .resumeFresh hy h1 q h2, ne⟩
  | @resumeSuspended Γ p g' r' l k s k₀ l₀ c₀ p₀ fs cl e₁ s₁ e s' hg hr q _ ih1 ih2 =>
    intro n G r
    obtain ⟨y, hy, py⟩ := r.back hg
    cases py with
    | same hs =>
      have hgg : g' ≠ g := fun z => by
        obtain ⟨_, _, _, _, _, _, _, h⟩ := r.dead
        rw [z, h] at hg
        cases hg
        exact dead_runs hr rfl
      obtain ⟨G1, r1, h1, ne1⟩ := ih1 (hs _ _ _ _ _ _ rfl) (G.setIfInBounds g' .running) (r.set hgg (.same fun _ _ _ _ _ _ z => nomatch z))
      obtain ⟨G2, r2, h2, ne⟩ := ih2 n (G1.setIfInBounds g' e₁.genState) (r1.set hgg ne1.pr)
      exact ⟨G2, r2, .resumeSuspended hy h1 q h2, ne⟩
    | dead => exact (dead_runs hr rfl).elim
  | resumeJustStarted hg hv _ ih =>
    intro n G r
    obtain ⟨y, hy, py⟩ := r.back hg
    cases py with
    | same hs =>
      obtain ⟨G', r', h, ne⟩ := ih n G r
      exact ⟨G', r', .resumeJustStarted hy hv h, ne⟩
  | @resumeThrowFresh g' Γ p k e s' x l s c hg _ ih =>
    intro n G r
    obtain ⟨y, hy, py⟩ := r.back hg
    have hgg : g' ≠ g := fun z => by
      obtain ⟨_, _, _, _, _, _, _, h⟩ := r.dead
      rw [z, h] at hg
      cases hg
    cases py with
    | same hs =>
      obtain ⟨G', r', h, ne⟩ := ih n (G.setIfInBounds g' .finished) (r.set hgg (.same fun _ _ _ _ _ _ z => nomatch z))
      exact ⟨G', r', .resumeThrowFresh hy h, ne⟩
  | resumeRunning hg _ ih =>
    intro n G r
    obtain ⟨y, hy, py⟩ := r.back hg
    cases py with
    | same hs =>
      obtain ⟨G', r', h, ne⟩ := ih n G r
      exact ⟨G', r', .resumeRunning hy h, ne⟩
  | resumeFinished hg _ ih =>
    intro n G r
    obtain ⟨y, hy, py⟩ := r.back hg
    cases py with
    | same hs =>
      obtain ⟨G', r', h, ne⟩ := ih n G r
      exact ⟨G', r', .resumeFinished hy h, ne⟩
  | segRet _ _ ih1 ih2 =>
    intro n G r
    obtain ⟨G1, r1, h1, _⟩ := ih1 NG.nil G r
    obtain ⟨G2, r2, h2, ne⟩ := ih2 n.cons G1 r1
    exact ⟨G2, r2, .segRet h1 h2, ne⟩
  | segGen _ _ _ _ => exact fun n _ _ => (NG.nogen n).elim
  | segSuspOut hs _ ih =>
    intro n G r
    obtain ⟨G1, r1, h1, ne⟩ := ih NG.nil G r
    exact ⟨G1, r1, .segSuspOut hs h1, NG.app ne n⟩
  | segSuspGen hs _ _ _ _ _ =>
    intro n _ _
    rw [NG.split n] at hs
    cases hs
theorem returns_frame {Γ : Ctx} {p : Pos} {a a' : Shared} {r : Result} {G : Array GenState} (h : Returns M Γ p a r a') (rg : RG g gs a.gens G) : ∃ G', RG g gs a'.gens G' ∧ Returns M Γ p (wg a G) r (wg a' G') :=
  let ⟨G', r', h', _⟩ := runs_frame h NG.nil G rg
  ⟨G', r', h'⟩
theorem wakes_frame {Γ : Ctx} {p : Pos} {g' : Nat} {r : Resume} {a a' : Shared} {res : GenResult} {G : Array GenState} (h : Wakes M Γ p g' r a res a') (rg : RG g gs a.gens G) : ∃ G', RG g gs a'.gens G' ∧ Wakes M Γ p g' r (wg a G) res (wg a' G') := by
  unfold Wakes at h
  cases hq : a.gens[g']? with
  | none => rw [hq] at h; exact h.elim
  | some x =>
    obtain ⟨y, hy, py⟩ := rg.back hq
    have hy' : (wg a G).gens[g']? = some y := hy
    rw [hq] at h
    have nd : ∀ {z : GenState}, (∀ k l c p fs cl, z ≠ .suspended k l c p fs cl) → PR z z := fun h => .same fun k l c p fs cl e => absurd e (h k l c p fs cl)
    unfold Wakes
    rw [hy']
    cases x with
    | fresh c =>
      have hgg : g' ≠ g := fun z => by
        obtain ⟨_, _, _, _, _, _, _, h⟩ := rg.dead
        rw [z, h] at hq
        cases hq
      cases py with
      | same hs =>
        cases r with
        | send v =>
          cases v with
          | none =>
            obtain ⟨e₁, s₁, h1, q, e2, e3⟩ := h
            obtain ⟨G1, r1, h1', ne1⟩ := runs_frame h1 NG.nil (G.setIfInBounds g' .running) (rg.set hgg (nd fun _ _ _ _ _ _ z => nomatch z))
            refine ⟨G1.setIfInBounds g' e₁.genState, ?_, e₁, wg s₁ G1, h1', q, e2, ?_⟩
            · rw [e3]; exact r1.set hgg ne1.pr
            · rw [e3]; rfl
          | _ =>
            obtain ⟨e1, e2⟩ := h
            subst e1 e2
            exact ⟨G, rg, rfl, rfl⟩
        | throw x =>
          obtain ⟨e1, e2⟩ := h
          subst e1 e2
          exact ⟨G.setIfInBounds g' .finished, rg.set hgg (nd fun _ _ _ _ _ _ z => nomatch z), rfl, rfl⟩
    | suspended k₀ l₀ c₀ p₀ fs cl =>
      obtain ⟨e₁, s₁, h1, q, e2, e3⟩ := h
      cases py with
      | same hs =>
        have hgg : g' ≠ g := fun z => by
          obtain ⟨_, _, _, _, _, _, _, h⟩ := rg.dead
          rw [z, h] at hq
          cases hq
          exact dead_runs h1 rfl
        obtain ⟨G1, r1, h1', ne1⟩ := runs_frame h1 (hs _ _ _ _ _ _ rfl) (G.setIfInBounds g' .running) (rg.set hgg (nd fun _ _ _ _ _ _ z => nomatch z))
        refine ⟨G1.setIfInBounds g' e₁.genState, ?_, e₁, wg s₁ G1, h1', q, e2, ?_⟩
        · rw [e3]; exact r1.set hgg ne1.pr
        · rw [e3]; rfl
      | dead => exact (dead_runs h1 rfl).elim
    | running =>
      obtain ⟨e1, e2⟩ := h
      cases py with
      | same hs =>
        subst e1 e2
        exact ⟨G, rg, rfl, rfl⟩
    | finished =>
      obtain ⟨e1, e2⟩ := h
      cases py with
      | same hs =>
        subst e1 e2
        exact ⟨G, rg, rfl, rfl⟩
/-- the same of a tree's wish -/
theorem wp_frame {α : Type} (Γ : Ctx) (t : Sem α) : ∀ (Q : α → Pos → Shared → Prop) (E : Value → Pos → Shared → Prop) (p : Pos) (a : Shared) (G : Array GenState), RG g gs a.gens G → wp M Γ t Q E p a →
    wp M Γ t (fun x p' s' => ∃ b, RG g gs b s'.gens ∧ Q x p' (wg s' b)) (fun e p' s' => ∃ b, RG g gs b s'.gens ∧ E e p' (wg s' b)) p (wg a G) := by
  induction t with
  | pure x => exact fun Q E p a G r h => ⟨a.gens, r, h⟩
  | raise e => exact fun Q E p a G r h => ⟨a.gens, r, h⟩
  | unsupported _ => exact fun _ _ _ _ _ _ h => h
  | finish _ => exact fun _ _ _ _ _ _ h => h
  | rule _ k ih => exact fun Q E p a G r h => ih () Q E p a G r h
  | «at» p' k ih => exact fun Q E p a G r h => ih () Q E p' a G r h
  | load b _ k ih => exact fun Q E p a G r h => let ⟨o, ho, h⟩ := h; ⟨o, ho, ih o Q E p a G r h⟩
  | update b _ f k ih => exact fun Q E p a G r h => ⟨h.1, ih () Q E p { a with heap := a.heap.update b f } G r h.2⟩
  | loadIfAlive b k ih => exact fun Q E p a G r h => ih _ Q E p a G r h
  | point _ k ih => exact fun Q E p a G r h => ih () Q E p a G r h
  | register _ _ => exact fun _ _ _ _ _ _ h => h
  | alloc o k ih => exact fun Q E p a G r h => ih a.heap.objs.size Q E p { a with heap := a.heap.push o } G r h
  | fresh k ih => exact fun Q E p a G r h => ih a.toks Q E p { a with toks := a.toks + 1 } G r h
  | ask k ih => exact fun Q E p a G r h => ih _ Q E p a G r h
  | choose src m k ih => exact fun Q E p a G r h => ⟨h.1, ih (M.w.draws src (a.drawn.get src) % m) Q E p { a with drawn := a.drawn.bump src } G r h.2⟩
  | os q _ k ih => exact fun Q E p a G r h => ih (Os.step a.os q).2 Q E p { a with os := (Os.step a.os q).1 } G r h
  | call c hd _ _ k ih =>
    intro Q E p a G r h
    obtain ⟨res, s', hr, h⟩ := h
    obtain ⟨G', r', hr'⟩ := returns_frame hr r
    exact ⟨res, _, hr', ih res Q E p s' G' r' h⟩
  | handled own k ih => exact fun Q E p a G r h => ih _ Q E p a G r h
  | genState g' k ih =>
    intro Q E p a G r h
    obtain ⟨st, hs, h⟩ := h
    obtain ⟨y, hy, py⟩ := r.back hs
    refine ⟨y, hy, ?_⟩
    rw [← py.seen]
    exact ih _ Q E p a G r h
  | newGen c k ih =>
    intro Q E p a G r h
    have z := ih _ Q E p { a with gens := a.gens.push (.fresh c) } (G.push (.fresh c)) (r.push c) h
    rw [r.size] at z
    exact z
  | resume g' rs _ k ih =>
    intro Q E p a G r h
    obtain ⟨res, s', hw, h⟩ := h
    obtain ⟨G', r', hw'⟩ := wakes_frame hw r
    exact ⟨res, _, hw', ih res Q E p s' G' r' h⟩
  | yield _ _ _ _ => exact fun _ _ _ _ _ _ h => h
  | stack k ih => exact fun Q E p a G r h => ih _ Q E p a G r h
  | fork _ _ => exact fun _ _ _ _ _ _ h => h
  | thread k ih => exact fun Q E p a G r h => ih _ Q E p a G r h
  | await _ _ _ _ _ => exact fun _ _ _ _ _ _ h => h
/-- told of the state in which g is dead, it holds of the state in which g sleeps -/
theorem wpAny_frame {α : Type} {A : Around} {t : Sem α} {Q : α → Shared → Prop} {E : Value → Shared → Prop} {s : Shared} {b : Array GenState} (r : RG g gs b s.gens) (h : wpAny M A t Q E (wg s b)) :
    wpAny M A t (fun x s' => ∃ b, RG g gs b s'.gens ∧ Q x (wg s' b)) (fun e s' => ∃ b, RG g gs b s'.gens ∧ E e (wg s' b)) s := fun Γ p hΓ =>
  wp_frame Γ t _ _ p (wg s b) s.gens r (h Γ p hΓ)
end
end Mp
set_option maxHeartbeats 4000000
/-! One segment of a generator def's body: `for t in iter: if test: yield elt`. -/
namespace Mp
open PySem PySem.Spec PyProof.Rows L2 GenW
open PySem.W.X (SegX)

section
variable {M : Model} {A : Around} {c : Code} {fs : List Frame} {P : End → Shared → Prop} {s : Shared}
theorem sx_wrap {α : Type} {m : Sem α} {K : α → Sem PySem.Fin} {J : Value → Sem PySem.Fin} {gd lv}
    (h : wpAny M (A.over c fs) m (fun a s' => SegX M A c (K a) fs s' P) (fun x s' => SegX M A c (J x) fs s' P) s) : SegX M A c (m.wrap K J gd lv) fs s P := by
  rintro Γ p rfl hΓ
  obtain ⟨e, s', hr, hq⟩ := runs_wrap_of_wp (Φ := fun e s' => e.quiet = true ∧ P e s') K J gd lv m (h (Γ.over fs) p (hΓ.over fs)) (fun a p' s' h' => h' Γ p' rfl hΓ) (fun x p' s' h' => h' Γ p' rfl hΓ)
  exact ⟨e, s', hr, hq⟩
theorem sx_bind_wrap {α β : Type} {m : Sem α} {K : α → Sem β} {K' : β → Sem PySem.Fin} {J : Value → Sem PySem.Fin} {gd lv}
    (h : wpAny M (A.over c fs) m (fun a s' => SegX M A c ((K a).wrap K' J gd lv) fs s' P) (fun x s' => SegX M A c (J x) fs s' P) s) : SegX M A c ((m >>= K).wrap K' J gd lv) fs s P := by
  rw [Sem.bind_eq_wrap', Sem.wrap_wrap]; exact sx_wrap h
theorem sx_bind {α : Type} {m : Sem α} {K : α → Sem PySem.Fin}
    (h : wpAny M (A.over c fs) m (fun a s' => SegX M A c (K a) fs s' P) (fun x s' => SegX M A c (.raise x) fs s' P) s) : SegX M A c (m >>= K) fs s P := by
  rw [Sem.bind_eq_wrap']; exact sx_wrap h
theorem sx_at {p' : Pos} {k : Unit → Sem PySem.Fin} (h : SegX M A c (k ()) fs s P) : SegX M A c (.at p' k) fs s P :=
  sx_wrap (m := standAt p') (K := k) (J := .raise) (gd := id) (lv := id) (wpAny_standAt h)
theorem sx_point {l : List Value} {k : Unit → Sem PySem.Fin} (h : SegX M A c (k ()) fs s P) : SegX M A c (.point l k) fs s P :=
  sx_wrap (m := point) (K := k) (J := .raise) (gd := id) (lv := fun _ => l) (wpAny_point h)
theorem sx_call {c' : Code} {hd g l} {k : Result → Sem PySem.Fin} (x : ∀ p, SegX M A c' (M.den c') (.ret k hd g l c p [] :: fs) s P) : SegX M A c (.call c' hd g l k) fs s P := by
  rintro Γ p rfl hΓ
  obtain ⟨e, s', hr, hq⟩ := x p (Γ.goto c') p rfl (hΓ.goto c')
  exact ⟨e, s', runs_call_seg hr, hq⟩
theorem sx_leaf {k hd g l c₁ p₁ kp} (r : Result) (x : SegX M A c₁ (k r) fs s P) : SegX M A c (leafOf r) (.ret k hd g l c₁ p₁ kp :: fs) s P := by
  rintro Γ p rfl hΓ
  obtain ⟨e, s', hr, hq⟩ := x (Γ.goto c₁) p₁ rfl (hΓ.goto c₁)
  exact ⟨e, s', Runs.pop r hr, hq⟩
theorem sx_again {c' : Code} (hq : c'.quiet = true) (x : SegX M A c' (M.den c') fs s P) : SegX M A c (.pure (.again c')) fs s P := by
  rintro Γ p rfl hΓ
  obtain ⟨e, s', hr, hq'⟩ := x (Γ.goto c') p rfl (hΓ.goto c')
  exact ⟨e, s', Runs.head (c₁ := c') (fun _ _ y => .again hq y) hr, hq'⟩
theorem sx_end (r : Result) (x : P (.ret r) s) : SegX M A c (leafOf r) [] s P := by
  rintro Γ p rfl _
  exact ⟨.ret r, s, Runs.leaf r, rfl, x⟩
theorem sx_yield {v l} {k : Resume → Sem PySem.Fin} {g : Bool} (hg : g = false) (hfs : splitAtGen fs = none) (hfg : fs.any Frame.guarded = false) (x : ∀ p, P (.susp v g l k c p fs) s) : SegX M A c (.yield v g l k) fs s P := by
  rintro Γ p rfl _
  exact ⟨_, s, Runs.yield' fs hfs, by simp [End.quiet, hfg, hg], x p⟩

/-- the consumer's next: what a segment's end is to give -/
def nxP (g : Nat) (Q : Option Value → Shared → Prop) : End → Shared → Prop
  | .ret r, s₁ => r = .ok (.ret .none) ∧ ∀ h', (∀ b o, s₁.heap.get? b = some o → h'.get? b = some o) → Q none { s₁.setGen g .finished with heap := h' }
  | .susp v gd l k c p fs, s₁ => Q (some v) (s₁.setGen g (.suspended k l c p fs (gd || fs.any Frame.guarded)))
/-- the consumer's next, by one segment -/
theorem nextX {P₀ : Program} {w : World} {A : Around} {E : Value → Shared → Prop} {s : Shared} {a : Addr} {g : Nat} {gs : GenState} {Q : Option Value → Shared → Prop} {c₀ : Code} {t₀ : Sem PySem.Fin} {fs₀ : List Frame} (hh : A.handled = none) (hl : s.heap.NoLimit) (hroom : A.depth < recursionLimit) (hg : s.heap.IsGen a g) (hgs : s.gens[g]? = some gs)
    (hgo : (gs = .fresh c₀ ∧ t₀ = denote table c₀ ∧ fs₀ = []) ∨ (∃ k₀ l₀ p₀ cl, gs = .suspended k₀ l₀ c₀ p₀ fs₀ cl ∧ t₀ = k₀ (.send .none)))
    (x : SegX (model P₀ w) A.in1 c₀ t₀ fs₀ (s.setGen g .running) (nxP g Q)) :
    wpAny (model P₀ w) A (pyNext (.ref a)) Q E s := by
  unfold pyNext
  refine wpAny_bind (wpAny_attempt (wpAny_callSpecial?_slot (name := Str.ofString "__next__") hg.typeIs slot_gen_next
    (wpAny_call_entry slot_gen_next hg.typeIs entry_gen_next ?_ (args_gen_next _))))
  show wpAny _ A.in1 (Builtin.Generator.genWake (.ref a) (.send .none)) _ _ s
  unfold Builtin.Generator.genWake
  refine wpAny_bind (wpAny_holding (wpAny_genNumber hg (wpAny_bind (wpAny_genState hgs ?_))))
  have core : ∀ {α : Type} (l : List Value) (QQ : α → Shared → Prop) (EE : Value → Shared → Prop) (kk : GenResult → Sem α), (∀ (ed : End) (s₁ : Shared), nxP g Q ed s₁ → wpAny (model P₀ w) A.in1 (kk ed.result) QQ EE (s₁.setGen g ed.genState)) →
      wpAny (model P₀ w) A.in1 (.resume g (.send .none) l kk) QQ EE s := fun {α} l QQ EE kk h => by
    have hgs' : (gs = .fresh c₀ ∧ (Resume.send .none) = .send .none ∧ t₀ = denote table c₀ ∧ fs₀ = []) ∨ (∃ k₀ l₀ p₀ cl, gs = .suspended k₀ l₀ c₀ p₀ fs₀ cl ∧ t₀ = k₀ (.send .none)) := by
      rcases hgo with ⟨h1, h2, h3⟩ | h
      · exact .inl ⟨h1, rfl, h2, h3⟩
      · exact .inr h
    exact PySem.W.X.wake_any _ P₀ w hgs hgs' (fun Γ => Γ.In A.in1) (fun _ h => h) (x.mono fun ed s₁ z Γ p hΓ => h ed s₁ z Γ p hΓ)
  rcases hgo with ⟨rfl, _, _⟩ | ⟨k₀, l₀, p₀, cl, rfl, _⟩
  all_goals
    refine wpAny_bind (wpAny_roomToWake hl hroom ?_)
    show wpAny _ A.in1 (.resume g (.send .none) [] _) _ _ s
    refine core _ _ _ _ fun ed s₁ hx => ?_
    cases ed with
    | ret r =>
      obtain ⟨rfl, hp⟩ := hx
      show wpAny _ A.in1 (newExc (.type "StopIteration") [] >>= _) _ _ _
      refine wpAny_bind ?_
      simp only [newExc, newTuple]
      refine wpAny_bind (wpAny_newObj_type ?_ (by size_fits))
      refine wpAny_bind (m := firstArgMember _ _) (wpAny_of_eq (a := Value.none) (by first | rfl | (simp only [firstArgMember]; rfl)) ?_)
      refine wpAny_newObj_type ?_ (by size_fits)
      simp only [raiseNew]
      refine wpAny_bind (wpAny_bind (wpAny_handled ?_))
      first | rw [show A.in1.handled = none from hh] | rw [hh]
      refine wpAny_throw ?_
      refine wpAny_bind (wpAny_isInstance (T := "StopIteration") (b := true) ⟨_, Heap.get?_push_size _ rfl, rfl⟩ isSubtype_stop ?_)
      exact wpAny_pure (hp _ fun b o hb => Heap.get?_push_of_some _ (Heap.get?_push_of_some _ hb))
    | susp v gd l k c p fs => exact wpAny_pure ⟨v, rfl, wpAny_pure hx⟩
end
end Mp
set_option maxHeartbeats 4000000
/-! A generator def's body `for t in iter: if test: yield elt`, segment by segment. -/
namespace Mp
open PySem PySem.Spec PyProof.Rows L2 GenW
open PySem.W.X (SegX)

/-- the loop's frames: its end is the def's end -/
structure FrOk (M : Model) (A : Around) (fr : List Frame) : Prop where
  split : splitAtGen fr = none
  guard : fr.any Frame.guarded = false
  fin : ∀ (c : Code) (s : Shared) (P : End → Shared → Prop), P (.ret (.ok (.ret .none))) s → SegX M A c (leafOf (.ok .next)) fr s P
/-- waking it runs the loop -/
def KK (M : Model) (A : Around) (loop : Code) (fr : List Frame) (k : Resume → Sem PySem.Fin) (c : Code) (fs : List Frame) : Prop :=
  ∀ (s : Shared) (P : End → Shared → Prop), SegX M A loop (M.den loop) fr s P → SegX M A c (k (.send .none)) fs s P

/-- the generator's law: n turns, those with pz hand out; Φ of the heap, S of the names -/
structure GLaw (J : It) (g : TG) (tc : TT) (te : TE) (n : Nat) (pz : Nat → Bool) (S : L2.St → Prop) (Φ : Hp → Prop) (Yd : Nat → V → Hp → Prop) : Prop where
  go : ∀ i σ H, i < n → S σ → Φ H → J.go i H ∧ ∀ x H', J.yld i H x H' → g x σ H' fun σ2 H2 => tc σ2 H2 fun b H3 => b = pz i ∧
    if b = true then te σ2 H3 fun y H4 => Yd i y H4 ∧ S σ2 ∧ Φ H4 ∧ Evl.Ex H H4 else S σ2 ∧ Φ H3 ∧ Evl.Ex H H3
  stop : ∀ σ H, S σ → Φ H → J.stop n H

/-- a segment's end, begun at turn i -/
def GPost (Y : Cx) (A : Around) (loop : Code) (fr : List Frame) (fp : List Addr) (tn : Nat → Heap → Prop) (n : Nat) (pz : Nat → Bool) (S : L2.St → Prop) (Φ : Hp → Prop) (Yd : Nat → V → Hp → Prop) (pins : List (Addr × Obj)) (i : Nat) (H : Hp) : End → Shared → Prop
  | .ret r, s' => r = .ok (.ret .none) ∧ (∀ j, i ≤ j → j < n → pz j = false) ∧ ∃ σ' H', Inv Y pins σ' H' s' ∧ Evl.Ex H H'
  | .susp v gd l k c p fs, s' => KK (model Y.prog Y.w) A loop fr k c fs ∧ ∃ j y σ' H', i ≤ j ∧ j < n ∧ pz j = true ∧ (∀ j', i ≤ j' → j' < j → pz j' = false) ∧ Inv Y pins σ' H' s' ∧ RelV y v ∧ Evl.Ex H H' ∧ Yd j y H' ∧ S σ' ∧ Φ H' ∧ tn (j + 1) s'.heap ∧
    (∀ b ∈ fp, FpOk Y pins H' b)

theorem GPost.le {Y : Cx} {A : Around} {loop : Code} {fr : List Frame} {fp : List Addr} {tn : Nat → Heap → Prop} {n : Nat} {pz : Nat → Bool} {S : L2.St → Prop} {Φ : Hp → Prop} {Yd : Nat → V → Hp → Prop} {pins : List (Addr × Obj)} {i : Nat} {H H1 : Hp} {e : End} {s' : Shared}
    (hz : pz i = false) (hx : Evl.Ex H H1) (h : GPost Y A loop fr fp tn n pz S Φ Yd pins (i + 1) H1 e s') : GPost Y A loop fr fp tn n pz S Φ Yd pins i H e s' := by
  have up : ∀ {j' : Nat} {q : Prop}, i ≤ j' → (i + 1 ≤ j' → pz j' = false) → pz j' = false := fun {j' q} h1 h2 => by
    rcases Nat.eq_or_lt_of_le h1 with z | z
    · rw [← z]; exact hz
    · exact h2 z
  cases e with
  | ret r =>
    obtain ⟨h1, h2, σ', H', I, x⟩ := h
    exact ⟨h1, fun j a b => up (q := True) a fun z => h2 j z b, σ', H', I, hx.trans x⟩
  | susp v gd l k c p fs =>
    obtain ⟨h0, j, y, σ', H', h1, h2, h3, h4, I, r, x, q⟩ := h
    exact ⟨h0, j, y, σ', H', Nat.le_of_succ_le h1, h2, h3, fun j' a b => up (q := True) a fun z => h4 j' z b, I, r, hx.trans x, q⟩

section
variable {Y : Cx} {tg iter test elt : Expr} {yp epos ipos fpos : Pos} {A : Around} {fr : List Frame} {fp : List Addr} {it : Addr} {tn : Nat → Heap → Prop} {J : It} {g : TG} {tc : TT} {te : TE} {n : Nat} {pz : Nat → Bool} {S : L2.St → Prop} {Φ : Hp → Prop} {Yd : Nat → V → Hp → Prop}
theorem loop_seg (hx : Y.xe = fun _ _ => False) (hc : Y.calm = true) (T : Turn Y.prog Y.w Y.K tg J fp it tn) (hg : PG Y tg g) (ht : PT Y test tc) (he : PE Y elt te) (L : GLaw J g tc te n pz S Φ Yd)
    (hco : Y.env.scope.isCoroutine = false) (hi : interactive Y.env = false)
    (hA : A.over (.forLoop tg (.ref it) [.If test [.Expr (.Yield (some elt) yp) epos] [] ipos] [] Y.env) fr = Y.A) (F : FrOk (model Y.prog Y.w) A fr) :
    ∀ (k i : Nat) (pins : List (Addr × Obj)) (s : Shared) (σ : L2.St) (H : Hp), n - i = k → i ≤ n → Inv Y pins σ H s → (∀ b ∈ fp, FpOk Y pins H b) → tn i s.heap → S σ → Φ H →
      SegX (model Y.prog Y.w) A (.forLoop tg (.ref it) [.If test [.Expr (.Yield (some elt) yp) epos] [] ipos] [] Y.env)
        ((model Y.prog Y.w).den (.forLoop tg (.ref it) [.If test [.Expr (.Yield (some elt) yp) epos] [] ipos] [] Y.env)) fr s
        (GPost Y A (.forLoop tg (.ref it) [.If test [.Expr (.Yield (some elt) yp) epos] [] ipos] [] Y.env) fr fp tn n pz S Φ Yd pins i H) := by
  intro k
  induction k with
  | zero =>
    intro i pins s σ H hk hin I hf st hS hΦ
    have e : i = n := by omega
    subst e
    show SegX _ A _ ((forTurn tg (.ref it) [.If test [.Expr (.Yield (some elt) yp) epos] [] ipos] [] Y.env).onRaise (fun x => do noteFrame x Y.env; theTreesLotGoes x)) fr s _
    rw [Sem.onRaise_eq_wrap]
    simp only [forTurn]
    refine sx_bind_wrap (wpAny_standAt ?_)
    refine sx_bind_wrap (wpAny_onRaise ?_)
    rw [hA]
    refine thnF (T.done Y rfl rfl rfl hc i pins s σ H (fun _ _ => False) I hf st (L.stop σ H hS hΦ)) fun r s1 ⟨hr, I1⟩ => ?_
    subst hr
    refine sx_again rfl ?_
    show SegX _ A (.block [] Y.env) ((do return Fin.done (← (execs [] Y.env).onRaise (fun x => do noteFrame x Y.env; theTreesLotGoes x)))) fr s1 _
    refine sx_bind (wpAny_onRaise (wpAny_execs_nil ?_))
    exact F.fin _ _ _ ⟨rfl, fun j a b => absurd b (by omega), σ, H, I1, Evl.Ex.refl H⟩
  | succ k ih =>
    intro i pins s σ H hk hin I hf st hS hΦ
    have hlt : i < n := by omega
    obtain ⟨go, step⟩ := L.go i σ H hlt hS hΦ
    show SegX _ A _ ((forTurn tg (.ref it) [.If test [.Expr (.Yield (some elt) yp) epos] [] ipos] [] Y.env).onRaise (fun x => do noteFrame x Y.env; theTreesLotGoes x)) fr s _
    rw [Sem.onRaise_eq_wrap]
    simp only [forTurn]
    refine sx_bind_wrap (wpAny_standAt ?_)
    refine sx_bind_wrap (wpAny_onRaise ?_)
    rw [hA]
    refine thnF (T.item Y rfl rfl rfl hc i pins s σ H (fun _ _ => False) I hf st go) fun r s1 ⟨u, hr, h1⟩ => ?_
    subst hr
    refine sx_bind_wrap ?_
    rw [hA]
    refine thnF h1 fun _ s2 ⟨x, H2, I2, r2, y2, st2, fr2⟩ => ?_
    have I2' := I2.pinned (fun b hb => ⟨fr2 b hb, (hf b hb).2⟩) (T.obj _ _ st2)
    refine sx_bind_wrap ?_
    rw [hA]
    have z3 := hg.run _ s2 σ H2 x u _ I2' r2 (step x H2 y2)
    rw [hx] at z3
    refine thnF z3 fun _ s3 ⟨σ3, H3, I3, q3⟩ => ?_
    -- the body
    rw [Sem.bind_eq_wrap', Sem.wrap_wrap, execs_cons_wrap, exec_If]
    refine sx_bind_wrap (wpAny_standAt ?_)
    refine sx_bind_wrap ?_
    rw [hA]
    have z4 := ht.run _ s3 σ3 H3 _ I3 q3
    rw [hx] at z4
    refine thnF z4 fun b s4 ⟨H4, I4, hb, q4⟩ => ?_
    have fpk : ∀ {σ' : L2.St} {H' : Hp} {s' : Shared}, Inv Y (pins ++ pinsAt fp s2.heap) σ' H' s' → (∀ b ∈ fp, FpOk Y pins H' b) ∧ tn (i + 1) s'.heap := fun {σ' H' s'} I' => by
      refine ⟨fun b hb => ?_, T.keep _ _ _ st2 fun b hb o e => (I'.pin (b, o) (List.mem_append_right _ (List.mem_append_right _ (mem_pinsAt hb e)))).1⟩
      obtain ⟨o, e, _⟩ := T.obj _ _ st2 b hb
      exact ⟨(I'.pin (b, o) (List.mem_append_right _ (List.mem_append_right _ (mem_pinsAt hb e)))).2.1, (hf b hb).2⟩
    cases b with
    | false =>
      simp only [Bool.false_eq_true, if_false] at q4 ⊢
      obtain ⟨hS4, hΦ4, x4⟩ := q4
      obtain ⟨f4, t4⟩ := fpk I4
      refine sx_again rfl ?_
      have z := ih (i + 1) pins s4 σ3 H4 (by omega) hlt I4.unpinned f4 t4 hS4 hΦ4
      exact z.mono fun e s' q => q.le hb.symm x4
    | true =>
      simp only [if_true] at q4 ⊢
      rw [execs_cons_wrap, exec_Expr Y.env _ epos hi rfl]
      refine sx_bind_wrap (wpAny_standAt ?_)
      have hy : ∀ v, yieldOut Y.env v = yieldValue v := fun v => by simp only [yieldOut, hco, Bool.false_eq_true, if_false]
      show SegX _ A _ (((eval elt Y.env >>= fun v => (standAt yp >>= fun _ => yieldOut Y.env v)) >>= fun x => dropValue (.Yield (some elt) yp) epos x).wrap _ _ _ _) fr s4 _
      simp only [hy]
      rw [Sem.bind_eq_wrap', Sem.bind_eq_wrap', Sem.wrap_wrap, Sem.wrap_wrap]
      refine sx_wrap ?_
      rw [hA]
      have z5 := he.run _ s4 σ3 H4 _ I4 q4
      rw [hx] at z5
      refine thnF z5 fun v s5 ⟨y, H5, I5, r5, hY, hS5, hΦ5, x5⟩ => ?_
      obtain ⟨f5, t5⟩ := fpk I5
      refine sx_at (sx_yield rfl F.split F.guard fun p => ?_)
      refine ⟨fun s6 P6 h6 => ?_, i, y, σ3, H5, Nat.le_refl _, hlt, hb.symm, fun j' a b => absurd a (by omega), I5.unpinned, r5, x5, hY, hS5, hΦ5, t5, f5⟩
      exact sx_again rfl h6
/-- the def's code, from its start -/
theorem func_seg {wi : TI} {H : Hp} {pins : List (Addr × Obj)} {s : Shared} {σ : L2.St} {A : Around} (hx : Y.xe = fun _ _ => False) (hc : Y.calm = true) (hi0 : PI Y tg iter wi) (hg : PG Y tg g) (ht : PT Y test tc) (he : PE Y elt te) (L : GLaw J g tc te n pz S Φ Yd)
    (hco : Y.env.scope.isCoroutine = false) (hi : interactive Y.env = false) (hA : A.deeper Y.env = Y.A) (hs : ∀ x, foldedSetIterable iter Y.env x = pure x)
    (I : Inv Y pins σ H s) (hS : S σ) (hΦ : Φ H) (hw : wi σ H fun J' H1 => J' = J ∧ Evl.Ex H H1 ∧ Φ H1) :
    SegX (model Y.prog Y.w) A (.func [.For tg iter [.If test [.Expr (.Yield (some elt) yp) epos] [] ipos] [] fpos] Y.env) (denote table (.func [.For tg iter [.If test [.Expr (.Yield (some elt) yp) epos] [] ipos] [] fpos] Y.env)) [] s
      (fun e s' => ∃ it fr fp tn, A.over (.forLoop tg (.ref it) [.If test [.Expr (.Yield (some elt) yp) epos] [] ipos] [] Y.env) fr = Y.A ∧ FrOk (model Y.prog Y.w) A fr ∧ Turn Y.prog Y.w Y.K tg J fp it tn ∧
        GPost Y A (.forLoop tg (.ref it) [.If test [.Expr (.Yield (some elt) yp) epos] [] ipos] [] Y.env) fr fp tn n pz S Φ Yd pins 0 H e s') := by
  show SegX _ A _ (.point [] fun _ => ((execs [.For tg iter [.If test [.Expr (.Yield (some elt) yp) epos] [] ipos] [] fpos] Y.env).onRaise (leaving Y.env)) >>= _) [] s _
  refine sx_point ?_
  rw [Sem.onRaise_eq_wrap, Sem.bind_eq_wrap', Sem.wrap_wrap, execs_cons_wrap, exec_For]
  have oA : A.over (.func [.For tg iter [.If test [.Expr (.Yield (some elt) yp) epos] [] ipos] [] fpos] Y.env) [] = Y.A := over_func.trans hA
  refine sx_bind_wrap (wpAny_standAt ?_)
  refine sx_bind_wrap ?_
  rw [oA]
  have z := hi0.run pins s σ H _ I hw
  rw [hx] at z
  refine thnF z fun v s1 z1 => ?_
  refine sx_bind_wrap (wpAny_of_eq (hs v) ?_)
  refine sx_bind_wrap (wpAny_standAt ?_)
  refine sx_bind_wrap (wpAny_holding ?_)
  rw [oA]
  refine thnF z1 fun itv s2 ⟨it, fp, tn, J', H2, e, I2, T, st2, f2, eJ, x2, hΦ2⟩ => ?_
  subst e
  subst eJ
  refine sx_call fun p => ?_
  suffices key : ∀ (kk : Result → Sem PySem.Fin), kk (.ok .next) = leafOf (.ok (.ret .none)) →
      SegX (model Y.prog Y.w) A (.forLoop tg (.ref it) [.If test [.Expr (.Yield (some elt) yp) epos] [] ipos] [] Y.env) ((model Y.prog Y.w).den (.forLoop tg (.ref it) [.If test [.Expr (.Yield (some elt) yp) epos] [] ipos] [] Y.env))
        [.ret kk none false [] (.func [.For tg iter [.If test [.Expr (.Yield (some elt) yp) epos] [] ipos] [] fpos] Y.env) p []] s2
        (fun e s' => ∃ it fr fp tn, A.over (.forLoop tg (.ref it) [.If test [.Expr (.Yield (some elt) yp) epos] [] ipos] [] Y.env) fr = Y.A ∧ FrOk (model Y.prog Y.w) A fr ∧ Turn Y.prog Y.w Y.K tg J' fp it tn ∧
          GPost Y A (.forLoop tg (.ref it) [.If test [.Expr (.Yield (some elt) yp) epos] [] ipos] [] Y.env) fr fp tn n pz S Φ Yd pins 0 H e s') from key _ rfl
  intro kk hk
  have fin : ∀ (c : Code) (s : Shared) (P : End → Shared → Prop), P (.ret (.ok (.ret .none))) s →
      SegX (model Y.prog Y.w) A c (leafOf (.ok .next)) [.ret kk none false [] (.func [.For tg iter [.If test [.Expr (.Yield (some elt) yp) epos] [] ipos] [] fpos] Y.env) p []] s P := fun c s P h => by
    refine sx_leaf (.ok .next) ?_
    rw [hk]
    exact sx_end _ h
  have lp := loop_seg (yp := yp) (epos := epos) (ipos := ipos) (it := it) (fp := fp) (tn := tn) hx hc T hg ht he L hco hi (A := A) (fr := [.ret kk none false [] (.func [.For tg iter [.If test [.Expr (.Yield (some elt) yp) epos] [] ipos] [] fpos] Y.env) p []])
    ((over_loop rfl rfl).trans oA) ⟨rfl, rfl, fin⟩ n 0 pins s2 σ H2 (by omega) (Nat.zero_le _) I2 f2 st2 hS hΦ2
  refine lp.mono fun e s' q => ⟨it, _, fp, tn, (over_loop rfl rfl).trans oA, ⟨rfl, rfl, fin⟩, T, ?_⟩
  cases e with
  | ret r =>
    obtain ⟨h1, h2, σ', H', I', x⟩ := q
    exact ⟨h1, h2, σ', H', I', x2.trans x⟩
  | susp v gd l k c p fs =>
    obtain ⟨h0, j, y, σ', H', h1, h2, h3, h4, I', r, x, q⟩ := q
    exact ⟨h0, j, y, σ', H', h1, h2, h3, h4, I', r, x2.trans x, q⟩
end
end Mp
set_option maxHeartbeats 4000000
/-! A generator def called; its state seen from the def that walks it. -/
namespace Mp
open PySem PySem.Spec PyProof.Rows L2 GenW
open PySem.W.X (SegX)

/-- the context of the generator's body; the generator's own object is pinned -/
def gyOf (P : Program) (w : World) (K : PySem.W.Frag) (mg : Str → Option Value) (base : Heap) (N : List Str) (qual : Str) (scope : Scope) (f : Addr) (cd : Value) (A : Around) (outer : List Env) (s : Shared) (H : Hp) (p : Addr × Obj) : Cx :=
  { gcxOf P w K mg base N qual scope f cd A outer s H E0 [p] with xe := fun _ _ => False }

/-- a generator that has not begun -/
structure GNew (P : Program) (w : World) (K : PySem.W.Frag) (mg : Str → Option Value) (base : Heap) (N : List Str) (qual : Str) (scope : Scope) (f : Addr) (cd : Value) (body : List Stmt) (outer : List Env) (s : Shared) (H : Hp) (vs : List V) (a : Addr) (g : Nat) (go : Obj) (s' : Shared) : Prop where
  young : s.heap.objs.size < a
  isgen : ∀ h : Heap, h.get? a = some go → h.IsGen a g
  nocell : ∀ v, go.data ≠ .cell v
  cls : go.cls = .type "generator"
  get : s'.heap.get? a = some go
  gen : s'.gens[g]? = some (.fresh (.func body (envOfC qual scope s.heap.objs.size f cd)))
  os : s'.os = s.os
  bare : AllBare s'.gens
  keep : ∀ b o, s.heap.get? b = some o → s'.heap.get? b = some o
  inv : ∀ A, A.handled = none → A.frames = some outer → Inv (gyOf P w K mg base N qual scope f cd A outer s H (a, go)) [] (start N vs) H s'

theorem gen_call {P : Program} {w : World} {K : PySem.W.Frag} {mg : Str → Option Value} {base : Heap} {k : Nat} {f : Addr} {name qual : Str} {params : Arguments} {body : List Stmt} {scope : Scope} {dV kV doc pm cdv ct oc : Value} {an od : Option Addr}
    {osl : Array (Option Value)} {N ps : List Str} (lk : K.lookup f = some ⟨oc, od, .func (PySem.W.fnOf name qual params body scope dV kV doc pm an cdv ct), osl⟩) (hcd : PySem.W.codeIn K cdv qual = true) (S : GScope N ps scope)
    {A : Around} {outer : List Env} {s : Shared} {H : Hp} {args : Args} {us : List Value} {vs : List V} (hr : Room k A) (e0 : Env0 P w K mg base A outer s H) (hb : bindArgs (PySem.W.fnOf name qual params body scope dV kV doc pm an cdv ct) args = pure (ps.zip us)) (r : Vals vs us) (hl : vs.length = ps.length) :
    codeAny (model P w) A (.call (.ref f) args) (fun r s' => match r with | .ok (.ret u) => ∃ a g go, u = .ref a ∧ GNew P w K mg base N qual scope f cdv body outer s H vs a g go s' | _ => False) s := by
  have KX : K.In s.heap := e0.mod.kin.keeps fun b o e => (e0.bs b o e).1
  have lim : s.heap.NoLimit := e0.mod.nolimit.keeps fun b o e => (e0.bs b o e).1
  have hkind : ∀ y ∈ ps.zip us, scope.names.lookup y.1 = some .local ∨ (scope.names.lookup y.1 = some .cell ∧ ((cellsFrom (s.heap.objs.size + 1) scope.names []).lookup y.1).isSome = true) := fun ⟨n, v⟩ hy => by
    rcases S.par n (List.of_mem_zip hy).1 with q | q
    · exact .inl q
    · exact .inr ⟨q, PySem.W.cellsFrom_some _ _ _ (.inl q)⟩
  refine codeAny_call_generator hr.depth (KX _ _ lk) rfl S.co S.gen rfl (PySem.W.codeRec_of KX hcd) (BindsTo.of_eq hb _ _ _ _ ?_)
  refine wpAny_newFunctionEnv_cells S.kind hkind fun env he s1 x => ?_
  subst he
  have lim1 : s1.heap.NoLimit := lim.keeps x.toInCall.keep
  refine ⟨lim1, ?_⟩
  obtain ⟨h1, tk, es1, hk1⟩ := x.done
  have os1 : s1.os = s.os := by rw [es1]
  have gen1 : s1.gens = s.gens := by rw [es1]
  have lt1 : s.heap.objs.size < s1.heap.objs.size := x.toInCall.ns.lt
  have sz1 : s.heap.objs.size ≤ s1.heap.objs.size := Nat.le_of_lt lt1
  have kp1 : ∀ b o, s.heap.get? b = some o → s1.heap.get? b = some o := x.toInCall.keep
  have main : ∀ (go : Obj) (nm qn : Value) (tk2 : Nat), go.cls = .type "generator" → go.data = .fields #[.int s1.gens.size 0, nm, qn] → go.slots = #[] → (∀ h : Heap, (h.push go).get? h.objs.size = some go) →
      GNew P w K mg base N qual scope f cdv body outer s H vs s1.heap.objs.size s1.gens.size go { s1 with gens := s1.gens.push (.fresh (.func body (envOfC qual scope s.heap.objs.size f cdv))), toks := tk2, heap := s1.heap.push go } := by
    intro go nm qn tk2 hgc hgd0 hgs hgp
    have hgd : ∀ v, go.data ≠ .cell v := fun v q => by rw [hgd0] at q; cases q
    have hbare : AllBare (s1.gens.push (.fresh (.func body (envOfC qual scope s.heap.objs.size f cdv)))) := AllBare.push (by rw [gen1]; exact e0.bare) rfl
    have kp2 : ∀ b o, s1.heap.get? b = some o → (s1.heap.push go).get? b = some o := fun b o e => Heap.get?_push_of_some _ e
    refine ⟨lt1, fun h e => ⟨go, nm, qn, e, hgc, hgd0, hgs⟩, hgd, hgc, hgp _, Array.getElem?_push_size .., os1, hbare, fun b o e => kp2 b o (kp1 b o e), fun Aw hhd hfr => ?_⟩
    have e0w : Env0 P w K mg base Aw outer s H := ⟨hfr, e0.mod, e0.bs, e0.bsz, e0.funs, e0.frf, e0.hok, e0.bare⟩
    have I1 : Inv (gcxOf P w K mg base N qual scope f cdv Aw outer s H E0 []) [] (start N vs) H s1 := inv_startG S hhd e0w hl r x
    have I2 : Inv (gcxOf P w K mg base N qual scope f cdv Aw outer s H E0 []) [] (start N vs) H { s1 with gens := s1.gens.push (.fresh (.func body (envOfC qual scope s.heap.objs.size f cdv))), toks := tk2, heap := s1.heap.push go } :=
      I1.call' (ch := []) rfl (Un.kept kp2) (I1.hok.kept kp2) hbare fun b z => by simp at z
    have young : H s1.heap.objs.size = none ∧ s1.heap.objs.size ≠ s.heap.objs.size ∧ s1.heap.objs.size ∉ frs outer := ⟨I1.hok.fresh (Nat.le_refl _), Nat.ne_of_gt lt1, I1.nofs (Nat.le_refl _)⟩
    have I3 := Inv.pinnedG (pn := [(s1.heap.objs.size, go)]) (pins := []) I2 fun p hp => by
      have e : p = (s1.heap.objs.size, go) := by simpa using hp
      subst e
      exact ⟨hgp _, young.1, young.2.1, young.2.2, hgd⟩
    exact ⟨⟨I3.ok.mod, I3.ok.kind, I3.ok.glob, I3.ok.blt, I3.ok.above, I3.ok.inj, I3.ok.has, I3.ok.cab, I3.ok.hd, I3.ok.frames, I3.ok.stk, I3.ok.exf, I3.ok.bs, I3.ok.bsz, I3.ok.noex, I3.ok.exfs, I3.ok.funs, I3.ok.frf⟩,
      I3.os, I3.bare, I3.base, I3.loc, I3.cell, I3.free, I3.freeC, I3.pin, I3.hok, I3.len⟩
  exact ⟨_, _, _, rfl, main _ _ _ _ rfl rfl rfl fun h => Heap.get?_push_size _ rfl⟩

/-! ### the block over it -/
/-- the block seen from the state ahead of the generator's call -/
theorem blk_back {X : Cx} {scope : Scope} {ce : Env} {pins : List (Addr × Obj)} {σ τ : L2.St} {H H3 H' : Hp} {s s3 s' : Shared} (I : Inv X pins τ H s) (kp : ∀ b o, s.heap.get? b = some o → s3.heap.get? b = some o) (hos : s3.os = s.os)
    (hH : ∀ b, b < s.heap.objs.size → H3 b = H b) (ht : ∀ b o, H b = some o → b < s.heap.objs.size) (hsz : s.heap.objs.size ≤ s3.heap.objs.size) (hcl : ce.cells = []) (J : Inv (X.blk s3 H3 scope ce []) [] σ H' s') :
    Inv (X.blk s H scope ce []) [] σ H' s' := by
  have e3 : ∀ b o, s.heap.get? b = some o → H b = none → H3 b = none := fun b o e n => by rw [hH b (Heap.lt_size e)]; exact n
  have ok : (X.blk s H scope ce []).Ok :=
    ⟨J.ok.mod, J.ok.kind, J.ok.glob, J.ok.blt, Nat.le_trans hsz J.ok.above, J.ok.inj, J.ok.has, fun x c z e => absurd (show ce.cells.lookup x = some c from e) (by rw [hcl]; simp), J.ok.hd, J.ok.frames, J.ok.stk, fun b hb => absurd (show b ∈ ([] : List Addr) from hb) (by simp), I.bs, Nat.le_trans I.ok.bsz I.sz, fun b o e hb => absurd (show b ∈ ([] : List Addr) from hb) (by simp),
      fun b hb => absurd (show b ∈ ([] : List Addr) from hb) (by simp), I.stack, I.stkFree⟩
  refine ⟨ok, J.os.trans hos, J.bare, ⟨fun b o e n hf hx => J.base.keep b o (kp b o e) (e3 b o e n) hf hx, fun b o e n hf hx => J.base.slot b o (kp b o e) (e3 b o e n) hf hx, fun b o e n hx => J.base.free b o (kp b o e) (e3 b o e n) hx,
    fun b o e hx => J.base.there b o (kp b o e) hx, fun b xs e => J.base.tups b xs (by show H3 b = _; rw [hH b (ht b _ e)]; exact e), fun b o u e => J.base.frzs b o u (by show H3 b = _; rw [hH b (ht b _ e)]; exact e), fun b ps e => J.base.tbls b ps (by show H3 b = _; rw [hH b (ht b _ e)]; exact e)⟩,
    J.loc, J.cell, J.free, J.freeC, J.pin, J.hok, J.len⟩
end Mp
set_option maxHeartbeats 4000000
/-! A generator walked by a list comprehension: its sleeping state, one turn. -/
namespace Mp
open PySem PySem.Spec PyProof.Rows L2 GenW
open PySem.W.X (SegX)

theorem SegX.monoQ {M : Model} {A : Around} {c : Code} {t : Sem PySem.Fin} {fs : List Frame} {s : Shared} {P P' : End → Shared → Prop} (x : SegX M A c t fs s P) (h : ∀ e s', e.quiet = true → s.gens.size ≤ s'.gens.size → P e s' → P' e s') : SegX M A c t fs s P' := fun Γ p hc hΓ => by
  obtain ⟨e, s', hr, hq, hp⟩ := x Γ p hc hΓ
  exact ⟨e, s', hr, hq, h e s' hq (runs_gsz hr) hp⟩
/-- another array of generators -/
theorem Inv.gensTo {X : Cx} {pins : List (Addr × Obj)} {σ : L2.St} {H : Hp} {s s' : Shared} (I : Inv X pins σ H s) (hh : s'.heap = s.heap) (ho : s'.os = s.os) (hb : AllBare s'.gens) : Inv X pins σ H s' :=
  ⟨I.ok, ho.trans I.os, hb, by rw [hh]; exact I.base, by rw [hh]; exact I.loc, by rw [hh]; exact I.cell, I.free, I.freeC, by rw [hh]; exact I.pin, by rw [hh]; exact I.hok, I.len⟩

/-- the names of Y's frame as they stand -/
def Sees (Y : Cx) (h : Heap) (σ : L2.St) : Prop :=
  σ.length = Y.N.length ∧ ∃ m, h.Ns Y.env.locals m ∧ ∀ (i : Nat) (x : Str) (v : V), Y.N[i]? = some x → σ[i]? = some (some v) → Vis Y.env.scope x → ∃ u, RelV v u ∧ Look Y.env h m x u
theorem Sees.of {Y : Cx} {pins : List (Addr × Obj)} {σ : L2.St} {H : Hp} {s : Shared} (I : Inv Y pins σ H s) : Sees Y s.heap σ := ⟨I.len, I.loc⟩
theorem Sees.at {Y : Cx} {σ : L2.St} {h h' : Heap} (hc : Y.env.cells = []) (S : Sees Y h σ) (k : ∀ o, h.get? Y.env.locals = some o → h'.get? Y.env.locals = some o) : Sees Y h' σ := by
  obtain ⟨l, m, n, q⟩ := S
  refine ⟨l, m, n.at' k, fun i x v e1 e2 e3 => ?_⟩
  obtain ⟨u, r, z⟩ := q i x v e1 e2 e3
  refine ⟨u, r, ?_⟩
  rcases z with z | ⟨_, c, e, _⟩
  · exact .inl z
  · rw [hc] at e; cases e
theorem Sees.obj {Y : Cx} {σ : L2.St} {h : Heap} (S : Sees Y h σ) : ∃ o, h.get? Y.env.locals = some o ∧ ∀ v, o.data ≠ .cell v := by
  obtain ⟨_, m, ⟨o, es, ep, ho, r⟩, _⟩ := S
  refine ⟨o, ho, fun v e => ?_⟩
  have z := r
  revert z
  rintro ⟨h1, h2⟩
  first
    | (rw [e] at h1; cases h1)
    | (rw [e] at h2; cases h2)
    | (obtain ⟨h2, h3⟩ := h2; rw [e] at h2; cases h2)
    | (obtain ⟨h2, h3⟩ := h2; rw [e] at h3; cases h3)

/-- an object that neither the frames nor the two contexts touch -/
structure FOk (Y : Cx) (C : Addr) (H : Hp) (b : Addr) : Prop where
  un : H b = none
  nL : b ≠ Y.env.locals
  nC : b ≠ C
  na : ∀ p ∈ Y.pn, p.1 ≠ b
  fr : b ∉ Y.fs
  yg : Y.s_0.heap.objs.size ≤ b
/-- what two contexts share: the state and heap that they count from, the callers' frames -/
structure Twin (Y Z : Cx) : Prop where
  prog : Y.prog = Z.prog
  w : Y.w = Z.w
  s0 : Y.s_0 = Z.s_0
  h0 : Y.H_0 = Z.H_0
  outer : Y.outer = Z.outer
  yex : Y.ex = []
  zex : Z.ex = []
  ycl : Y.env.cells = []
  zcl : Z.env.cells = []
  zpn : Z.pn = []
  yok : Y.Ok
  zok : Z.Ok
  above : Y.env.locals ≠ Z.env.locals
section
variable {Y Z : Cx} {σ τ : L2.St} {H H' : Hp} {s s' s1 : Shared} {pins : List (Addr × Obj)}
theorem Twin.toY (t : Twin Y Z) (I : Inv Z [] τ H s) (hh : s'.heap = s.heap) (ho : s'.os = s.os) (hb : AllBare s'.gens) (S : Sees Y s.heap σ) (hL : H Y.env.locals = none) (hp : ∀ p ∈ Y.pn, s.heap.get? p.1 = some p.2 ∧ H p.1 = none ∧ p.1 ≠ Y.env.locals ∧ p.1 ∉ Y.fs ∧ ∀ v, p.2.data ≠ .cell v) :
    ∃ oC, s.heap.get? Z.env.locals = some oC ∧ Inv Y [(Z.env.locals, oC)] σ H s' := by
  obtain ⟨oC, hC, ncC⟩ := Sees.obj (Sees.of I)
  refine ⟨oC, hC, ⟨t.yok, ho.trans (by rw [t.s0]; exact I.os), hb, ?_, ?_, fun x c e => ?_, hL, fun x c e => ?_, fun p hp' => ?_, ?_, S.1⟩⟩
  · have z := I.base
    rw [t.zex, show Z.fs = Y.fs from by show frs Z.outer = frs Y.outer; rw [t.outer]] at z
    rw [t.yex, t.h0, t.s0, hh]
    exact z
  · rw [hh]; exact S.2
  · rw [t.ycl] at e; cases e
  · rw [t.ycl] at e; cases e
  · rw [hh]
    rcases List.mem_append.mp hp' with z | z
    · exact hp p z
    · have e : p = (Z.env.locals, oC) := by simpa using z
      subst e
      refine ⟨hC, I.free, fun e => t.above e.symm, ?_, ncC⟩
      show Z.env.locals ∉ frs Y.outer
      rw [t.outer]
      intro hm
      have := Nat.lt_of_lt_of_le (show Z.env.locals < _ from ?_) I.ok.above
      · exact Nat.lt_irrefl _ this
      · obtain ⟨_, o, e, _⟩ := I.ok.funs.mem hm
        exact Heap.lt_size e
  · rw [t.prog, t.w, hh]; exact I.hok
theorem Twin.toZ (t : Twin Y Z) {oC : Obj} (I : Inv Z [] τ H s) (hC : s.heap.get? Z.env.locals = some oC) (J : Inv Y [(Z.env.locals, oC)] σ H' s1) (hh : s'.heap = s1.heap) (ho : s'.os = s1.os) (hb : AllBare s'.gens) : Inv Z [] τ H' s' := by
  have hC1 := J.pin (Z.env.locals, oC) (List.mem_append_right _ (List.mem_singleton.mpr rfl))
  have S : Sees Z s'.heap τ := (Sees.of I).at t.zcl fun o e => by
    rw [hC] at e; cases e; rw [hh]; exact hC1.1
  refine ⟨t.zok, ho.trans (by rw [← t.s0]; exact J.os), hb, ?_, S.2, fun x c e => ?_, hC1.2.1, fun x c e => ?_, fun p hp => ?_, ?_, I.len⟩
  · have z := J.base
    rw [t.yex, t.h0, t.s0, show Y.fs = Z.fs from by show frs Y.outer = frs Z.outer; rw [t.outer]] at z
    rw [t.zex, hh]
    exact z
  · rw [t.zcl] at e; cases e
  · rw [t.zcl] at e; cases e
  · rw [t.zpn] at hp
    exact absurd (show p ∈ ([] : List (Addr × Obj)) ++ [] from hp) (by simp)
  · rw [← t.prog, ← t.w, hh]; exact J.hok
end

/-- the generator g, asleep ahead of turn i: its frame, its own objects, what its waking runs -/
structure GSt (Y : Cx) (C : Addr) (A : Around) (lc : Addr → Code) (code : Code) (tg : Expr) (J : It) (S : L2.St → Prop) (a : Addr) (go : Obj) (g : Nat) (i : Nat) (H : Hp) (s : Shared) : Prop where
  isgen : ∀ h : Heap, h.get? a = some go → h.IsGen a g
  cls : go.cls = .type "generator"
  pn : Y.pn = [(a, go)]
  pin : ∀ p ∈ Y.pn, s.heap.get? p.1 = some p.2 ∧ H p.1 = none ∧ p.1 ≠ Y.env.locals ∧ p.1 ∉ Y.fs ∧ (∀ v, p.2.data ≠ .cell v) ∧ p.1 ≠ C ∧ Y.s_0.heap.objs.size ≤ p.1
  names : ∃ σ, S σ ∧ Sees Y s.heap σ ∧ ((i = 0 ∧ s.gens[g]? = some (.fresh code)) ∨ ∃ it fr fp tn k l c p fs, s.gens[g]? = some (.suspended k l c p fs false) ∧ KK (model Y.prog Y.w) A (lc it) fr k c fs ∧ A.over (lc it) fr = Y.A ∧ FrOk (model Y.prog Y.w) A fr ∧
    Turn Y.prog Y.w Y.K tg J fp it tn ∧ tn i s.heap ∧ ∀ b ∈ fp, FOk Y C H b)
  un : H Y.env.locals = none
  yg : Y.s_0.heap.objs.size ≤ Y.env.locals
  fr : Y.env.locals ∉ Y.fs

section
variable {Y Z : Cx} {tg iter test elt : Expr} {yp epos ipos fpos : Pos} {A : Around} {J : It} {gg : TG} {tc : TT} {te : TE} {wi : TI} {n : Nat} {pz : Nat → Bool} {S : L2.St → Prop} {Φ : Hp → Prop} {Yd : Nat → V → Hp → Prop} {a : Addr} {go : Obj} {g i : Nat} {H : Hp} {s : Shared} {τ : L2.St} {E : Value → Shared → Prop}
theorem FOk.fp {C : Addr} {b : Addr} {o : Obj} (t : Twin Y Z) (h : FOk Y Z.env.locals H b) : FpOk Y [(Z.env.locals, o)] H b :=
  ⟨h.un, h.nL, h.fr, .inr h.yg, fun x c e => absurd (show Y.env.cells.lookup x = some c from e) (by rw [t.ycl]; simp), fun p hp => by
    rcases List.mem_append.mp hp with z | z
    · exact h.na p z
    · have e : p = (Z.env.locals, o) := by simpa using z
      subst e
      exact fun e => h.nC e.symm⟩
theorem FOk.of {b : Addr} {o : Obj} (t : Twin Y Z) (h : FpOk Y [(Z.env.locals, o)] H b) : FOk Y Z.env.locals H b :=
  ⟨h.1, h.2.1, fun e => h.2.2.2.2.2 (Z.env.locals, o) (List.mem_append_right _ (List.mem_singleton.mpr rfl)) e.symm, fun p hp => h.2.2.2.2.2 p (List.mem_append_left _ hp), h.2.2.1, (h.2.2.2.1).elim (fun z => by rw [t.yex] at z; cases z) id⟩

/-- one turn of the consumer -/
theorem gturn (t : Twin Y Z) (hx : Y.xe = fun _ _ => False) (hc : Y.calm = true) (hi0 : PI Y tg iter wi) (hg : PG Y tg gg) (ht : PT Y test tc) (he : PE Y elt te) (L : GLaw J gg tc te n pz S Φ Yd)
    (hco : Y.env.scope.isCoroutine = false) (hin : interactive Y.env = false) (hs : ∀ x, foldedSetIterable iter Y.env x = pure x) (hh : A.handled = none) (hroom : A.depth < recursionLimit) (hA : A.in1.deeper Y.env = Y.A)
    (I : Inv Z [] τ H s)
    (G : GSt Y Z.env.locals A.in1 (fun it => .forLoop tg (.ref it) [.If test [.Expr (.Yield (some elt) yp) epos] [] ipos] [] Y.env) (.func [.For tg iter [.If test [.Expr (.Yield (some elt) yp) epos] [] ipos] [] fpos] Y.env) tg J S a go g i H s)
    (hin' : i ≤ n) (hΦ : Φ H) (hw : ∀ σ, S σ → wi σ H fun J' H1 => J' = J ∧ Evl.Ex H H1 ∧ Φ H1) {Q : Option Value → Shared → Prop}
    (hstop : (∀ j, i ≤ j → j < n → pz j = false) → ∀ H' s', Evl.Ex H H' → Inv Z [] τ H' s' → Q none s')
    (hitem : ∀ j y v H' s', i ≤ j → j < n → pz j = true → (∀ j', i ≤ j' → j' < j → pz j' = false) → Evl.Ex H H' → Yd j y H' → RelV y v → Φ H' → Inv Z [] τ H' s' → (∃ k l c p fs cl, s'.gens[g]? = some (.suspended k l c p fs cl)) →
      GSt Y Z.env.locals A.in1 (fun it => .forLoop tg (.ref it) [.If test [.Expr (.Yield (some elt) yp) epos] [] ipos] [] Y.env) (.func [.For tg iter [.If test [.Expr (.Yield (some elt) yp) epos] [] ipos] [] fpos] Y.env) tg J S a go g (j + 1) H' s' → Q (some v) s') :
    wpAny (model Z.prog Z.w) A (pyNext (.ref a)) Q E s := by
  obtain ⟨σ, hS, hN, hst⟩ := G.names
  have hpa := G.pin (a, go) (by rw [G.pn]; exact List.mem_singleton.mpr rfl)
  have hbr : AllBare (s.setGen g .running).gens := allBare_setGen I.bare rfl
  obtain ⟨oC, hC, J0⟩ := t.toY (s' := s.setGen g .running) I rfl rfl hbr hN G.un fun p hp => let z := G.pin p hp; ⟨z.1, z.2.1, z.2.2.1, z.2.2.2.1, z.2.2.2.2.1⟩
  have conv : ∀ {it : Addr} {fr : List Frame} {fp : List Addr} {tn : Nat → Heap → Prop}, A.in1.over (.forLoop tg (.ref it) [.If test [.Expr (.Yield (some elt) yp) epos] [] ipos] [] Y.env) fr = Y.A → FrOk (model Y.prog Y.w) A.in1 fr → Turn Y.prog Y.w Y.K tg J fp it tn → g < s.gens.size →
      ∀ e s', e.quiet = true → (s.setGen g .running).gens.size ≤ s'.gens.size → GPost Y A.in1 (.forLoop tg (.ref it) [.If test [.Expr (.Yield (some elt) yp) epos] [] ipos] [] Y.env) fr fp tn n pz S Φ Yd [(Z.env.locals, oC)] i H e s' → nxP g Q e s' := by
    intro it fr fp tn hAo hF T hlt e s' hq hsz hP
    rw [setGen_size] at hsz
    have hlt' : g < s'.gens.size := Nat.lt_of_lt_of_le hlt hsz
    cases e with
    | ret r =>
      obtain ⟨h1, h2, σ', H', J1, x⟩ := hP
      refine ⟨h1, fun h' k => ?_⟩
      have I1 := t.toZ (s' := s'.setGen g .finished) I hC J1 rfl rfl (allBare_setGen J1.bare rfl)
      exact hstop h2 H' _ x (I1.kept (t' := s'.toks) k)
    | susp v gd l k c p fs =>
      obtain ⟨hK, j, y, σ', H', h1, h2, h3, h4, J1, r, x, hY, hS', hΦ', ht', hf'⟩ := hP
      have hcl : (gd || fs.any Frame.guarded) = false := by simpa [End.quiet] using hq
      show Q (some v) (s'.setGen g (.suspended k l c p fs (gd || fs.any Frame.guarded)))
      rw [hcl]
      have I1 := t.toZ (s' := s'.setGen g (.suspended k l c p fs false)) I hC J1 rfl rfl (allBare_setGen J1.bare rfl)
      refine hitem j y v H' _ h1 h2 h3 h4 x hY r hΦ' I1 ⟨k, l, c, p, fs, false, setGen_at hlt'⟩ ⟨G.isgen, G.cls, G.pn, fun q hq' => ?_, ⟨σ', hS', (show Sees Y s'.heap σ' from Sees.of J1), .inr ⟨it, fr, fp, tn, k, l, c, p, fs, setGen_at hlt', hK, hAo, hF, T, ht', fun b hb => FOk.of t (hf' b hb)⟩⟩, J1.free, G.yg, G.fr⟩
      obtain ⟨z1, z2, z3, z4, z5⟩ := J1.pin q (List.mem_append_left _ hq')
      exact ⟨z1, z2, z3, z4, z5, (G.pin q hq').2.2.2.2.2⟩
  have hlim : s.heap.NoLimit := I.nolimit
  rw [← t.prog, ← t.w]
  rcases hst with ⟨rfl, hgs⟩ | ⟨it, fr, fp, tn, k, l, c, p, fs, hgs, hK, hAo, hF, T, htn, hfp⟩
  · have hlt : g < s.gens.size := (Array.getElem?_eq_some_iff.mp hgs).1
    refine nextX hh hlim hroom (G.isgen _ hpa.1) hgs (.inl ⟨rfl, rfl, rfl⟩) ?_
    have z := func_seg (yp := yp) (epos := epos) (ipos := ipos) (fpos := fpos) (A := A.in1) hx hc hi0 hg ht he L hco hin hA hs J0 hS hΦ (hw σ hS)
    refine SegX.monoQ z fun e s' hq hsz ⟨it, fr, fp, tn, hAo, hF, T, hP⟩ => conv hAo hF T hlt e s' hq hsz hP
  · have hlt : g < s.gens.size := (Array.getElem?_eq_some_iff.mp hgs).1
    refine nextX hh hlim hroom (G.isgen _ hpa.1) hgs (.inr ⟨k, l, p, false, rfl, rfl⟩) ?_
    refine hK _ _ ?_
    have z := loop_seg (yp := yp) (epos := epos) (ipos := ipos) (A := A.in1) (fr := fr) (it := it) (fp := fp) (tn := tn) hx hc T hg ht he L hco hin hAo hF (n - i) i [(Z.env.locals, oC)] _ σ H rfl hin' J0 (fun b hb => FOk.fp (C := 0) t (hfp b hb)) htn hS hΦ
    exact SegX.monoQ z fun e s' hq hsz hP => conv hAo hF T hlt e s' hq hsz hP
end
end Mp
set_option maxHeartbeats 4000000
/-! A generator walked by a list comprehension: the whole. -/
namespace Mp
open PySem PySem.Spec PyProof.Rows L2 GenW
open PySem.W.X (SegX)

/-- the sleeping ones put to death -/
def killG : GenState → GenState
  | .suspended _ l c p fs cl => .suspended (fun _ => .unsupported "dead") l c p fs cl
  | x => x
theorem pr_kill (x : GenState) : PR (killG x) x := by
  cases x with
  | suspended k l c p fs cl => exact .dead
  | fresh c => exact .same fun _ _ _ _ _ _ z => nomatch z
  | running => exact .same fun _ _ _ _ _ _ z => nomatch z
  | finished => exact .same fun _ _ _ _ _ _ z => nomatch z
theorem rg_kill {g : Nat} {G : Array GenState} {k : Resume → Sem PySem.Fin} {l : List Value} {c : Code} {p : Pos} {fs : List Frame} {cl : Bool} (h : G[g]? = some (.suspended k l c p fs cl)) : RG g (.suspended k l c p fs cl) (G.map killG) G where
  size := by simp
  at_ := fun i y e => ⟨killG y, by rw [Array.getElem?_map, e]; rfl, pr_kill y⟩
  me := h
  dead := ⟨k, l, c, p, fs, cl, rfl, by rw [Array.getElem?_map, h]; rfl⟩
theorem bare_kill {G : Array GenState} (h : AllBare G) : AllBare (G.map killG) := fun x hx => by
  obtain ⟨y, hy, rfl⟩ := Array.mem_map.mp hx
  rw [(pr_kill y).bare]
  exact h y hy
theorem RG.bare {g : Nat} {gs : GenState} {b G : Array GenState} (r : RG g gs b G) (h : AllBare b) : AllBare G := fun y hy => by
  obtain ⟨i, hi, e⟩ := Array.mem_iff_getElem.mp hy
  obtain ⟨x, hx, q⟩ := r.at_ i y (by rw [Array.getElem?_eq_getElem hi, e])
  rw [← q.bare]
  exact h x (Array.mem_of_getElem? hx)
/-- a run of the consumer's leaves the sleeping generator asleep -/
theorem frame_inv {Z : Cx} {pl : List (Addr × Obj)} {τ : L2.St} {H : Hp} {s : Shared} {α : Type} {t : Sem α} {R : α → L2.St → Hp → Prop} {A : Around} {E : Value → Shared → Prop} {g : Nat} (I : Inv Z pl τ H s) (hg : ∃ k l c p fs cl, s.gens[g]? = some (.suspended k l c p fs cl))
    (h : ∀ s0, Inv Z pl τ H s0 → s0.heap = s.heap → wpAny (model Z.prog Z.w) A t (fun x s' => ∃ σ' H', Inv Z pl σ' H' s' ∧ R x σ' H') (fun _ _ => False) s0) :
    wpAny (model Z.prog Z.w) A t (fun x s' => s'.gens[g]? = s.gens[g]? ∧ ∃ σ' H', Inv Z pl σ' H' s' ∧ R x σ' H') E s := by
  obtain ⟨k, l, c, p, fs, cl, hg⟩ := hg
  have r := rg_kill hg
  have z := h (wg s (s.gens.map killG)) (Inv.gensTo I rfl rfl (bare_kill I.bare)) rfl
  refine wpAny_mono (wpAny_frame r z) (fun x s' ⟨b, rb, σ', H', I', q⟩ => ?_) fun x s' ⟨b, rb, q⟩ => q.elim
  refine ⟨by rw [hg]; exact rb.me, σ', H', ?_, q⟩
  exact Inv.gensTo I' rfl rfl (rb.bare I'.bare)

section
variable {Y Z : Cx} {A : Around} {lc : Addr → Code} {code : Code} {tg : Expr} {J : It} {S : L2.St → Prop} {a : Addr} {go : Obj} {g i : Nat} {H : Hp} {s : Shared} {τ : L2.St}
/-- what keeps it asleep, as pins -/
theorem GSt.pins (t : Twin Y Z) (I : Inv Z [] τ H s) (G : GSt Y Z.env.locals A lc code tg J S a go g i H s) (hLC : Y.env.locals ≠ Z.env.locals) :
    ∃ pl, Inv Z pl τ H s ∧ ∀ τ' H' s', Inv Z pl τ' H' s' → s'.gens[g]? = s.gens[g]? → GSt Y Z.env.locals A lc code tg J S a go g i H' s' := by
  obtain ⟨σ, hS, hN, hst⟩ := G.names
  obtain ⟨oL, hL, ncL⟩ := Sees.obj hN
  have fsE : Y.fs = Z.fs := by show frs Y.outer = frs Z.outer; rw [t.outer]
  have pinL : s.heap.get? Y.env.locals = some oL ∧ H Y.env.locals = none ∧ Y.env.locals ≠ Z.env.locals ∧ Y.env.locals ∉ Z.fs ∧ ∀ v, oL.data ≠ .cell v := ⟨hL, G.un, hLC, by rw [← fsE]; exact G.fr, ncL⟩
  have hpa := G.pin (a, go) (by rw [G.pn]; exact List.mem_singleton.mpr rfl)
  have pinA : s.heap.get? a = some go ∧ H a = none ∧ a ≠ Z.env.locals ∧ a ∉ Z.fs ∧ ∀ v, go.data ≠ .cell v := ⟨hpa.1, hpa.2.1, hpa.2.2.2.2.2.1, by rw [← fsE]; exact hpa.2.2.2.1, hpa.2.2.2.2.1⟩
  have back : ∀ {τ' : L2.St} {H' : Hp} {s' : Shared} {more : List (Addr × Obj)}, Inv Z ((Y.env.locals, oL) :: (a, go) :: more) τ' H' s' →
      (∀ p ∈ Y.pn, s'.heap.get? p.1 = some p.2 ∧ H' p.1 = none ∧ p.1 ≠ Y.env.locals ∧ p.1 ∉ Y.fs ∧ (∀ v, p.2.data ≠ .cell v) ∧ p.1 ≠ Z.env.locals ∧ Y.s_0.heap.objs.size ≤ p.1) ∧ Sees Y s'.heap σ ∧ H' Y.env.locals = none := fun {τ' H' s' more} I' => by
    obtain ⟨l1, l2, _⟩ := I'.pin (Y.env.locals, oL) (List.mem_append_right _ List.mem_cons_self)
    obtain ⟨a1, a2, _⟩ := I'.pin (a, go) (List.mem_append_right _ (List.mem_cons_of_mem _ List.mem_cons_self))
    refine ⟨fun p hp => ?_, hN.at t.ycl fun o e => by rw [hL] at e; cases e; exact l1, l2⟩
    have e : p = (a, go) := by rw [G.pn] at hp; simpa using hp
    subst e
    exact ⟨a1, a2, hpa.2.2⟩
  rcases hst with ⟨hi0, hgs⟩ | ⟨it, fr, fp, tn, k, l, c, p, fs, hgs, hK, hAo, hF, T, htn, hfp⟩
  · refine ⟨[(Y.env.locals, oL), (a, go)], I.pins_of fun p hp => ?_, fun τ' H' s' I' hg' => ?_⟩
    · have e : p = (Y.env.locals, oL) ∨ p = (a, go) := by simpa using hp
      rcases e with rfl | rfl
      · exact pinL
      · exact pinA
    · obtain ⟨b1, b2, b3⟩ := back I'
      exact ⟨G.isgen, G.cls, G.pn, b1, ⟨σ, hS, b2, .inl ⟨hi0, hg'.trans hgs⟩⟩, b3, G.yg, G.fr⟩
  · have hobj := T.obj _ _ htn
    have pinF : ∀ p ∈ pinsAt fp s.heap, s.heap.get? p.1 = some p.2 ∧ H p.1 = none ∧ p.1 ≠ Z.env.locals ∧ p.1 ∉ Z.fs ∧ ∀ v, p.2.data ≠ .cell v := fun p hp => by
      obtain ⟨hb, e⟩ := of_pinsAt hp
      obtain ⟨o, e', d⟩ := hobj p.1 hb
      have h := hfp p.1 hb
      rw [e] at e'; cases e'
      exact ⟨e, h.un, h.nC, by rw [← fsE]; exact h.fr, d⟩
    refine ⟨(Y.env.locals, oL) :: (a, go) :: pinsAt fp s.heap, I.pins_of fun p hp => ?_, fun τ' H' s' I' hg' => ?_⟩
    · rcases List.mem_cons.mp hp with rfl | hp
      · exact pinL
      · rcases List.mem_cons.mp hp with rfl | hp
        · exact pinA
        · exact pinF p hp
    · obtain ⟨b1, b2, b3⟩ := back I'
      have pf : ∀ b ∈ fp, ∀ o, s.heap.get? b = some o → s'.heap.get? b = some o ∧ H' b = none := fun b hb o e =>
        let z := I'.pin (b, o) (List.mem_append_right _ (List.mem_cons_of_mem _ (List.mem_cons_of_mem _ (mem_pinsAt hb e))))
        ⟨z.1, z.2.1⟩
      refine ⟨G.isgen, G.cls, G.pn, b1, ⟨σ, hS, b2, .inr ⟨it, fr, fp, tn, k, l, c, p, fs, hg'.trans hgs, hK, hAo, hF, T, T.keep _ _ _ htn fun b hb o e => (pf b hb o e).1, fun b hb => ?_⟩⟩, b3, G.yg, G.fr⟩
      obtain ⟨o, e, _⟩ := hobj b hb
      have h := hfp b hb
      exact ⟨(pf b hb o e).2, h.nL, h.nC, h.na, h.fr, h.yg⟩
end
end Mp
set_option maxHeartbeats 4000000
/-! [elt for t in o.m(..)], m a generator def. -/
namespace Mp
open PySem PySem.Spec PyProof.Rows L2 GenW
open PySem.W.X (SegX)

/-- an expression that calls a generator def -/
structure PGn (X : Cx) (N : List Str) (qual : Str) (scG : Scope) (f : Addr) (cd : Value) (body : List Stmt) (e : Expr) (t : L2.St → Hp → (List V → Hp → Prop) → Prop) : Prop where
  run : ∀ (pins : List (Addr × Obj)) (s : Shared) (σ : L2.St) (H : Hp) (R : List V → Hp → Prop), Inv X pins σ H s → t σ H R → wpAny (model X.prog X.w) X.A (eval e X.env)
    (fun v s2 => ∃ sc H1 vs a g go, v = .ref a ∧ Inv X pins σ H1 sc ∧ GNew X.prog X.w X.K X.mg X.base N qual scG f cd body X.stack sc H1 vs a g go s2 ∧ R vs H1) X.xe s

/-- [elt for tg' in <generator>]: D the new list -/
def tLcG (tG : L2.St → Hp → (List V → Hp → Prop) → Prop) (N : List Str) (wi : TI) (gg : TG) (tc : TT) (te : TE) (g' : TG) (te' : TE) (vs' : List Nat) : TE := fun σ H Q => tG σ H fun vs H1 => ∃ (J : It) (n : Nat) (pz : Nat → Bool) (S : L2.St → Prop) (Φ : Hp → Prop) (Yd : Nat → V → Hp → Prop),
  GLaw J gg tc te n pz S Φ Yd ∧ S (start N vs) ∧ (∀ σ H, S σ → Φ H → wi σ H fun J' H2 => J' = J ∧ Evl.Ex H H2 ∧ Φ H2) ∧
  ∀ D, H1 D = none → ∃ W : Nat → Hp → Prop, W 0 (upd H1 D (.lst [])) ∧ (∀ i H, W i H → i ≤ n ∧ Φ H) ∧ (∀ i H, W i H → (∀ j, i ≤ j → j < n → pz j = false) → ∀ H', Evl.Ex H H' → Q (.ref D) H') ∧
    ∀ i H, W i H → ∀ j y H', i ≤ j → j < n → pz j = true → (∀ j', i ≤ j' → j' < j → pz j' = false) → Evl.Ex H H' → Yd j y H' → g' y (wipe σ vs') H' fun σ2 H2 => wipe σ2 vs' = wipe σ vs' ∧ te' σ2 H2 fun z H4 =>
      ∃ acc, H4 D = some (.lst acc) ∧ acc.length < sizeLine ∧ W (j + 1) (upd H4 D (.lst (acc ++ [z])))

section
variable {X : Cx} {N : List Str} {qual : Str} {scG scope : Scope} {f : Addr} {cd : Value} {tg iter test elt : Expr} {yp epos ipos fpos pos : Pos} {tG : L2.St → Hp → (List V → Hp → Prop) → Prop} {wi : TI} {gg : TG} {tc : TT} {te : TE} {g' : TG} {te' : TE}
  {e elt' tg' : Expr} {own : List (Str × Nat)}
theorem lcG_core {pins : List (Addr × Obj)} {s : Shared} {σ : L2.St} {H : Hp} {Q : VK} {pos' : Pos} {use : Option (Value → Sem Unit)} {Qf : Value → Shared → Prop} (I : Inv X pins σ H s) (h : tLcG tG N wi gg tc te g' te' (own.map (·.2)) σ H Q)
    (hRR : ∀ D C s' m H', Inv X pins σ H' s' → Q (.ref D) H' → s'.heap.Ns C m → FpOk X pins H' C → compPost (model X.prog X.w) X.A X.xe use Qf (.ref D) C (.ok .next) s') (hc : X.calm = true) (hN : X.N.Nodup) (hroom : X.A.depth < recursionLimit) (ok : BlkOk X.N X.env.scope scope own) (hcl : ∀ n cs, cellsFrom n scope.names (cloFrom cs scope.names []) = []) (hcg : ∀ n, cellsFrom n scG.names [] = []) (hco : scG.isCoroutine = false) (hkG : scG.kind = .function)
    (hcall : PGn X N qual scG f cd [.For tg iter [.If test [.Expr (.Yield (some elt) yp) epos] [] ipos] [] fpos] e tG)
    (hin : ∀ sc, interactive (envOfC qual scG sc f cd) = false) (hsG : ∀ (env : Env) x, foldedSetIterable iter env x = pure x)
    (hi0 : ∀ sc H p, PI (gyOf X.prog X.w X.K X.mg X.base N qual scG f cd X.A.in1 X.stack sc H p) tg iter wi)
    (hgG : ∀ sc H p, PG (gyOf X.prog X.w X.K X.mg X.base N qual scG f cd X.A.in1 X.stack sc H p) tg gg)
    (htG : ∀ sc H p, PT (gyOf X.prog X.w X.K X.mg X.base N qual scG f cd X.A.in1 X.stack sc H p) test tc)
    (heG : ∀ sc H p, PE (gyOf X.prog X.w X.K X.mg X.base N qual scG f cd X.A.in1 X.stack sc H p) elt te)
    (hg : ∀ (s : Shared) (H : Hp) (C : Addr) (cl : List (Str × Addr)) (fp : List Addr), PG (X.blk s H scope (compEnvC scope cl C X.env) fp) tg' g')
    (he : ∀ (s : Shared) (H : Hp) (C : Addr) (cl : List (Str × Addr)) (fp : List Addr), PE (X.blk s H scope (compEnvC scope cl C X.env) fp) elt' te') (hs : ∀ x, foldedSetIterable e X.env x = pure x ) :
    wpAny (model X.prog X.w) X.A (comprehension (.ListComp elt' [⟨tg', e, [], 0⟩] scope pos) scope X.env pos' (newList []) false (eval e X.env) use) Qf X.xe s := by
  have hfree : ∀ y ∈ scope.names, y.2 = .free → ∃ c, X.env.cells.lookup y.1 = some c := fun y hy e => by
    rcases ok.free y hy e with k | k
    · exact I.ok.has _ (.inl k)
    · exact I.ok.has _ (.inr k)
  refine wpAny_comprehension_free (use := use) rfl hs (closure_ok hfree) ok.kind (fun y hy e => by rw [ok.uniq y hy, e])
    (thn (hcall.run pins s σ H _ I h) fun v s2 ⟨sc, H1, vs, a, g, go, ev, I1, G, J, n, pz, S, Φ, Yd, L, hS0, hw, q⟩ => ?_)
  subst ev
  refine wpAny_pyIter_gen (G.isgen _ G.get) ?_
  refine wpAny_newObj_type (newEnv_comp ?_) (by show 0 ≤ sizeLine; decide)
  have I2 : Inv X pins σ H1 s2 := I1.call' (ch := []) G.os (Un.kept G.keep) (I1.hok.kept G.keep) G.bare fun b z => by simp at z
  generalize hD : s2.heap.objs.size = D
  have hDn : H1 D = none := I2.hok.fresh (Nat.le_of_eq hD)
  obtain ⟨W, w0, wle, wend, wstep⟩ := q D hDn
  generalize hs3 : ({ s2 with heap := s2.heap.push { cls := .type "list", data := .seq ([] : List Value).toArray } } : Shared) = s3
  have h3 : s3.heap = s2.heap.push { cls := .type "list", data := .seq ([] : List Value).toArray } := by rw [← hs3]
  have o3 : s3.os = s2.os := by rw [← hs3]
  have g3 : s3.gens = s2.gens := by rw [← hs3]
  have kp3 : ∀ b o, s2.heap.get? b = some o → s3.heap.get? b = some o := fun b o e => by rw [h3]; exact Heap.get?_push_of_some _ e
  have I3 : Inv X pins σ (upd H1 D (.lst [])) s3 := by
    rw [← hs3]
    refine I2.laid (t' := s2.toks) (fun b o e => Heap.get?_push_of_some _ e) (Nat.le_of_eq hD) ⟨Nat.zero_le _, [], 0, .nil, ?_⟩
    rw [← hD]
    exact Heap.get?_push_size _ rfl
  have sz2 : sc.heap.objs.size ≤ s2.heap.objs.size := Nat.le_trans (Nat.le_of_lt G.young) (Nat.le_of_lt (Heap.lt_size G.get))
  have sz3 : s3.heap.objs.size = s2.heap.objs.size + 1 := by rw [h3, Heap.size_push]
  have I4 := block_start (fp := []) I3 ok hN fun b hb => by simp at hb
  generalize hce : compEnvC scope (cellsFrom (s3.heap.objs.size + 1) scope.names (cloFrom X.env.cells scope.names [])) s3.heap.objs.size X.env = ce at I4
  have pg : PG (X.blk sc H1 scope ce []) tg' g' := by subst hce; exact hg sc H1 _ _ []
  have pe : PE (X.blk sc H1 scope ce []) elt' te' := by subst hce; exact he sc H1 _ _ []
  have cL : ce.locals = s3.heap.objs.size := by subst hce; rfl
  have cC : ce.cells = [] := by subst hce; exact hcl _ _
  show codeAny _ _ (.compStart (.ListComp elt' [⟨tg', e, [], 0⟩] scope pos) 0 (.ref a) (.ref D) (compEnvC scope (cellsFrom (s3.heap.objs.size + 1) scope.names (cloFrom X.env.cells scope.names [])) s3.heap.objs.size X.env)) (compPost (model X.prog X.w) X.A X.xe use Qf (.ref D) s3.heap.objs.size) { s3 with heap := pushCells (s3.heap.push { cls := .type "dict", data := .dict #[] }) scope.names }
  rw [hce]
  have gen4 : ({ s3 with heap := pushCells (s3.heap.push { cls := .type "dict", data := .dict #[] }) scope.names } : Shared).gens = s2.gens := g3
  generalize hs4 : ({ s3 with heap := pushCells (s3.heap.push { cls := .type "dict", data := .dict #[] }) scope.names } : Shared) = s4 at I4 gen4 ⊢
  have kp4 : ∀ b o, s2.heap.get? b = some o → s4.heap.get? b = some o := fun b o e => by rw [← hs4]; exact pushCells_keeps _ _ _ _ (Heap.get?_push_of_some _ (kp3 b o e))
  have I5 : Inv (X.blk sc H1 scope ce []) [] (wipe σ (own.map (·.2))) (upd H1 D (.lst [])) s4 :=
    blk_back (s3 := s3) I1 (fun b o e => kp3 b o (G.keep b o e)) (o3.trans G.os) (fun b hb => upd_ne (by rw [← hD]; exact Nat.ne_of_lt (Nat.lt_of_lt_of_le hb sz2))) (fun b o e => (I1.hok b o e).lt) (Nat.le_trans sz2 (by rw [sz3]; exact Nat.le_succ _)) cC I4
  have hYi := G.inv X.A.in1 (I1.ok.hd hc) I1.ok.frames
  generalize hY : gyOf X.prog X.w X.K X.mg X.base N qual scG f cd X.A.in1 X.stack sc H1 (a, go) = Y at hYi
  generalize hZ : X.blk sc H1 scope ce [] = Z at I5 pg pe
  have YL : Y.env.locals = sc.heap.objs.size := by subst hY; rfl
  have ZL : Z.env.locals = s3.heap.objs.size := by subst hZ; exact cL
  have Yfs : Y.fs = frs X.stack := by subst hY; rfl
  have Ys0 : Y.s_0 = sc := by subst hY; rfl
  have Ypn : Y.pn = [(a, go)] := by subst hY; rfl
  have lt3 : sc.heap.objs.size < s3.heap.objs.size := by rw [sz3]; exact Nat.lt_succ_of_le sz2
  have t : Twin Y Z := by
    refine ⟨?_, ?_, ?_, ?_, ?_, ?_, ?_, ?_, ?_, ?_, hYi.ok, I5.ok, by rw [YL, ZL]; exact Nat.ne_of_lt lt3⟩
    all_goals (subst hY; subst hZ)
    all_goals first
      | rfl
      | exact cC
      | exact hcg _
  have Zp : Z.prog = X.prog := by subst hZ; rfl
  have Zw : Z.w = X.w := by subst hZ; rfl
  have alt : a < s2.heap.objs.size := Heap.lt_size G.get
  have hpa := hYi.pin (a, go) (List.mem_append_left _ (by rw [Ypn]; exact List.mem_singleton.mpr rfl))
  have G0 : GSt Y Z.env.locals X.A.in1 (fun it => .forLoop tg (.ref it) [.If test [.Expr (.Yield (some elt) yp) epos] [] ipos] [] Y.env) (.func [.For tg iter [.If test [.Expr (.Yield (some elt) yp) epos] [] ipos] [] fpos] Y.env) tg J S a go g 0 (upd H1 D (.lst [])) s4 := by
    refine ⟨G.isgen, G.cls, Ypn, fun p hp => ?_, ⟨start N vs, hS0, (Sees.of hYi).at t.ycl fun o e => kp4 _ o e, .inl ⟨rfl, by rw [gen4]; have z := G.gen; subst hY; exact z⟩⟩, ?_, by rw [Ys0, YL]; exact Nat.le_refl _, fun hm => ?_⟩
    · have e : p = (a, go) := by rw [Ypn] at hp; simpa using hp
      subst e
      refine ⟨kp4 _ _ G.get, ?_, hpa.2.2.1, hpa.2.2.2.1, hpa.2.2.2.2, by rw [ZL, sz3]; exact Nat.ne_of_lt (Nat.lt_succ_of_lt alt), by rw [Ys0]; exact Nat.le_of_lt G.young⟩
      rw [upd_ne (by rw [← hD]; exact Nat.ne_of_lt alt)]
      exact hpa.2.1
    · rw [upd_ne (by rw [← hD, YL]; exact Nat.ne_of_lt (Nat.lt_of_lt_of_le G.young (Nat.le_of_lt alt)))]
      exact hYi.free
    · obtain ⟨_, o, e, _⟩ := hYi.ok.funs.mem hm
      have := Heap.lt_size e
      rw [YL, Ys0] at this
      exact Nat.lt_irrefl _ this
  have loop : codeAny (model X.prog X.w) X.A (.compLoop (.ListComp elt' [⟨tg', e, [], 0⟩] scope pos) 0 (.ref a) (.ref D) ce) (compPost (model X.prog X.w) X.A X.xe use Qf (.ref D) s3.heap.objs.size) s4 := by
    refine compLoop_any (fun m s' => ∃ i H', m = n - i ∧ Inv Z [] (wipe σ (own.map (·.2))) H' s' ∧
      GSt Y Z.env.locals X.A.in1 (fun it => .forLoop tg (.ref it) [.If test [.Expr (.Yield (some elt) yp) epos] [] ipos] [] Y.env) (.func [.For tg iter [.If test [.Expr (.Yield (some elt) yp) epos] [] ipos] [] fpos] Y.env) tg J S a go g i H' s' ∧ W i H') ?_ n ⟨0, _, rfl, I5, G0, w0⟩
    rintro m s5 ⟨i, H5, rfl, I6, G5, w5⟩
    obtain ⟨hin5, hΦ5⟩ := wle i H5 w5
    have tu : ∀ (Q' : Option Value → Shared → Prop) (E' : Value → Shared → Prop), _ → _ → wpAny (model Z.prog Z.w) X.A (pyNext (.ref a)) Q' E' s5 := fun Q' E' h1 h2 =>
      gturn (yp := yp) (epos := epos) (ipos := ipos) (fpos := fpos) (iter := iter) (test := test) (elt := elt) (wi := wi) (gg := gg) (tc := tc) (te := te) (n := n) (pz := pz) (Φ := Φ) (Yd := Yd) t (by subst hY; rfl) (by subst hY; rfl) (by subst hY; exact hi0 _ _ _) (by subst hY; exact hgG _ _ _) (by subst hY; exact htG _ _ _) (by subst hY; exact heG _ _ _) L
        (by subst hY; exact hco) (by subst hY; exact hin _) (fun x => hsG _ x) (I1.ok.hd hc) hroom (by subst hY; rfl) I6 G5 hin5 hΦ5 (fun σ hσ => hw σ H5 hσ hΦ5) (Q := Q') h1 h2
    rw [Zp, Zw] at tu
    refine tu _ _ (fun hz H6 s6 hx6 I6' => ?_) fun j y v H6 s6 hij hjn hpz hnz hx6 hY6 r6 hΦ6 I6' hsus G6 => ?_
    · have I7 : Inv X pins σ H6 s6 := by
        subst hZ
        exact I1.call' (ch := []) I6'.os I6'.base I6'.hok I6'.bare fun b z => by simp at z
      obtain ⟨mm, hn, _⟩ := I6'.loc
      rw [ZL] at hn
      have f := I3.fpOk (H' := H6) (b := s3.heap.objs.size) (Nat.le_refl _) (by rw [← ZL]; exact I6'.free)
      exact hRR D s3.heap.objs.size s6 mm H6 I7 (wend i H5 w5 hz H6 hx6) hn f
    · obtain ⟨oa, nm, qn, hoa, hca, hda, _⟩ := G.isgen s6.heap (G6.pin (a, go) (by rw [Ypn]; exact List.mem_singleton.mpr rfl)).1
      refine go_of hoa hca hda (by decide) ?_
      have fin : ∀ {τ' : L2.St} {H' : Hp} {s' : Shared}, Inv Z [] τ' H' s' → GSt Y Z.env.locals X.A.in1 (fun it => .forLoop tg (.ref it) [.If test [.Expr (.Yield (some elt) yp) epos] [] ipos] [] Y.env) (.func [.For tg iter [.If test [.Expr (.Yield (some elt) yp) epos] [] ipos] [] fpos] Y.env) tg J S a go g (j + 1) H' s' →
          wipe τ' (own.map (·.2)) = wipe σ (own.map (·.2)) → W (j + 1) H' → ∃ m', m' < n - i ∧ ∃ i H', m' = n - i ∧ Inv Z [] (wipe σ (own.map (·.2))) H' s' ∧
            GSt Y Z.env.locals X.A.in1 (fun it => .forLoop tg (.ref it) [.If test [.Expr (.Yield (some elt) yp) epos] [] ipos] [] Y.env) (.func [.For tg iter [.If test [.Expr (.Yield (some elt) yp) epos] [] ipos] [] fpos] Y.env) tg J S a go g i H' s' ∧ W i H' := fun {τ' H' s'} I' G' hwp w' => by
        refine ⟨n - (j + 1), by omega, j + 1, H', rfl, I'.weak ?_ fun k v e => ?_, G', w'⟩
        · rw [← hwp, wipe_length]
        · rw [← hwp] at e
          exact (wipe_some e).1
      obtain ⟨pl, Ip, back⟩ := GSt.pins t I6' G6 t.above
      have q6 := wstep i H5 w5 j y H6 hij hjn hpz hnz hx6 hY6
      rw [← Zp, ← Zw]
      have step1 := frame_inv (E := fun _ _ => False) Ip hsus (t := assign tg' Z.env v) (A := X.A) (R := fun _ σ2 H2 => wipe σ2 (own.map (·.2)) = wipe σ (own.map (·.2)) ∧ te' σ2 H2 fun z H4 =>
        ∃ acc, H4 D = some (.lst acc) ∧ acc.length < sizeLine ∧ W (j + 1) (upd H4 D (.lst (acc ++ [z])))) fun s0 I0 _ => by
          have z := pg.run pl s0 _ H6 y v _ I0 r6 q6
          subst hZ
          exact z
      have eZ : Z.env = ce := by subst hZ; rfl
      rw [eZ] at step1
      refine thnF step1 fun _ s7 ⟨hg7, σ7, H7, I7, hwp, q7⟩ => ?_
      refine wpAny_tests_nil ?_
      have hsus7 : ∃ k l c p fs cl, s7.gens[g]? = some (.suspended k l c p fs cl) := by rw [hg7]; exact hsus
      have step2 := frame_inv (E := fun _ _ => False) I7 hsus7 (t := eval elt' Z.env) (A := X.A) (R := fun u σ2 H4 => σ2 = σ7 ∧ ∃ z, RelV z u ∧ ∃ acc, H4 D = some (.lst acc) ∧ acc.length < sizeLine ∧ W (j + 1) (upd H4 D (.lst (acc ++ [z])))) fun s0 I0 _ => by
          have z := pe.run pl s0 σ7 H7 _ I0 q7
          subst hZ
          exact thnF z fun u s' ⟨zv, H8, I8, r8, q8⟩ => ⟨σ7, H8, I8, rfl, zv, r8, q8⟩
      rw [eZ] at step2
      simp only [if_true]
      refine thnF step2 fun u s8 ⟨hg8, σ8, H8, I8, e8, zv, r8, acc, hD8, hz8, w8⟩ => ?_
      subst e8
      have hsus8 : ∃ k l c p fs cl, s8.gens[g]? = some (.suspended k l c p fs cl) := by rw [hg8]; exact hsus7
      have step3 := frame_inv (E := fun _ _ => False) I8 hsus8 (t := call (.builtin "list.append") [.ref D, u]) (A := X.A) (R := fun _ σ2 H9 => σ2 = σ8 ∧ H9 = upd H8 D (.lst (acc ++ [zv]))) fun s0 I0 _ => by
          have z : wpAny (model Z.prog Z.w) Z.A (call (.builtin "list.append") [.ref D, u]) (fun x s' => ∃ σ' H', Inv Z pl σ' H' s' ∧ σ' = σ8 ∧ H' = upd H8 D (.lst (acc ++ [zv]))) (fun _ _ => False) s0 := app_ok I0 hD8 hz8 r8 fun s' I' => ⟨σ8, _, I', rfl, rfl⟩
          subst hZ
          exact z
      refine thnF step3 fun _ s9 ⟨hg9, σ9, H9, I9, e9, eH9⟩ => ?_
      subst e9 eH9
      exact fin (I9.pins_of (pins' := []) fun p hp => by simp at hp) (back _ _ _ I9 (hg9.trans (hg8.trans hg7))) hwp w8
  exact codeAny_compStart_list loop (wpAny_pyIter_gen (G.isgen _ (kp4 _ _ G.get)) loop)
theorem pe_lcG (hc : X.calm = true) (hN : X.N.Nodup) (hroom : X.A.depth < recursionLimit) (ok : BlkOk X.N X.env.scope scope own) (hcl : ∀ n cs, cellsFrom n scope.names (cloFrom cs scope.names []) = []) (hcg : ∀ n, cellsFrom n scG.names [] = []) (hco : scG.isCoroutine = false) (hkG : scG.kind = .function)
    (hcall : PGn X N qual scG f cd [.For tg iter [.If test [.Expr (.Yield (some elt) yp) epos] [] ipos] [] fpos] e tG)
    (hin : ∀ sc, interactive (envOfC qual scG sc f cd) = false) (hsG : ∀ (env : Env) x, foldedSetIterable iter env x = pure x)
    (hi0 : ∀ sc H p, PI (gyOf X.prog X.w X.K X.mg X.base N qual scG f cd X.A.in1 X.stack sc H p) tg iter wi)
    (hgG : ∀ sc H p, PG (gyOf X.prog X.w X.K X.mg X.base N qual scG f cd X.A.in1 X.stack sc H p) tg gg)
    (htG : ∀ sc H p, PT (gyOf X.prog X.w X.K X.mg X.base N qual scG f cd X.A.in1 X.stack sc H p) test tc)
    (heG : ∀ sc H p, PE (gyOf X.prog X.w X.K X.mg X.base N qual scG f cd X.A.in1 X.stack sc H p) elt te)
    (hg : ∀ (s : Shared) (H : Hp) (C : Addr) (cl : List (Str × Addr)) (fp : List Addr), PG (X.blk s H scope (compEnvC scope cl C X.env) fp) tg' g')
    (he : ∀ (s : Shared) (H : Hp) (C : Addr) (cl : List (Str × Addr)) (fp : List Addr), PE (X.blk s H scope (compEnvC scope cl C X.env) fp) elt' te') (hs : ∀ x, foldedSetIterable e X.env x = pure x := by intro _; rfl) :
    PE X (.ListComp elt' [⟨tg', e, [], 0⟩] scope pos) (tLcG tG N wi gg tc te g' te' (own.map (·.2))) := by
  refine ⟨fun pins s σ H Q I h => ?_⟩
  rw [eval_ListComp]
  refine lcG_core I h (fun D C s' m H' I' q hn f => ⟨m, hn, fun h'' sb => ?_⟩) hc hN hroom ok hcl hcg hco hkG hcall hin hsG hi0 hgG htG heG hg he hs
  obtain ⟨f0, f1, f2, f3, f4, f5⟩ := f
  exact ⟨.ref D, H', I'.turned (t' := s'.toks) (fun b o hb e => (sb.2 b hb).trans e) f0 f1 f3 f4 f5, rfl, q⟩
theorem ps_setLcG {i : Nat} {y : Str} {py spos : Pos} (hy : X.N[i]? = some y) (hyl : X.env.scope.names.lookup y = some .local) (hsw : swapsWith (.ListComp elt' [⟨tg', e, [], 0⟩] scope pos) (some (.Name y py)) spos.line X.env = pure true) (hc : X.calm = true) (hN : X.N.Nodup) (hroom : X.A.depth < recursionLimit) (ok : BlkOk X.N X.env.scope scope own) (hcl : ∀ n cs, cellsFrom n scope.names (cloFrom cs scope.names []) = []) (hcg : ∀ n, cellsFrom n scG.names [] = []) (hco : scG.isCoroutine = false) (hkG : scG.kind = .function)
    (hcall : PGn X N qual scG f cd [.For tg iter [.If test [.Expr (.Yield (some elt) yp) epos] [] ipos] [] fpos] e tG)
    (hin : ∀ sc, interactive (envOfC qual scG sc f cd) = false) (hsG : ∀ (env : Env) x, foldedSetIterable iter env x = pure x)
    (hi0 : ∀ sc H p, PI (gyOf X.prog X.w X.K X.mg X.base N qual scG f cd X.A.in1 X.stack sc H p) tg iter wi)
    (hgG : ∀ sc H p, PG (gyOf X.prog X.w X.K X.mg X.base N qual scG f cd X.A.in1 X.stack sc H p) tg gg)
    (htG : ∀ sc H p, PT (gyOf X.prog X.w X.K X.mg X.base N qual scG f cd X.A.in1 X.stack sc H p) test tc)
    (heG : ∀ sc H p, PE (gyOf X.prog X.w X.K X.mg X.base N qual scG f cd X.A.in1 X.stack sc H p) elt te)
    (hg : ∀ (s : Shared) (H : Hp) (C : Addr) (cl : List (Str × Addr)) (fp : List Addr), PG (X.blk s H scope (compEnvC scope cl C X.env) fp) tg' g')
    (he : ∀ (s : Shared) (H : Hp) (C : Addr) (cl : List (Str × Addr)) (fp : List Addr), PE (X.blk s H scope (compEnvC scope cl C X.env) fp) elt' te') (hs : ∀ x, foldedSetIterable e X.env x = pure x := by intro _; rfl) :
    PS X (.Assign [.Name y py] (.ListComp elt' [⟨tg', e, [], 0⟩] scope pos) spos) (tAsg (tLcG tG N wi gg tc te g' te' (own.map (·.2))) (gName i)) := by
  refine ⟨fun pins s σ H D I h => ?_⟩
  rw [exec_Assign_Name_used _ _ _ _ hsw]
  refine wpAny_bind (wpAny_standAt (wpAny_bind ?_))
  change wpAny _ X.A (comprehension (.ListComp elt' [⟨tg', e, [], 0⟩] scope pos) scope X.env (firstIterPos [⟨tg', e, [], 0⟩] pos) (newList []) false (eval e X.env) (some (assign (.Name y py) X.env)) >>= fun _ => pure ()) _ _ s
  have h' : tLcG tG N wi gg tc te g' te' (own.map (·.2)) σ H (fun x H1 => gName i x σ H1 D.nx) := h
  refine wpAny_bind (thn (lcG_core (Qf := fun _ s' => SP X pins D .next s') I h' (fun L C s' m H' I' q hn f => ?_) hc hN hroom ok hcl hcg hco hkG hcall hin hsG hi0 hgG htG heG hg he hs) fun _ s' q => wpAny_pure (wpAny_pure q))
  change wpAny _ _ (assign (.Name y py) X.env (.ref L)) _ _ _
  refine wpAny_assign_Name (store_ok2 (v := V.ref L) I' hN hy (.inl hyl) rfl (fun s2 I2 ⟨b, sb, hb⟩ => ?_) (.inr hyl))
  obtain ⟨f0, f1, f2, f3, f4, f5⟩ := f
  have apart : C ≠ b := by
    rcases hb with z | z
    · exact z ▸ f1
    · exact fun e => f4 y b z e.symm
  exact ⟨m, hn.sameBut sb apart, fun h3 sb3 => ⟨_, H', I2.turned (t' := s2.toks) (fun b o nb e => (sb3.2 b nb).trans e) f0 f1 f3 f4 f5, q⟩⟩
end
end Mp
set_option maxHeartbeats 4000000
/-! o.m(e, ..) and o.m(k = e), m a generator def. -/
namespace Mp
open PySem PySem.Spec PyProof.Rows L2 GenW

section
variable {X : Cx} {k : Nat} {f : Addr} {name qual : Str} {params : Arguments} {body : List Stmt} {scG : Scope} {dV kV doc pm cdv ct oc : Value} {an od : Option Addr} {osl : Array (Option Value)} {N ps ks : List Str} {m : Str} {o e : Expr} {es : List Expr} {kws : List Keyword}
  {to : TE} {ta : TA} {apos pos : Pos} {pl : Sem Bool}
theorem run_gen {pins : List (Addr × Obj)} {σ : L2.St} {H : Hp} {s : Shared} {us : List Value} {vs : List V} {kw : List (Str × Value)} {R : List V → Hp → Prop} (lk : X.K.lookup f = some ⟨oc, od, .func (PySem.W.fnOf name qual params body scG dV kV doc pm an cdv ct), osl⟩) (hcd : PySem.W.codeIn X.K cdv qual = true) (S : GScope N ps scG)
    (hr : Room k X.A) (I : Inv X pins σ H s) (hb : bindArgs (PySem.W.fnOf name qual params body scG dV kV doc pm an cdv ct) ⟨us, kw⟩ = pure (ps.zip (us ++ kw.map (·.2)))) (r : Vals vs (us ++ kw.map (·.2))) (hl : vs.length = ps.length) (hR : R vs H) :
    wpAny (model X.prog X.w) X.A (call (.ref f) us kw) (fun v s2 => ∃ sc H1 vs a g go, v = .ref a ∧ Inv X pins σ H1 sc ∧ GNew X.prog X.w X.K X.mg X.base N qual scG f cdv body X.stack sc H1 vs a g go s2 ∧ R vs H1) X.xe s := by
  refine wpAny_call (codeAny_mono (gen_call lk hcd S hr I.env0 hb r hl) fun r' s' hq => ?_)
  cases r' with
  | error e => exact False.elim hq
  | ok fl =>
    cases fl with
    | ret u =>
      obtain ⟨a, g, go, eu, G⟩ := hq
      exact ⟨s, H, vs, a, g, go, eu, I, G, hR⟩
    | next => exact False.elim hq
    | brk => exact False.elim hq
    | cont => exact False.elim hq
/-- what the object of the call is -/
def rGen (X : Cx) (k : Nat) (m : Str) (f : Addr) (x : V) (H : Hp) : Prop := ∃ (a C dx : Addr) (fs : List (Str × V)), x = .ref a ∧ H a = some (.ins C dx fs) ∧ fs.lookup m = none ∧ Cls X.K C ∧ Meth X.K C m f ∧ Room k X.A
theorem pgn_mv (lk : X.K.lookup f = some ⟨oc, od, .func (PySem.W.fnOf name qual params body scG dV kV doc pm an cdv ct), osl⟩) (hcd : PySem.W.codeIn X.K cdv qual = true) (S : GScope N ps scG)
    (hb : ∀ us : List Value, us.length = ps.length → bindArgs (PySem.W.fnOf name qual params body scG dV kV doc pm an cdv ct) ⟨us, []⟩ = pure (ps.zip us))
    (he : PE X o to) (ha : PA X (e :: es) ta)
    (hst : starEach (e :: es) X.env = (false, eval e X.env) :: starEach es X.env := by rfl) (hpl : (backTo pos (starEach es X.env)).any (·.1) = false := by rfl)
    (ht : eval (.Call (.Attribute o m apos) (e :: es) [] pos) X.env = (do
      let ov ← eval o X.env
      standAt apos.atName
      let (f, first) ← holding [ov] (getMethod ov m pl)
      callWith pos f first (backTo pos (starEach (e :: es) X.env)) (backToKw pos (keywordEach [] X.env))) := by rfl) :
    PGn X N qual scG f cdv body (.Call (.Attribute o m apos) (e :: es) [] pos) (fun σ H R => to σ H fun x H1 => rGen X k m f x H1 ∧ ta σ H1 fun vs H2 => (x :: vs).length = ps.length ∧ R (x :: vs) H2) := by
  refine ⟨fun pins s σ H R I h => ?_⟩
  refine PySem.W.methodCall_KW (pl := pl) (thn (he.run pins s σ H _ I h) fun u s1 ⟨x, H1, I1, rx, ⟨a, C, dx, fs, ex, ea, l, cl, hm, hr⟩, q⟩ => ?_) ht
  subst ex
  obtain rfl : u = Value.ref a := rx
  refine getmeth_ok I1 ea cl hm l ?_
  refine PySem.W.callWith_K (first := [.ref a]) (h₀ := X.base) I.ok.mod.kin hm.kp (thn (ha.run pos pins s1 σ H1 _ I1 q) fun us s2 ⟨vs, H2, I2, r, hl, q2⟩ => ⟨I2.kIn, ?_⟩) hst hpl
  have rv : Vals (V.ref a :: vs) (Value.ref a :: us) := .cons rfl r
  have hl' : (Value.ref a :: us).length = ps.length := by rw [← rv.length]; exact hl
  exact run_gen (us := .ref a :: us) (kw := []) lk hcd S hr I2 (by rw [hb _ hl']; simp) (by simpa using rv) hl q2
theorem pgn_mvK (lk : X.K.lookup f = some ⟨oc, od, .func (PySem.W.fnOf name qual params body scG dV kV doc pm an cdv ct), osl⟩) (hcd : PySem.W.codeIn X.K cdv qual = true) (S : GScope N ps scG)
    (hb : ∀ (u : Value) (ws : List Value), ws.length = ks.length → bindArgs (PySem.W.fnOf name qual params body scG dV kV doc pm an cdv ct) ⟨[u], ks.zip ws⟩ = pure (ps.zip (u :: ws)))
    (he : PE X o to) (hkw : PK X kws ta) (hlen : ps.length = ks.length + 1)
    (hall : (backToKw pos (keywordEach kws X.env)).all (·.1.isSome) = true := by rfl) (hks : (backToKw pos (keywordEach kws X.env)).filterMap (·.1) = ks := by rfl)
    (hpl : ((backTo pos (starEach [] X.env)).any (·.1) || (backToKw pos (keywordEach kws X.env)).any (·.1.isNone)) = false := by rfl)
    (ht : eval (.Call (.Attribute o m apos) [] kws pos) X.env = (do
      let ov ← eval o X.env
      standAt apos.atName
      let (f, first) ← holding [ov] (getMethod ov m pl)
      callWith pos f first (backTo pos (starEach [] X.env)) (backToKw pos (keywordEach kws X.env))) := by rfl) :
    PGn X N qual scG f cdv body (.Call (.Attribute o m apos) [] kws pos) (fun σ H R => to σ H fun x H1 => rGen X k m f x H1 ∧ ta σ H1 fun vs H2 => vs.length = ks.length ∧ R (x :: vs) H2) := by
  refine ⟨fun pins s σ H R I h => ?_⟩
  refine PySem.W.methodCall_KW (pl := pl) (thn (he.run pins s σ H _ I h) fun u s1 ⟨x, H1, I1, rx, ⟨a, C, dx, fs, ex, ea, l, cl, hm, hr⟩, q⟩ => ?_) ht
  subst ex
  obtain rfl : u = Value.ref a := rx
  refine getmeth_ok I1 ea cl hm l ?_
  refine PySem.W.callWith_KW0 (first := [.ref a]) (h₀ := X.base) I.ok.mod.kin hm.kp hall ?_ hpl
  refine thn (hkw.run pos pins s1 σ H1 _ I1 q) fun ws s2 ⟨zs, H2, I2, rz, hl, q2⟩ => ⟨I2.kIn, ?_⟩
  rw [hks]
  have hlw : ws.length = ks.length := by rw [← rz.length]; exact hl
  have e2 : (ks.zip ws).map (·.2) = ws := by
    rw [show (fun x : Str × Value => x.2) = Prod.snd from rfl, List.map_snd_zip]
    omega
  exact run_gen (us := [.ref a]) (kw := ks.zip ws) lk hcd S hr I2 (by rw [hb _ _ hlw, e2]; rfl) (by rw [e2]; exact .cons rfl rz) (by rw [List.length_cons, hl, hlen]) q2
end
end Mp
set_option maxHeartbeats 4000000
/-! Defs by their bodies; evaluation that only makes new objects, its value told by a word of the heap. -/
namespace Mp
open PySem PySem.Spec PyProof.Rows L2
open Evl (Ex Ev EvT EvA RV)

section
variable {w : World} {K : PySem.W.Frag} {mg : Str → Option Value} {base : Heap} {k : Nat} {f : Addr} {x qual : Str} {st : Stmt} {N ps : List Str} {sp : Sp}
/-- a def by its body -/
theorem fr_of (hF : ∃ fd, FunD K x qual (defArgs st) (defBody st) (defScope st) [] [] f fd) (S : FnScope N ps (defScope st)) (len : ∀ vs H Q E, sp vs H Q E → vs.length = ps.length)
    (hb : ∀ (kV doc pm : Value) (an : Option Addr) (cdv ct : Value) (us : List Value), us.length = ps.length → bindArgs (PySem.W.fnOf x qual (defArgs st) (defBody st) (defScope st) .none kV doc pm an cdv ct) ⟨us, []⟩ = pure (ps.zip us))
    (hbody : ∀ (cdv : Value) (A : Around) (outer : List Env) (s : Shared) (H : Hp) (vs : List V) (Q : VK) (E : XK), Room k (A.deeper (envOfC qual (defScope st) s.heap.objs.size f cdv)) → sp vs H Q E →
      ∃ t, PSs (cxOf CX0 RP w K mg base N qual (defScope st) f cdv A outer s H E).nox (defBody st) t ∧ t { nx := fun _ H' => Q .non H', rt := Q } (start N vs) H) : FnR RP w K mg base CX0 (k + 1) f sp := by
  obtain ⟨fd, F⟩ := hF
  have G : FnOk RP w K mg base CX0 (k + 1) f fd ps sp := F.ok S len fun cdv A outer s H vs Q E hr h => by
    obtain ⟨t, ht, hq⟩ := hbody cdv A outer s H vs Q E hr h
    exact ⟨t, ht.nox, hq⟩
  have B : Binds K fd ps [] := F.bindsN hb
  refine (G.raw B .nil).imp fun vs H Q E h => ?_
  show sp (vs ++ []) H Q E
  rw [List.append_nil]
  exact h
theorem fg_of (hg : mg x = some (.ref f)) (hk : PySem.W.keepIn K (.ref f) = true) (F : FnR RP w K mg base CX0 k f sp) : FG RP w K mg base k x sp := ⟨f, hg, hk, F⟩
end

section
variable {X : Cx} {x : Str} {pos : Pos}
theorem pe_gI {i : Int} (h : ∃ t, X.mg x = some (.int i t)) (hg : Gl X x := by rfl) (hd : (x == ("__debug__" : Str)) = false := by decide) : PE X (.Name x pos) (tC (.int i)) := by
  obtain ⟨t, h⟩ := h
  exact pe_glob hg h ⟨t, rfl⟩ hd
theorem pe_gS {z : Str} (h : ∃ t, X.mg x = some (.str z t)) (hg : Gl X x := by rfl) (hd : (x == ("__debug__" : Str)) = false := by decide) : PE X (.Name x pos) (tC (.str z)) := by
  obtain ⟨t, h⟩ := h
  exact pe_glob hg h ⟨t, rfl⟩ hd
theorem pe_gR {a : Addr} (h : X.mg x = some (.ref a)) (hg : Gl X x := by rfl) (hd : (x == ("__debug__" : Str)) = false := by decide) : PE X (.Name x pos) (tC (.ref a)) := pe_glob hg h rfl hd
theorem pe_bt {n : String} (h : X.mg x = none) (hv : bootBuiltins x = some (.type n) := by decide +kernel) (hg : Gl X x := by rfl) (hn : x ≠ "__name__" := by decide) (hd : (x == ("__debug__" : Str)) = false := by decide) : PE X (.Name x pos) (tC (.ty n)) :=
  pe_bltn hg h hv rfl hn hd
end

/-! ### values by a word of the heap -/
def EvP (te : TE) (σ : L2.St) (H : Hp) (P : V → Hp → Prop) : Prop := ∀ H1, Ex H H1 → ∀ Q : VK, (∀ v H2, Ex H1 H2 → P v H2 → Q v H2) → te σ H1 Q
def SpP (sp : Sp) (vs : List V) (H : Hp) (P : V → Hp → Prop) : Prop := ∀ H1, Ex H H1 → ∀ Q : VK, (∀ v H2, Ex H1 H2 → P v H2 → Q v H2) → ∀ E : XK, sp vs H1 Q E
section
variable {te ta tb : TE} {σ : L2.St} {H H' : Hp} {P P' : V → Hp → Prop} {v : V} {D : Ends}
theorem EvP.mono (e : Ex H H') (h : EvP te σ H P) : EvP te σ H' P := fun H1 a Q q => h H1 (e.trans a) Q q
theorem EvP.imp (h : EvP te σ H P) (k : ∀ v H1, Ex H H1 → P v H1 → P' v H1) : EvP te σ H P' := fun H1 a Q q => h H1 a Q fun v H2 e p => q v H2 e (k v H2 (a.trans e) p)
theorem EvP.of (h : Ev te σ H v) (k : ∀ H1, Ex H H1 → P v H1) : EvP te σ H P := fun H1 a Q q => h H1 a Q fun H2 e => q v H2 e (k H2 (a.trans e))
theorem EvP.ev (h : EvP te σ H fun x _ => x = v) : Ev te σ H v := fun H1 a Q q => h H1 a Q fun x H2 e p => by subst p; exact q H2 e
theorem sp_ret (h : EvP te σ H P) (k : ∀ v H1, Ex H H1 → P v H1 → D.rt v H1) : tRet te D σ H := h H (Ex.refl H) _ k
theorem sp_asg {i : Nat} (h : EvP te σ H P) (k : ∀ v H1, Ex H H1 → P v H1 → D.nx (σ.set i (some v)) H1) : tAsg te (gName i) D σ H := h H (Ex.refl H) _ k
end
end Mp
set_option maxHeartbeats 4000000
/-! The plain law: deeds, rows, their words and texts. No program here. -/
namespace Mp
open PySem

/-- the text of a number -/
def nS (n : Nat) : Str := Str.ofString (toString (n : Int))
theorem nS_inj : ∀ m, m < 24 → ∀ n, n < 24 → nS m = nS n → m = n := by decide +kernel
theorem nS_len : ∀ m, m < 24 → (nS m).length ≤ 2 := by decide +kernel
theorem nS_int : ∀ m, m < 24 → PySem.intText? (nS m) = some (m : Int) := by decide +kernel

inductive Dd where
  | take (b : Nat) | put (b : Nat) | out (b : Nat) | clear (b : Nat) | send (b n : Nat) | move (b t : Nat) | answer (n : Nat)
  deriving DecidableEq, Repr
namespace Dd
def ok : Dd → Bool
  | take b | put b | out b | clear b => decide (b ≤ 2)
  | send b n => decide (b ≤ 2) && decide (n ≤ 5)
  | move b t => decide (b ≤ 2) && (decide (t ≤ 2) && decide (t ≠ b))
  | answer n => decide (n ≤ 5)
def verb : Dd → Str
  | take _ => "take" | put _ => "put" | out _ => "out" | clear _ => "clear" | send _ _ => "send" | move _ _ => "move" | answer _ => "answer"
def cls : Dd → Str
  | take _ => "Take" | put _ => "Put" | out _ => "Out" | clear _ => "Clear" | send _ _ => "Send" | move _ _ => "Move" | answer _ => "Answer"
def args : Dd → List Nat
  | take b | put b | out b | clear b => [b]
  | send b n => [b, n]
  | move b t => [b, t]
  | answer n => [n]
def isTake : Dd → Bool
  | take _ => true
  | _ => false
def isPut : Dd → Bool
  | put _ => true
  | _ => false
/-- the sides that may do it -/
def sides : Dd → List Str
  | take _ | send _ _ => ["sender"]
  | put _ | out _ | answer _ => ["receiver"]
  | move _ _ | clear _ => ["sender", "receiver"]
def forS (d : Dd) (side : Str) : Bool := d.sides.contains side
def words (d : Dd) : List Str := d.verb :: d.args.map nS
def txt (d : Dd) : Str := Str.join " " d.words
/-- all deeds -/
def all : List Dd := (List.range 3).flatMap (fun b => [take b, put b, out b, clear b] ++ (List.range 6).map (send b) ++ (List.range 3).map (move b)) ++ (List.range 6).map answer
theorem mem_all {d : Dd} (h : d.ok = true) : d ∈ all := by
  unfold all
  cases d with
  | answer n => exact List.mem_append_right _ (List.mem_map.mpr ⟨n, by simp only [ok, decide_eq_true_eq] at h; simp; omega, rfl⟩)
  | send b n =>
    simp only [ok, Bool.and_eq_true, decide_eq_true_eq] at h
    refine List.mem_append_left _ (List.mem_flatMap.mpr ⟨b, by simp; omega, ?_⟩)
    exact List.mem_append_left _ (List.mem_append_right _ (List.mem_map.mpr ⟨n, by simp; omega, rfl⟩))
  | move b t =>
    simp only [ok, Bool.and_eq_true, decide_eq_true_eq] at h
    refine List.mem_append_left _ (List.mem_flatMap.mpr ⟨b, by simp; omega, ?_⟩)
    exact List.mem_append_right _ (List.mem_map.mpr ⟨t, by simp; omega, rfl⟩)
  | take b => exact List.mem_append_left _ (List.mem_flatMap.mpr ⟨b, by simp only [ok, decide_eq_true_eq] at h; simp; omega, by simp⟩)
  | put b => exact List.mem_append_left _ (List.mem_flatMap.mpr ⟨b, by simp only [ok, decide_eq_true_eq] at h; simp; omega, by simp⟩)
  | out b => exact List.mem_append_left _ (List.mem_flatMap.mpr ⟨b, by simp only [ok, decide_eq_true_eq] at h; simp; omega, by simp⟩)
  | clear b => exact List.mem_append_left _ (List.mem_flatMap.mpr ⟨b, by simp only [ok, decide_eq_true_eq] at h; simp; omega, by simp⟩)
theorem txt_inj {d e : Dd} (hd : d.ok = true) (he : e.ok = true) (h : d.txt = e.txt) : d = e :=
  (by decide +kernel : ∀ d ∈ all, ∀ e ∈ all, d.txt = e.txt → d = e) d (mem_all hd) e (mem_all he) h
theorem txt_len {d : Dd} (hd : d.ok = true) : d.txt.length ≤ 10 := (by decide +kernel : ∀ d ∈ all, d.txt.length ≤ 10) d (mem_all hd)
/-- no comma, no colon .. within a deed's text -/
theorem txt_signs {d : Dd} (hd : d.ok = true) : ∀ c ∈ d.txt.cps.toList, c ≠ 44 := (by decide +kernel : ∀ d ∈ all, ∀ c ∈ d.txt.cps.toList, c ≠ 44) d (mem_all hd)
theorem words_signs {d : Dd} (hd : d.ok = true) : ∀ w ∈ d.words, 32 ∉ TL.tl w := (by decide +kernel : ∀ d ∈ all, ∀ w ∈ d.words, 32 ∉ TL.tl w) d (mem_all hd)
theorem words_ne (d : Dd) : d.words ≠ [] := by simp [words]
end Dd

/-- words with the word z between -/
def gluedW (z : Str) : List (List Str) → List Str
  | [] => []
  | [w] => w
  | w :: v :: r => w ++ z :: gluedW z (v :: r)

/-- a row: hear: none: None; some none: 'other' -/
structure Rw where
  state : Nat
  hear : Option (Option Nat)
  empty : List Nat
  full : List Nat
  deeds : List Dd
  thn : Nat
  deriving DecidableEq, Repr
def boxSets : List (List Nat) := [[], [0], [1], [2], [0, 1], [0, 2], [1, 2], [0, 1, 2]]
namespace Rw
structure Ok (r : Rw) (side : Str) : Prop where
  state : r.state ≤ 23
  hear : ∀ n, r.hear = some (some n) → n ≤ 5
  empty : r.empty ∈ boxSets
  full : r.full ∈ boxSets
  apart : ∀ b ∈ r.full, b ∉ r.empty
  len : r.deeds.length ≤ 8
  deeds : ∀ d ∈ r.deeds, d.ok = true ∧ d.forS side = true
  takes : (r.deeds.filter Dd.isTake).length ≤ 1
  puts : r.hear = none → ∀ d ∈ r.deeds, d.isPut = false
  thn : r.thn ≤ 23
def hearS : Option Nat → Str
  | none => "other"
  | some n => nS n
def hearW (r : Rw) : List Str := match r.hear with
  | none => []
  | some h => ["hear", hearS h]
def boxW (z : Str) : List Nat → List Str
  | [] => []
  | b :: bs => z :: (b :: bs).map nS
def deedsW (ds : List Dd) : List Str := match ds with
  | [] => [("-" : Str)]
  | _ => gluedW "," (ds.map Dd.words)
def words (r : Rw) : List Str := nS r.state :: (r.hearW ++ (boxW "empty" r.empty ++ (boxW "full" r.full ++ (":" : Str) :: (deedsW r.deeds ++ [(">" : Str), nS r.thn]))))
def txt (r : Rw) : Str := Str.join " " r.words
/-- what makes the key's second place -/
def rank (r : Rw) : Int := match r.hear with
  | none => -1
  | some none => 6
  | some (some n) => n
def deedsT (ds : List Dd) : Str := match ds with
  | [] => "-"
  | _ => Str.join " , " (ds.map Dd.txt)
theorem words_ne (r : Rw) : r.words ≠ [] := by simp [words]
end Rw
/-- a page of rows -/
def pageW (rs : List Rw) : List Str := match rs with
  | [] => [("-" : Str)]
  | _ => gluedW ";" (rs.map Rw.words)
def pageT (rs : List Rw) : Str := match rs with
  | [] => "-"
  | _ => Str.join " ; " (rs.map Rw.txt)

/-! ### joins -/
theorem join_app (z : Str) : ∀ {xs ys : List Str}, xs ≠ [] → ys ≠ [] → Str.join z (xs ++ ys) = Str.join z xs ++ z ++ Str.join z ys
  | [], _, h, _ => absurd rfl h
  | [x], y :: r, _, _ => rfl
  | [x], [], _, h => absurd rfl h
  | x :: x' :: r, ys, _, h => by
    have ih := join_app z (xs := x' :: r) (ys := ys) (by simp) h
    show x ++ z ++ Str.join z ((x' :: r) ++ ys) = (x ++ z ++ Str.join z (x' :: r)) ++ z ++ Str.join z ys
    rw [ih]
    simp only [Str.append_assoc]
theorem join_cons (z x : Str) {ys : List Str} (h : ys ≠ []) : Str.join z (x :: ys) = x ++ z ++ Str.join z ys := join_app z (xs := [x]) (by simp) h
theorem gluedW_ne {z : Str} : ∀ {ws : List (List Str)}, ws ≠ [] → (∀ w ∈ ws, w ≠ []) → gluedW z ws ≠ []
  | [], h, _ => absurd rfl h
  | [w], _, h => h w List.mem_cons_self
  | w :: v :: r, _, _ => by simp [gluedW]
theorem glued_join {z s : Str} (hs : s = " " ++ (z ++ " ")) : ∀ {ws : List (List Str)}, ws ≠ [] → (∀ w ∈ ws, w ≠ []) → Str.join s (ws.map (Str.join " ")) = Str.join " " (gluedW z ws)
  | [], h, _ => absurd rfl h
  | [w], _, _ => rfl
  | w :: v :: r, _, h => by
    have ih := glued_join hs (ws := v :: r) (by simp) fun x hx => h x (List.mem_cons_of_mem _ hx)
    show Str.join s (Str.join " " w :: (v :: r).map (Str.join " ")) = Str.join " " (w ++ z :: gluedW z (v :: r))
    rw [join_cons s _ (by simp), ih, join_app " " (h w List.mem_cons_self) (by simp), join_cons " " z (gluedW_ne (by simp) fun x hx => h x (List.mem_cons_of_mem _ hx)), hs]
    simp only [Str.append_assoc]
theorem deedsW_ne (ds : List Dd) : Rw.deedsW ds ≠ [] := by
  cases ds with
  | nil => simp [Rw.deedsW]
  | cons d r =>
    exact gluedW_ne (by simp) fun w hw => by
      obtain ⟨e, _, rfl⟩ := List.mem_map.mp hw
      exact e.words_ne
theorem deedsT_eq (ds : List Dd) : Rw.deedsT ds = Str.join " " (Rw.deedsW ds) := by
  cases ds with
  | nil => rfl
  | cons d r =>
    have z := glued_join (z := ",") (s := " , ") (by decide +kernel) (ws := (d :: r).map Dd.words) (by simp) fun w hw => by
      obtain ⟨e, _, rfl⟩ := List.mem_map.mp hw
      exact e.words_ne
    rw [List.map_map] at z
    exact z
theorem pageT_eq (rs : List Rw) : pageT rs = Str.join " " (pageW rs) := by
  cases rs with
  | nil => rfl
  | cons d r =>
    have z := glued_join (z := ";") (s := " ; ") (by decide +kernel) (ws := (d :: r).map Rw.words) (by simp) fun w hw => by
      obtain ⟨e, _, rfl⟩ := List.mem_map.mp hw
      exact e.words_ne
    rw [List.map_map] at z
    exact z
/-! ### split again -/
theorem split_words {ws : List Str} (hne : ws ≠ []) (h : ∀ w ∈ ws, 32 ∉ TL.tl w) : Txt.split (Str.join " " ws) " " = ws := by
  rw [← TL.join_eq]
  exact TL.split_join (s := 32) (S := []) (by decide +kernel) (by decide +kernel) hne h
theorem nS_signs : ∀ n, n < 24 → 32 ∉ TL.tl (nS n) := by decide +kernel
theorem gluedW_all {z : Str} {P : Str → Prop} (hz : P z) : ∀ {ws : List (List Str)}, (∀ w ∈ ws, ∀ x ∈ w, P x) → ∀ x ∈ gluedW z ws, P x
  | [], _, x, hx => by simp [gluedW] at hx
  | [w], h, x, hx => h w List.mem_cons_self x hx
  | w :: v :: r, h, x, hx => by
    rcases List.mem_append.mp hx with hx | hx
    · exact h w List.mem_cons_self x hx
    · rcases List.mem_cons.mp hx with rfl | hx
      · exact hz
      · exact gluedW_all hz (fun y hy => h y (List.mem_cons_of_mem _ hy)) x hx
theorem boxSets_le : ∀ s ∈ boxSets, ∀ b ∈ s, b ≤ 2 := by decide +kernel
theorem Rw.words_signs {r : Rw} {side : Str} (h : r.Ok side) : ∀ w ∈ r.words, 32 ∉ TL.tl w := by
  have box : ∀ (z : Str) (s : List Nat), 32 ∉ TL.tl z → s ∈ boxSets → ∀ w ∈ Rw.boxW z s, 32 ∉ TL.tl w := fun z s hz hs w hw => by
    cases s with
    | nil => simp [Rw.boxW] at hw
    | cons b bs =>
      rcases List.mem_cons.mp hw with rfl | hw
      · exact hz
      · obtain ⟨n, hn, rfl⟩ := List.mem_map.mp hw
        exact nS_signs n (by have := boxSets_le _ hs n hn; omega)
  intro w hw
  rcases List.mem_cons.mp hw with rfl | hw
  · exact nS_signs _ (by have := h.state; omega)
  rcases List.mem_append.mp hw with hw | hw
  · unfold Rw.hearW at hw
    cases e : r.hear with
    | none => rw [e] at hw; cases hw
    | some x =>
      rw [e] at hw
      simp only [List.mem_cons, List.not_mem_nil, or_false] at hw
      rcases hw with rfl | rfl
      · decide +kernel
      · cases x with
        | none => decide +kernel
        | some n => exact nS_signs n (by have := h.hear n e; omega)
  rcases List.mem_append.mp hw with hw | hw
  · exact box _ _ (by decide +kernel) h.empty w hw
  rcases List.mem_append.mp hw with hw | hw
  · exact box _ _ (by decide +kernel) h.full w hw
  rcases List.mem_cons.mp hw with rfl | hw
  · decide +kernel
  rcases List.mem_append.mp hw with hw | hw
  · unfold Rw.deedsW at hw
    split at hw
    · simp only [List.mem_cons, List.not_mem_nil, or_false] at hw
      subst hw
      decide +kernel
    · refine gluedW_all (P := fun w => 32 ∉ TL.tl w) (by decide +kernel) (fun x hx y hy => ?_) w hw
      obtain ⟨d, hd, rfl⟩ := List.mem_map.mp hx
      exact Dd.words_signs (h.deeds d hd).1 y hy
  · simp only [List.mem_cons, List.not_mem_nil, or_false] at hw
    rcases hw with rfl | rfl
    · decide +kernel
    · exact nS_signs _ (by have := h.thn; omega)
theorem pageW_ne (rs : List Rw) : pageW rs ≠ [] := by
  cases rs with
  | nil => simp [pageW]
  | cons d r =>
    exact gluedW_ne (by simp) fun w hw => by
      obtain ⟨e, _, rfl⟩ := List.mem_map.mp hw
      exact e.words_ne
theorem split_page {rs : List Rw} {side : Str} (h : ∀ r ∈ rs, r.Ok side) : Txt.split (pageT rs) " " = pageW rs := by
  rw [pageT_eq]
  refine split_words (pageW_ne rs) fun w hw => ?_
  unfold pageW at hw
  split at hw
  · simp only [List.mem_cons, List.not_mem_nil, or_false] at hw
    subst hw
    decide +kernel
  · refine gluedW_all (P := fun w => 32 ∉ TL.tl w) (by decide +kernel) (fun x hx y hy => ?_) w hw
    obtain ⟨d, hd, rfl⟩ := List.mem_map.mp hx
    exact Rw.words_signs (h d hd) y hy
theorem split_row {r : Rw} {side : Str} (h : r.Ok side) : Txt.split r.txt " " = r.words := split_words r.words_ne (Rw.words_signs h)
end Mp
set_option maxHeartbeats 4000000
/-! Evaluation lemmas: comprehensions over any walk, calls by promise, fields, texts of parts. -/
namespace Mp
open PySem PySem.Spec PyProof.Rows L2
open Evl (Ex Ev EvL EvU EvT EvA RV SpV given given_yes given_no given_len fresh_back)

section
variable {σ : L2.St} {H H' : Hp} {te ta tb : TE} {v x : V} {D : Ends}
/-- all but the list at D stays -/
def ExB (D : Addr) (H H' : Hp) : Prop := ∀ b o, b ≠ D → H b = some o → H' b = some o
/-- a word of values that a growing heap keeps, the list at D apart -/
def MonoV (P : V → Hp → Prop) : Prop := ∀ y D xs H H', H D = some (.lst xs) → ExB D H H' → P y H → P y H'
theorem MonoV.eq {v : V} : MonoV fun y _ => y = v := fun _ _ _ _ _ _ _ h => h
/-- a new list of values, each by its word -/
def EvLP (te : TE) (σ : L2.St) (H : Hp) (R : List V → Hp → Prop) : Prop := ∀ H1, Ex H H1 → ∀ Q : VK, (∀ p ys H2, H1 p = none → Ex H1 H2 → H2 p = some (.lst ys) → R ys H2 → Q (.ref p) H2) → te σ H1 Q
theorem EvLP.toP {R : List V → Hp → Prop} (h : EvLP te σ H R) : EvP te σ H fun v H' => ∃ p ys, v = .ref p ∧ H' p = some (.lst ys) ∧ R ys H' := fun H1 e Q q => h H1 e Q fun p ys H2 _ e2 hp r => q _ H2 e2 ⟨p, ys, rfl, hp, r⟩
theorem EvLP.toL {ys : List V} (h : EvLP te σ H fun zs _ => zs = ys) : EvL te σ H ys := fun H1 e Q q => h H1 e Q fun p zs H2 n e2 hp r => by subst r; exact q p H2 n e2 hp
def Each (P : Nat → V → Hp → Prop) (H : Hp) (is : List Nat) (ys : List V) : Prop := Paired (fun i y => P i y H) is ys
theorem el_lcP {wi : TI} {g : TG} {tt : TT} {vs : List Nat} {J : It} (n : Nat) (f : Nat → Bool) (P : Nat → V → Hp → Prop) (hP : ∀ i, MonoV (P i)) (hn : n ≤ 40000)
    (hwi : ∀ H1, Ex H H1 → ∀ R : It → Hp → Prop, (∀ H2, Ex H1 H2 → R J H2) → wi σ H1 R) (go : ∀ i H1, Ex H H1 → i < n → J.go i H1) (stop : ∀ H1, Ex H H1 → J.stop n H1)
    (turn : ∀ i x H1 H2, Ex H H1 → i < n → J.yld i H1 x H2 → Ex H1 H2 ∧ ∃ σ2, wipe σ2 vs = wipe σ vs ∧ (∀ Q : L2.St → Hp → Prop, (∀ H3, Ex H2 H3 → Q σ2 H3) → g x (wipe σ vs) H2 Q) ∧ EvT tt σ2 H2 (f i) ∧ (f i = true → EvP te σ2 H2 (P i))) :
    EvLP (tLc wi g tt te vs) σ H fun ys H2 => Each P H2 ((List.range n).filter f) ys := by
  intro H0 e0 Q q
  refine hwi H0 e0 _ fun H1 e1 => ?_
  intro Dl hD
  have hD0 : H0 Dl = none := fresh_back e1 hD
  refine ⟨fun i m H' => m = n - i ∧ i ≤ n ∧ Ex H0 H' ∧ ∃ ys, H' Dl = some (.lst ys) ∧ Each P H' ((List.range i).filter f) ys ∧ ys.length ≤ i, ⟨n, rfl, Nat.zero_le _, e1.trans (Ex.new hD), [], upd_same, .nil, Nat.le_refl _⟩, ?_⟩
  rintro i m H' ⟨rfl, hi, ex, ys, hy, ey, ly⟩
  by_cases hlt : i < n
  · refine .inr ⟨go i H' (e0.trans ex) hlt, fun H'' => i + 1 ≤ n ∧ Ex H0 H'' ∧ ∃ ys, H'' Dl = some (.lst ys) ∧ Each P H'' ((List.range (i + 1)).filter f) ys ∧ ys.length ≤ i + 1, fun H'' w => ⟨n - (i + 1), by omega, rfl, w⟩, fun x H2 hyl => ?_⟩
    obtain ⟨e2, σ2, hw, hg, ht, he⟩ := turn i x H' H2 (e0.trans ex) hlt hyl
    refine hg _ fun H3 e3 => ⟨hw, ?_⟩
    refine ht H3 e3 _ fun H4 e4 => ?_
    have ex4 : Ex H' H4 := (e2.trans e3).trans e4
    have hy4 : H4 Dl = some (.lst ys) := ex4 _ _ hy
    have ey4 : Each P H4 ((List.range i).filter f) ys := L2.Paired.mapP ey fun j y p => hP j y Dl ys H' H4 hy (fun b o _ z => ex4 b o z) p
    have er : (List.range (i + 1)).filter f = (List.range i).filter f ++ (if f i = true then [i] else []) := by
      rw [List.range_succ, List.filter_append, List.filter_cons]
      split <;> rfl
    cases hf : f i with
    | true =>
      show te σ2 H4 _
      refine he hf H4 (e3.trans e4) _ fun y H5 e5 py => ?_
      have hy5 : H5 Dl = some (.lst ys) := e5 _ _ hy4
      refine ⟨ys, hy5, Evl.sz_lt (by omega), hlt, Ex.mut ((ex.trans ex4).trans e5) hD0, ys ++ [y], upd_same, ?_, by rw [List.length_append, List.length_singleton]; omega⟩
      have xb : ExB Dl H5 (upd H5 Dl (.lst (ys ++ [y]))) := fun b o hb z => by rw [upd_ne hb]; exact z
      rw [er, if_pos hf]
      have a1 : Each P (upd H5 Dl (.lst (ys ++ [y]))) ((List.range i).filter f) ys := L2.Paired.mapP ey4 fun j z p => hP j z Dl ys H5 _ hy5 xb (hP j z Dl ys H4 H5 hy4 (fun b o _ w => e5 b o w) p)
      exact PySem.Paired.snoc a1 (hP i y Dl ys H5 _ hy5 xb py)
    | false =>
      refine ⟨hlt, ex.trans ex4, ys, hy4, ?_, by omega⟩
      rw [er, hf]
      simpa using ey4
  · have e : i = n := by omega
    subst e
    exact .inl ⟨stop H' (e0.trans ex), q Dl ys H' hD0 ex hy ey⟩
theorem el_lcG {wi : TI} {g : TG} {tt : TT} {vs : List Nat} {J : It} (n : Nat) (f : Nat → Bool) (u : Nat → V) (hn : n ≤ 40000)
    (hwi : ∀ H1, Ex H H1 → ∀ R : It → Hp → Prop, (∀ H2, Ex H1 H2 → R J H2) → wi σ H1 R) (go : ∀ i H1, Ex H H1 → i < n → J.go i H1) (stop : ∀ H1, Ex H H1 → J.stop n H1)
    (turn : ∀ i x H1 H2, Ex H H1 → i < n → J.yld i H1 x H2 → Ex H1 H2 ∧ ∃ σ2, wipe σ2 vs = wipe σ vs ∧ (∀ Q : L2.St → Hp → Prop, (∀ H3, Ex H2 H3 → Q σ2 H3) → g x (wipe σ vs) H2 Q) ∧ EvT tt σ2 H2 (f i) ∧ (f i = true → Ev te σ2 H2 (u i))) :
    EvL (tLc wi g tt te vs) σ H (given n f u) := by
  refine EvLP.toL fun H1 e Q q => el_lcP n f (fun i y _ => y = u i) (fun i => MonoV.eq) hn hwi go stop (fun i x H1 H2 e hi hy => ?_) H1 e Q fun p ys H2 a b c d => q p ys H2 a b c ?_
  · obtain ⟨e2, σ2, a1, a2, a3, a4⟩ := turn i x H1 H2 e hi hy
    exact ⟨e2, σ2, a1, a2, a3, fun hf => EvP.of (a4 hf) fun _ _ => rfl⟩
  · have key : ∀ {is : List Nat} {ys : List V}, Paired (fun i y => y = u i) is ys → ys = is.map u := fun {is ys} h => by
      induction h with
      | nil => rfl
      | cons e _ ih => rw [List.map_cons, e, ih]
    exact key d
/-- over a tuple, one name -/
theorem el_lcT {K : PySem.W.Frag} {a : Addr} {xs : List V} {tl : TE} {tt : TT} {j : Nat} {vs : List Nat} (f : Nat → Bool) (u : Nat → V) (h : Ev tl σ H (.ref a)) (hx : SqT K H a xs) (hz : xs.length ≤ 40000) (hw : ∀ x, wipe ((wipe σ vs).set j (some x)) vs = wipe σ vs)
    (turn : ∀ (i : Nat) (x : V) H1, Ex H H1 → xs[i]? = some x → EvT tt ((wipe σ vs).set j (some x)) H1 (f i) ∧ (f i = true → Ev te ((wipe σ vs).set j (some x)) H1 (u i))) :
    EvL (tLc (iTup K tl) (gName j) tt te vs) σ H (given xs.length f u) :=
  el_lcG xs.length f u hz (J := Itt K a) (fun H1 e R r => h H1 e _ fun H2 e2 => ⟨a, rfl, ⟨xs, Evl.ex_t (e.trans e2) hx⟩, r H2 e2⟩)
    (fun i H1 e hi => ⟨xs, xs[i], Evl.ex_t e hx, List.getElem?_eq_getElem hi⟩) (fun H1 e => ⟨xs, Evl.ex_t e hx, Nat.le_refl _⟩) fun i x H1 H2 e hi hy => by
      obtain ⟨rfl, hy⟩ := hy
      have hxi := hy xs (Evl.ex_t e hx)
      obtain ⟨t1, t2⟩ := turn i x _ e hxi
      exact ⟨Ex.refl _, _, hw x, fun Q q => q _ (Ex.refl _), t1, t2⟩
/-- [.. for x in o], o walked by its own __iter__ -/
theorem el_lcO {X : Cx} {x : Str} {a C dx t : Addr} {fs : List (Str × V)} {xs : List V} {k : Nat} {tl : TE} {tt : TT} {j : Nat} {vs : List Nat} (f : Nat → Bool) (u : Nat → V) (h : Ev tl σ H (.ref a)) (ha : H a = some (.ins C dx fs)) (hf : fs.lookup x = some (.ref t)) (hx : SqT X.K H t xs) (hI : ItF X.prog X.w X.K X.mg X.base k C x) (hr : Room k X.A)
    (hz : xs.length ≤ 40000) (hw : ∀ x, wipe ((wipe σ vs).set j (some x)) vs = wipe σ vs)
    (turn : ∀ (i : Nat) (x : V) H1, Ex H H1 → xs[i]? = some x → EvT tt ((wipe σ vs).set j (some x)) H1 (f i) ∧ (f i = true → Ev te ((wipe σ vs).set j (some x)) H1 (u i))) :
    EvL (tLc (iOwn X x tl) (gName j) tt te vs) σ H (given xs.length f u) :=
  el_lcG xs.length f u hz (J := Itt X.K t) (fun H1 e R r => h H1 e _ fun H2 e2 => ⟨a, C, dx, t, fs, xs, k, rfl, (e.trans e2) _ _ ha, hf, Evl.ex_t (e.trans e2) hx, hI, hr, r H2 e2⟩)
    (fun i H1 e hi => ⟨xs, xs[i], Evl.ex_t e hx, List.getElem?_eq_getElem hi⟩) (fun H1 e => ⟨xs, Evl.ex_t e hx, Nat.le_refl _⟩) fun i x H1 H2 e hi hy => by
      obtain ⟨rfl, hy⟩ := hy
      have hxi := hy xs (Evl.ex_t e hx)
      obtain ⟨t1, t2⟩ := turn i x _ e hxi
      exact ⟨Ex.refl _, _, hw x, fun Q q => q _ (Ex.refl _), t1, t2⟩

/-! ### calls by promise -/
theorem ev_g {ta : TA} {vs : List V} {sp : Sp} {E : XK} (h : EvA ta σ H vs) (hs : SpV sp vs H v) : Ev (fun σ H Q => ta σ H fun vs H1 => sp vs H1 Q E) σ H v := fun H1 e Q q => h H1 e _ fun H2 e2 => hs H2 (e.trans e2) Q (fun H3 e3 => q H3 (e2.trans e3)) E
theorem ep_g {ta : TA} {vs : List V} {sp : Sp} {E : XK} {P : V → Hp → Prop} (h : EvA ta σ H vs) (hs : SpP sp vs H P) : EvP (fun σ H Q => ta σ H fun vs H1 => sp vs H1 Q E) σ H P := fun H1 e Q q => h H1 e _ fun H2 e2 => hs H2 (e.trans e2) Q (fun v H3 e3 p => q v H3 (e2.trans e3) p) E
section
variable {X : Cx} {m : Str} {a C dx : Addr} {fs : List (Str × V)} {n : Nat} {sp : Sp}
theorem ev_mv0 (h : Ev ta σ H (.ref a)) (ha : H a = some (.ins C dx fs)) (hl : fs.lookup m = none) (G : MG X.prog X.w X.K X.mg X.base n C m sp) (hr : Room n X.A) (hs : SpV sp [.ref a] H v) :
    Ev (fun σ H Q => ta σ H fun x H1 => rMet X m x H1 fun sp => sp [x] H1 Q E0) σ H v := fun H1 e Q q => h H1 e _ fun H2 e2 =>
  ⟨a, C, dx, fs, n, sp, rfl, (e.trans e2) _ _ ha, hl, G, hr, hs H2 (e.trans e2) Q (fun H3 e3 => q H3 (e2.trans e3)) E0⟩
theorem ep_mv0 {P : V → Hp → Prop} (h : Ev ta σ H (.ref a)) (ha : H a = some (.ins C dx fs)) (hl : fs.lookup m = none) (G : MG X.prog X.w X.K X.mg X.base n C m sp) (hr : Room n X.A) (hs : SpP sp [.ref a] H P) :
    EvP (fun σ H Q => ta σ H fun x H1 => rMet X m x H1 fun sp => sp [x] H1 Q E0) σ H P := fun H1 e Q q => h H1 e _ fun H2 e2 =>
  ⟨a, C, dx, fs, n, sp, rfl, (e.trans e2) _ _ ha, hl, G, hr, hs H2 (e.trans e2) Q (fun v H3 e3 p => q v H3 (e2.trans e3) p) E0⟩
theorem ev_mv {t : TA} {vs : List V} (h : Ev ta σ H (.ref a)) (ha : H a = some (.ins C dx fs)) (hl : fs.lookup m = none) (G : MG X.prog X.w X.K X.mg X.base n C m sp) (hr : Room n X.A) (hv : EvA t σ H vs) (hs : SpV sp (.ref a :: vs) H v) :
    Ev (fun σ H Q => ta σ H fun x H1 => rMet X m x H1 fun sp => t σ H1 fun vs H2 => sp (x :: vs) H2 Q E0) σ H v := fun H1 e Q q => h H1 e _ fun H2 e2 =>
  ⟨a, C, dx, fs, n, sp, rfl, (e.trans e2) _ _ ha, hl, G, hr, hv H2 (e.trans e2) _ fun H3 e3 => hs H3 ((e.trans e2).trans e3) Q (fun H4 e4 => q H4 ((e2.trans e3).trans e4)) E0⟩
/-- str(x) of an own instance -/
theorem ev_strO (h : Ev ta σ H (.ref a)) (ha : H a = some (.ins C dx fs)) (G : OG X.prog X.w X.K X.mg X.base n C "__str__" sp) (hr : Room (n + 2) X.A) {z : Str} (hs : SpV sp [.ref a] H (.str z)) : Ev (tCB (rStrO X) (tCons ta tNil)) σ H (.str z) :=
  Evl.ev_cb (Evl.ea_cons h Evl.ea_nil) fun H1 e Q q => ⟨a, C, dx, fs, n, sp, rfl, e _ _ ha, G, hr, hs H1 e _ (fun H2 e2 => ⟨⟨z, rfl⟩, q H2 e2⟩) E0⟩
/-- o.f -/
theorem ev_fld {K : PySem.W.Frag} {f : Str} (h : Ev ta σ H (.ref a)) (ha : H a = some (.ins C dx fs)) (c : Cls K C) (nf : NoAttr K C f) (hf : fs.lookup f = some v) : Ev (tFld K ta f) σ H v := fun H1 e Q q => h H1 e _ fun H2 e2 =>
  ⟨a, C, dx, fs, v, rfl, (e.trans e2) _ _ ha, c, nf, hf, q H2 e2⟩
end
/-! ### f'..' -/
inductive EvJ (σ : L2.St) (H : Hp) : List TE → List Str → Prop
  | nil : EvJ σ H [] []
  | cons {t : TE} {y : Str} {ts : List TE} {ys : List Str} (h : Ev t σ H (.str y)) (r : EvJ σ H ts ys) : EvJ σ H (t :: ts) (y :: ys)
theorem tJs_ev {ts : List TE} {ys : List Str} (h : EvJ σ H ts ys) : ∀ (acc : Str), acc.length + (ys.map (·.length)).sum ≤ 100000 → ∀ H1, Ex H H1 → ∀ Q : Str → Hp → Prop, (∀ H2, Ex H1 H2 → Q (ys.foldl (· ++ ·) acc) H2) → tJs ts acc σ H1 Q := by
  induction h with
  | nil => exact fun acc _ H1 _ Q q => q H1 (Ex.refl H1)
  | @cons t y ts ys h r ih =>
    intro acc hz H1 e Q q
    simp only [List.map_cons, List.sum_cons] at hz
    have hl : (acc ++ y).length = acc.length + y.length := Str.length_append acc y
    exact h H1 e _ fun H2 e2 => ⟨y, rfl, Evl.sz_of (by omega), ih (acc ++ y) (by omega) H2 (e.trans e2) Q fun H3 e3 => q H3 (e2.trans e3)⟩
theorem ev_js {ts : List TE} {ys : List Str} (h : EvJ σ H ts ys) (hz : (ys.map (·.length)).sum ≤ 100000) : Ev (fun σ H Q => tJs ts Str.empty σ H fun out H1 => Q (.str out) H1) σ H (.str (ys.foldl (· ++ ·) Str.empty)) := fun H1 e Q q =>
  tJs_ev h Str.empty (by have : Str.empty.length = 0 := rfl; omega) H1 e _ q
theorem ev_fmtI {i : Nat} (h : Ev te σ H (.int (i : Int))) (hi : i < 24) : Ev (tFmt te) σ H (.str (nS i)) := fun H1 e Q q => h H1 e _ fun H2 e2 => .inr ⟨(i : Int), rfl, by
  have : (i : Int).natAbs = i := Int.natAbs_natCast i
  rw [this]
  exact Nat.lt_of_le_of_lt (Nat.log2_le_self i) (by omega), q H2 e2⟩
theorem ev_fmtS {z : Str} (h : Ev te σ H (.str z)) (hz : z.length ≤ 100000) : Ev (tFmt te) σ H (.str z) := fun H1 e Q q => h H1 e _ fun H2 e2 => .inl ⟨z, rfl, Evl.sz_of hz, q H2 e2⟩
end
end Mp
set_option maxHeartbeats 4000000
/-! Defs: checks. -/
namespace Mp
open PySem PySem.Spec PyProof.Rows L2
open Evl (Ex Ev EvT EvA RV SpV)

/-- what a value that the checks are asked about is -/
inductive Pl (H : Hp) : V → Prop
  | non : Pl H .non
  | bl (b : Bool) : Pl H (.bl b)
  | int (i : Int) : Pl H (.int i)
  | str (z : Str) : Pl H (.str z)
  | tup (a : Addr) (xs : List V) (h : H a = some (.tup xs)) : Pl H (.ref a)
theorem Pl.ex {H H' : Hp} {v : V} (e : Ex H H') (p : Pl H v) : Pl H' v := by
  cases p with
  | non => exact .non
  | bl b => exact .bl b
  | int i => exact .int i
  | str z => exact .str z
  | tup a xs h => exact .tup a xs (e _ _ h)
def isIntV : V → Bool
  | .int _ => true
  | _ => false
/-- isinstance(x, T), T built-in -/
def plIs : V → String → Bool
  | .non, n => n == "NoneType"
  | .bl _, n => n == "bool" || n == "int"
  | .int _, n => n == "int"
  | .str _, n => n == "str"
  | .ref _, n => n == "tuple"
  | _, _ => false
section
variable {K : PySem.W.Frag} {σ : L2.St} {H : Hp} {te : TE} {v : V}
theorem Pl.ty {v : V} (p : Pl H v) : ∃ t, TyX K H v (.type t) ∧ (t = "NoneType" ∨ t = "bool" ∨ t = "int" ∨ t = "str" ∨ t = "tuple") ∧ (∀ n, n = "int" ∨ n = "bool" ∨ n = "str" ∨ n = "tuple" → L2.kitB t n = some (plIs v n)) := by
  cases p with
  | non => exact ⟨_, .base .non, .inl rfl, fun n h => by rcases h with rfl | rfl | rfl | rfl <;> decide +kernel⟩
  | bl b => exact ⟨_, .base (.bl b), .inr (.inl rfl), fun n h => by rcases h with rfl | rfl | rfl | rfl <;> (simp only [plIs]; decide +kernel)⟩
  | int i => exact ⟨_, .base (.int i), .inr (.inr (.inl rfl)), fun n h => by rcases h with rfl | rfl | rfl | rfl <;> (simp only [plIs]; decide +kernel)⟩
  | str z => exact ⟨_, .base (.str z), .inr (.inr (.inr (.inl rfl))), fun n h => by rcases h with rfl | rfl | rfl | rfl <;> (simp only [plIs]; decide +kernel)⟩
  | tup a xs h => exact ⟨_, .base (.tup h), .inr (.inr (.inr (.inr rfl))), fun n h => by rcases h with rfl | rfl | rfl | rfl <;> (simp only [plIs]; decide +kernel)⟩
theorem ev_isiB {n : String} (h : Ev te σ H v) (p : Pl H v) (hn : n = "int" ∨ n = "bool" ∨ n = "str" ∨ n = "tuple") : Ev (tCB (rIsi K) (tCons te (tCons (tC (.ty n)) tNil))) σ H (.bl (plIs v n)) :=
  Evl.ev_cb (Evl.ea_cons h (Evl.ea_cons Evl.ev_c Evl.ea_nil)) fun H1 e Q q => by
    obtain ⟨t, ty, _, hk⟩ := (p.ex e).ty (K := K)
    exact ⟨v, .ty n, .type t, .type n, plIs v n, rfl, .ty n, ty, kit_ty (hk n hn), q H1 (Ex.refl H1)⟩
end
def spIsInt : Sp := fun vs H Q _ => ∃ v, vs = [v] ∧ Pl H v ∧ ∀ H', Ex H H' → Q (.bl (isIntV v)) H'
theorem sv_isInt {H : Hp} {v : V} (p : Pl H v) : SpV spIsInt [v] H (.bl (isIntV v)) := fun H1 e Q q E => ⟨v, rfl, p.ex e, fun H2 e2 => q H2 e2⟩
theorem isInt_eq (v : V) : (plIs v "int" && !plIs v "bool") = isIntV v := by
  cases v <;> rfl

section
variable {w : World} {K : PySem.W.Frag} {mg : Str → Option Value} {base : Heap}
theorem sc_is_integer : FnScope ["value"] ["value"] (defScope s_is_integer) := ⟨rfl, rfl, rfl, by decide +kernel, rfl, by decide +kernel, by decide +kernel⟩
theorem k_is_integer (T : TX K mg base) : FG RP w K mg base 1 "is_integer" spIsInt := by
  refine fg_of T.g_is_integer T.kf_is_integer (fr_of T.d_is_integer sc_is_integer (fun vs H Q E h => by obtain ⟨v, rfl, _⟩ := h; rfl) (fun _ _ _ _ _ _ us hl => match us, hl with | [_], _ => rfl) fun cdv A outer s H vs Q E hr h => ⟨_,
    pss_one (ps_ret (pe_and (pe_callB call_isi rfl T.f_isinstance (by decide +kernel) (pa_cons (pv 0) (pa_cons (pe_bt (n := "int") T.f_int) pa_nil))) (pe_one (pe_not (pe_callB call_isi rfl T.f_isinstance (by decide +kernel) (pa_cons (pv 0) (pa_cons (pe_bt (n := "bool") T.f_bool) pa_nil))))))), ?_⟩)
  obtain ⟨v, rfl, p, hq⟩ := h
  refine Evl.s_ret (v := .bl (isIntV v)) (Evl.ev_is (Evl.ev_andV (ev_isiB (Evl.ev_var rfl) p (.inl rfl)) fun _ => Evl.ev_notV (ev_isiB (Evl.ev_var rfl) p (.inr (.inl rfl)))) ?_) hq
  rw [isInt_eq]
end
end Mp
set_option maxHeartbeats 4000000
/-! Defs: ranges, deeds. -/
namespace Mp
open PySem PySem.Spec PyProof.Rows L2
open Evl (Ex Ev EvL EvU EvT EvA RV SpV)

def within (v : V) (lo hi : Int) : Bool := match v with
  | .int i => decide (lo ≤ i) && decide (i ≤ hi)
  | _ => false
def spWithin : Sp := fun vs H Q _ => ∃ v lo hi, vs = [v, .int lo, .int hi] ∧ Pl H v ∧ ∀ H', Ex H H' → Q (.bl (within v lo hi)) H'
theorem sv_within {H : Hp} {v : V} {lo hi : Int} (p : Pl H v) : SpV spWithin [v, .int lo, .int hi] H (.bl (within v lo hi)) := fun H1 e Q q E => ⟨v, lo, hi, rfl, p.ex e, fun H2 e2 => q H2 e2⟩
def spIn (hi : Int) : Sp := fun vs H Q _ => ∃ v, vs = [v] ∧ Pl H v ∧ ∀ H', Ex H H' → Q (.bl (within v 0 hi)) H'
theorem sv_in {H : Hp} {v : V} {hi : Int} (p : Pl H v) : SpV (spIn hi) [v] H (.bl (within v 0 hi)) := fun H1 e Q q E => ⟨v, rfl, p.ex e, fun H2 e2 => q H2 e2⟩
theorem rv_le {H : Hp} {i j : Int} : RV (rI0 fun i j => .bl (decide (i ≤ j))) (.int i) (.int j) H (.bl (decide (i ≤ j))) := Evl.rv_I0
theorem ev_chain {r r' : R2} {ta tb tc : TE} {σ : L2.St} {H : Hp} {x y z : V} {a b : Bool} (ha : Ev ta σ H x) (hb : Ev tb σ H y) (hr : RV r x y H (.bl a)) (hc : Ev tc σ H z) (hr' : RV r' y z H (.bl b)) : Ev (tChain r r' ta tb tc) σ H (.bl (a && b)) := fun H1 e Q q =>
  ha H1 e _ fun H2 e2 => hb H2 (e.trans e2) _ fun H3 e3 => hr H3 ((e.trans e2).trans e3) _ fun H4 e4 => ⟨a, rfl, by
    cases a with
    | true =>
      refine hc H4 (((e.trans e2).trans e3).trans e4) _ fun H5 e5 => hr' H5 ((((e.trans e2).trans e3).trans e4).trans e5) _ fun H6 e6 => ?_
      exact q H6 ((((e2.trans e3).trans e4).trans e5).trans e6)
    | false => exact q H4 ((e2.trans e3).trans e4)⟩

section
variable {w : World} {K : PySem.W.Frag} {mg : Str → Option Value} {base : Heap}
theorem sc_is_within : FnScope ["value", "least", "most"] ["value", "least", "most"] (defScope s_is_within) := ⟨rfl, rfl, rfl, by decide +kernel, rfl, by decide +kernel, by decide +kernel⟩
theorem k_is_within (T : TX K mg base) : FG RP w K mg base 2 "is_within" spWithin := by
  refine fg_of T.g_is_within T.kf_is_within (fr_of T.d_is_within sc_is_within (fun vs H Q E h => by obtain ⟨v, lo, hi, rfl, _⟩ := h; rfl) (fun _ _ _ _ _ _ us hl => match us, hl with | [_, _, _], _ => rfl) fun cdv A outer s H vs Q E hr h => ⟨_,
    pss_one (ps_ret (pe_and (pe_g (k_is_integer T) hr (pa_cons (pv 0) pa_nil)) (pe_one (pe_chain op_le op_le (pv 1) (pv 0) (pv 2))))), ?_⟩)
  obtain ⟨v, lo, hi, rfl, p, hq⟩ := h
  refine Evl.s_ret (v := .bl (within v lo hi)) ?_ hq
  cases v with
  | int i => exact Evl.ev_is (Evl.ev_andV (b := decide (lo ≤ i) && decide (i ≤ hi)) (ev_g (Evl.ea_cons (Evl.ev_var rfl) Evl.ea_nil) (sv_isInt p)) fun _ => ev_chain (Evl.ev_var rfl) (Evl.ev_var rfl) rv_le (Evl.ev_var rfl) rv_le) rfl
  | _ => exact Evl.ev_is (Evl.ev_andV (b := false) (ev_g (Evl.ea_cons (Evl.ev_var rfl) Evl.ea_nil) (sv_isInt p)) fun h => by cases h) rfl
theorem sc_is_state : FnScope ["value"] ["value"] (defScope s_is_state) := ⟨rfl, rfl, rfl, by decide +kernel, rfl, by decide +kernel, by decide +kernel⟩
theorem k_is_state (T : TX K mg base) : FG RP w K mg base 3 "is_state" (spIn 23) := by
  refine fg_of T.g_is_state T.kf_is_state (fr_of T.d_is_state sc_is_state (fun vs H Q E h => by obtain ⟨v, rfl, _⟩ := h; rfl) (fun _ _ _ _ _ _ us hl => match us, hl with | [_], _ => rfl) fun cdv A outer s H vs Q E hr h => ⟨_,
    pss_one (ps_ret (pe_g (k_is_within T) hr (pa_cons (pv 0) (pa_cons pe_int (pa_cons (pe_gI T.i_MOST_STATE) pa_nil))))), ?_⟩)
  obtain ⟨v, rfl, p, hq⟩ := h
  exact Evl.s_ret (ev_g (Evl.ea_cons (Evl.ev_var rfl) (Evl.ea_cons Evl.ev_c (Evl.ea_cons Evl.ev_c Evl.ea_nil))) (sv_within p)) hq
theorem sc_is_box : FnScope ["value"] ["value"] (defScope s_is_box) := ⟨rfl, rfl, rfl, by decide +kernel, rfl, by decide +kernel, by decide +kernel⟩
theorem k_is_box (T : TX K mg base) : FG RP w K mg base 3 "is_box" (spIn 2) := by
  refine fg_of T.g_is_box T.kf_is_box (fr_of T.d_is_box sc_is_box (fun vs H Q E h => by obtain ⟨v, rfl, _⟩ := h; rfl) (fun _ _ _ _ _ _ us hl => match us, hl with | [_], _ => rfl) fun cdv A outer s H vs Q E hr h => ⟨_,
    pss_one (ps_ret (pe_g (k_is_within T) hr (pa_cons (pv 0) (pa_cons pe_int (pa_cons (pe_gI T.i_MOST_BOX) pa_nil))))), ?_⟩)
  obtain ⟨v, rfl, p, hq⟩ := h
  exact Evl.s_ret (ev_g (Evl.ea_cons (Evl.ev_var rfl) (Evl.ea_cons Evl.ev_c (Evl.ea_cons Evl.ev_c Evl.ea_nil))) (sv_within p)) hq
theorem sc_is_number : FnScope ["value"] ["value"] (defScope s_is_number) := ⟨rfl, rfl, rfl, by decide +kernel, rfl, by decide +kernel, by decide +kernel⟩
theorem k_is_number (T : TX K mg base) : FG RP w K mg base 3 "is_number" (spIn 5) := by
  refine fg_of T.g_is_number T.kf_is_number (fr_of T.d_is_number sc_is_number (fun vs H Q E h => by obtain ⟨v, rfl, _⟩ := h; rfl) (fun _ _ _ _ _ _ us hl => match us, hl with | [_], _ => rfl) fun cdv A outer s H vs Q E hr h => ⟨_,
    pss_one (ps_ret (pe_g (k_is_within T) hr (pa_cons (pv 0) (pa_cons pe_int (pa_cons (pe_gI T.i_MOST_NUMBER) pa_nil))))), ?_⟩)
  obtain ⟨v, rfl, p, hq⟩ := h
  exact Evl.s_ret (ev_g (Evl.ea_cons (Evl.ev_var rfl) (Evl.ea_cons Evl.ev_c (Evl.ea_cons Evl.ev_c Evl.ea_nil))) (sv_within p)) hq

/-- nothing is raised: the value fits -/
def spNeed (n hi : Nat) : Sp := fun vs H Q _ => ∃ (b : Nat) (rest : List V), vs = .int (b : Int) :: rest ∧ rest.length + 1 = n ∧ b ≤ hi ∧ ∀ H', Ex H H' → Q .non H'
theorem sv_need {H : Hp} {n hi b : Nat} {rest : List V} (hn : rest.length + 1 = n) (hb : b ≤ hi) : SpV (spNeed n hi) (.int (b : Int) :: rest) H .non := fun H1 e Q q E => ⟨b, rest, rfl, hn, hb, fun H2 e2 => q H2 e2⟩
theorem within_nat {b hi : Nat} (h : b ≤ hi) : within (.int (b : Int)) 0 (hi : Int) = true := by
  simp only [within, Bool.and_eq_true, decide_eq_true_eq]
  omega
theorem sc_need_box : FnScope ["value", "part"] ["value", "part"] (defScope s_need_box) := ⟨rfl, rfl, rfl, by decide +kernel, rfl, by decide +kernel, by decide +kernel⟩
theorem k_need_box (T : TX K mg base) : FG RP w K mg base 4 "need_box" (spNeed 2 2) := by
  refine fg_of T.g_need_box T.kf_need_box (fr_of T.d_need_box sc_need_box (fun vs H Q E h => by obtain ⟨b, rest, rfl, hn, _⟩ := h; simpa using hn) (fun _ _ _ _ _ _ us hl => match us, hl with | [_, _], _ => rfl) fun cdv A outer s H vs Q E hr h => ⟨_,
    pss_one (ps_if (pt_not (pt_val (pe_g (k_is_box T) hr (pa_cons (pv 0) pa_nil)))) (pss_one ps_never) pss_nil), ?_⟩)
  obtain ⟨b, rest, rfl, hn, hb, hq⟩ := h
  refine Evl.s_if (b := false) (Evl.et_is (Evl.et_not (Evl.et_test (ev_g (Evl.ea_cons (Evl.ev_var rfl) Evl.ea_nil) (sv_in (.int _))))) ?_) (fun h => by cases h) fun _ H1 e => hq H1 e
  rw [show (2 : Int) = ((2 : Nat) : Int) from rfl, within_nat hb]
  rfl
theorem sc_need_number : FnScope ["value"] ["value"] (defScope s_need_number) := ⟨rfl, rfl, rfl, by decide +kernel, rfl, by decide +kernel, by decide +kernel⟩
theorem k_need_number (T : TX K mg base) : FG RP w K mg base 4 "need_number" (spNeed 1 5) := by
  refine fg_of T.g_need_number T.kf_need_number (fr_of T.d_need_number sc_need_number (fun vs H Q E h => by obtain ⟨b, rest, rfl, hn, _⟩ := h; simpa using hn) (fun _ _ _ _ _ _ us hl => match us, hl with | [_], _ => rfl) fun cdv A outer s H vs Q E hr h => ⟨_,
    pss_one (ps_if (pt_not (pt_val (pe_g (k_is_number T) hr (pa_cons (pv 0) pa_nil)))) (pss_one ps_never) pss_nil), ?_⟩)
  obtain ⟨b, rest, rfl, hn, hb, hq⟩ := h
  refine Evl.s_if (b := false) (Evl.et_is (Evl.et_not (Evl.et_test (ev_g (Evl.ea_cons (Evl.ev_var rfl) Evl.ea_nil) (sv_in (.int _))))) ?_) (fun h => by cases h) fun _ H1 e => hq H1 e
  rw [show (5 : Int) = ((5 : Nat) : Int) from rfl, within_nat hb]
  rfl
end
end Mp
set_option maxHeartbeats 4000000
/-! Defs: deeds' methods. -/
namespace Mp
open PySem PySem.Spec PyProof.Rows L2
open Evl (Ex Ev EvL EvU EvT EvA RV SpV)

def Dd.fs : Dd → List (Str × V)
  | .take b | .put b | .out b | .clear b => [("box", .int (b : Int))]
  | .send b n => [("box", .int (b : Int)), ("number", .int (n : Int))]
  | .move b t => [("box", .int (b : Int)), ("to", .int (t : Int))]
  | .answer n => [("number", .int (n : Int))]
/-- a deed's object -/
def IsDeed (K : PySem.W.Frag) (H : Hp) (v : V) (d : Dd) : Prop := d.ok = true ∧ ∃ a dx, v = .ref a ∧ H a = some (.ins (He.ga K d.cls) dx d.fs)
theorem IsDeed.ex {K : PySem.W.Frag} {H H' : Hp} {v : V} {d : Dd} (h : IsDeed K H v d) (e : Ex H H') : IsDeed K H' v d := by
  obtain ⟨o, a, dx, r, z⟩ := h
  exact ⟨o, a, dx, r, e _ _ z⟩
theorem IsDeed.mono {K : PySem.W.Frag} {d : Dd} : MonoV fun v H => IsDeed K H v d := fun y D xs H H' hD e h => by
  obtain ⟨o, a, dx, r, z⟩ := h
  refine ⟨o, a, dx, r, e _ _ (fun q => ?_) z⟩
  rw [q, hD] at z
  cases z
/-- a constant is given -/
def spC (z : V) : Sp := fun vs H Q _ => ∃ v, vs = [v] ∧ ∀ H', Ex H H' → Q z H'
theorem sv_C {H : Hp} {v z : V} : SpV (spC z) [v] H z := fun H1 e Q q E => ⟨v, rfl, fun H2 e2 => q H2 e2⟩
/-- a new tuple, or the module's own -/
def IsStrs (K : PySem.W.Frag) (xs : List Str) (v : V) (H : Hp) : Prop := ∃ p, v = .ref p ∧ SqT K H p (xs.map V.str)
theorem IsStrs.mono {K : PySem.W.Frag} {xs : List Str} : MonoV (IsStrs K xs) := fun y D ys H H' hD e h => by
  obtain ⟨p, r, q⟩ := h
  refine ⟨p, r, ?_⟩
  rcases q with (q | ⟨o, q⟩) | q
  · refine .inl (.inl (e _ _ (fun z => ?_) q))
    rw [z, hD] at q
    cases q
  · refine .inl (.inr ⟨o, e _ _ (fun z => ?_) q⟩)
    rw [z, hD] at q
    cases q
  · exact .inr q
/-- the sides of a verb -/
def sidesOf (z : Str) : List Str := if (decide (z = "take") || (decide (z = "send") || false)) = true then ["sender"] else if (decide (z = "put") || (decide (z = "out") || (decide (z = "answer") || false))) = true then ["receiver"] else if (decide (z = "move") || (decide (z = "clear") || false)) = true then ["sender", "receiver"] else []
theorem sidesOf_verb (d : Dd) : sidesOf d.verb = d.sides := by
  cases d with
  | take _ => exact (by decide +kernel : sidesOf "take" = (["sender"] : List Str))
  | send _ _ => exact (by decide +kernel : sidesOf "send" = (["sender"] : List Str))
  | put _ => exact (by decide +kernel : sidesOf "put" = (["receiver"] : List Str))
  | out _ => exact (by decide +kernel : sidesOf "out" = (["receiver"] : List Str))
  | answer _ => exact (by decide +kernel : sidesOf "answer" = (["receiver"] : List Str))
  | move _ _ => exact (by decide +kernel : sidesOf "move" = (["sender", "receiver"] : List Str))
  | clear _ => exact (by decide +kernel : sidesOf "clear" = (["sender", "receiver"] : List Str))
def spSides (K : PySem.W.Frag) : Sp := fun vs H Q _ => ∃ z : Str, vs = [.str z] ∧ ∀ v H', Ex H H' → IsStrs K (sidesOf z) v H' → Q v H'
theorem sp_sides {K : PySem.W.Frag} {H : Hp} {z : Str} : SpP (spSides K) [.str z] H (IsStrs K (sidesOf z)) := fun H1 e Q q E => ⟨z, rfl, fun v H2 e2 p => q v H2 e2 p⟩

section
variable {w : World} {K : PySem.W.Frag} {mg : Str → Option Value} {base : Heap}

theorem k_Take_verb (T : TX K mg base) : FnR RP w K mg base CX0 1 (He.ma K (He.ga K "Take") "verb") (spC (.str "take")) := by
  refine fr_of (N := ["self"]) (ps := ["self"]) T.d_Take_verb ⟨rfl, rfl, rfl, by decide +kernel, rfl, by decide +kernel, by decide +kernel⟩ (fun vs H Q E h => by obtain ⟨v, rfl, _⟩ := h; rfl) (fun _ _ _ _ _ _ us hl => match us, hl with | [_], _ => rfl) fun cdv A outer s H vs Q E hr h => ⟨_, pss_one (ps_ret pe_str), ?_⟩
  obtain ⟨v, rfl, hq⟩ := h
  exact Evl.s_ret Evl.ev_c hq
theorem k_Put_verb (T : TX K mg base) : FnR RP w K mg base CX0 1 (He.ma K (He.ga K "Put") "verb") (spC (.str "put")) := by
  refine fr_of (N := ["self"]) (ps := ["self"]) T.d_Put_verb ⟨rfl, rfl, rfl, by decide +kernel, rfl, by decide +kernel, by decide +kernel⟩ (fun vs H Q E h => by obtain ⟨v, rfl, _⟩ := h; rfl) (fun _ _ _ _ _ _ us hl => match us, hl with | [_], _ => rfl) fun cdv A outer s H vs Q E hr h => ⟨_, pss_one (ps_ret pe_str), ?_⟩
  obtain ⟨v, rfl, hq⟩ := h
  exact Evl.s_ret Evl.ev_c hq
theorem k_Out_verb (T : TX K mg base) : FnR RP w K mg base CX0 1 (He.ma K (He.ga K "Out") "verb") (spC (.str "out")) := by
  refine fr_of (N := ["self"]) (ps := ["self"]) T.d_Out_verb ⟨rfl, rfl, rfl, by decide +kernel, rfl, by decide +kernel, by decide +kernel⟩ (fun vs H Q E h => by obtain ⟨v, rfl, _⟩ := h; rfl) (fun _ _ _ _ _ _ us hl => match us, hl with | [_], _ => rfl) fun cdv A outer s H vs Q E hr h => ⟨_, pss_one (ps_ret pe_str), ?_⟩
  obtain ⟨v, rfl, hq⟩ := h
  exact Evl.s_ret Evl.ev_c hq
theorem k_Clear_verb (T : TX K mg base) : FnR RP w K mg base CX0 1 (He.ma K (He.ga K "Clear") "verb") (spC (.str "clear")) := by
  refine fr_of (N := ["self"]) (ps := ["self"]) T.d_Clear_verb ⟨rfl, rfl, rfl, by decide +kernel, rfl, by decide +kernel, by decide +kernel⟩ (fun vs H Q E h => by obtain ⟨v, rfl, _⟩ := h; rfl) (fun _ _ _ _ _ _ us hl => match us, hl with | [_], _ => rfl) fun cdv A outer s H vs Q E hr h => ⟨_, pss_one (ps_ret pe_str), ?_⟩
  obtain ⟨v, rfl, hq⟩ := h
  exact Evl.s_ret Evl.ev_c hq
theorem k_Send_verb (T : TX K mg base) : FnR RP w K mg base CX0 1 (He.ma K (He.ga K "Send") "verb") (spC (.str "send")) := by
  refine fr_of (N := ["self"]) (ps := ["self"]) T.d_Send_verb ⟨rfl, rfl, rfl, by decide +kernel, rfl, by decide +kernel, by decide +kernel⟩ (fun vs H Q E h => by obtain ⟨v, rfl, _⟩ := h; rfl) (fun _ _ _ _ _ _ us hl => match us, hl with | [_], _ => rfl) fun cdv A outer s H vs Q E hr h => ⟨_, pss_one (ps_ret pe_str), ?_⟩
  obtain ⟨v, rfl, hq⟩ := h
  exact Evl.s_ret Evl.ev_c hq
theorem k_Move_verb (T : TX K mg base) : FnR RP w K mg base CX0 1 (He.ma K (He.ga K "Move") "verb") (spC (.str "move")) := by
  refine fr_of (N := ["self"]) (ps := ["self"]) T.d_Move_verb ⟨rfl, rfl, rfl, by decide +kernel, rfl, by decide +kernel, by decide +kernel⟩ (fun vs H Q E h => by obtain ⟨v, rfl, _⟩ := h; rfl) (fun _ _ _ _ _ _ us hl => match us, hl with | [_], _ => rfl) fun cdv A outer s H vs Q E hr h => ⟨_, pss_one (ps_ret pe_str), ?_⟩
  obtain ⟨v, rfl, hq⟩ := h
  exact Evl.s_ret Evl.ev_c hq
theorem k_Answer_verb (T : TX K mg base) : FnR RP w K mg base CX0 1 (He.ma K (He.ga K "Answer") "verb") (spC (.str "answer")) := by
  refine fr_of (N := ["self"]) (ps := ["self"]) T.d_Answer_verb ⟨rfl, rfl, rfl, by decide +kernel, rfl, by decide +kernel, by decide +kernel⟩ (fun vs H Q E h => by obtain ⟨v, rfl, _⟩ := h; rfl) (fun _ _ _ _ _ _ us hl => match us, hl with | [_], _ => rfl) fun cdv A outer s H vs Q E hr h => ⟨_, pss_one (ps_ret pe_str), ?_⟩
  obtain ⟨v, rfl, hq⟩ := h
  exact Evl.s_ret Evl.ev_c hq
theorem cls_deed (T : TX K mg base) (d : Dd) : Cls K (He.ga K d.cls) := by
  cases d
  · exact ⟨T.pg_Take, T.hd_Take, T.po_Take, T.sa_Take⟩
  · exact ⟨T.pg_Put, T.hd_Put, T.po_Put, T.sa_Put⟩
  · exact ⟨T.pg_Out, T.hd_Out, T.po_Out, T.sa_Out⟩
  · exact ⟨T.pg_Clear, T.hd_Clear, T.po_Clear, T.sa_Clear⟩
  · exact ⟨T.pg_Send, T.hd_Send, T.po_Send, T.sa_Send⟩
  · exact ⟨T.pg_Move, T.hd_Move, T.po_Move, T.sa_Move⟩
  · exact ⟨T.pg_Answer, T.hd_Answer, T.po_Answer, T.sa_Answer⟩
theorem mg_verb (T : TX K mg base) (d : Dd) : MG RP w K mg base 1 (He.ga K d.cls) "verb" (spC (.str d.verb)) := by
  refine ⟨cls_deed T d, ?_⟩
  cases d
  · exact ⟨_, ⟨T.at_Take_verb, T.fn_Take_verb, T.kf_Take_verb⟩, k_Take_verb T⟩
  · exact ⟨_, ⟨T.at_Put_verb, T.fn_Put_verb, T.kf_Put_verb⟩, k_Put_verb T⟩
  · exact ⟨_, ⟨T.at_Out_verb, T.fn_Out_verb, T.kf_Out_verb⟩, k_Out_verb T⟩
  · exact ⟨_, ⟨T.at_Clear_verb, T.fn_Clear_verb, T.kf_Clear_verb⟩, k_Clear_verb T⟩
  · exact ⟨_, ⟨T.at_Send_verb, T.fn_Send_verb, T.kf_Send_verb⟩, k_Send_verb T⟩
  · exact ⟨_, ⟨T.at_Move_verb, T.fn_Move_verb, T.kf_Move_verb⟩, k_Move_verb T⟩
  · exact ⟨_, ⟨T.at_Answer_verb, T.fn_Answer_verb, T.kf_Answer_verb⟩, k_Answer_verb T⟩
theorem k_sides_of (T : TX K mg base) : FG RP w K mg base 1 "sides_of" (spSides K) := by
  refine fg_of T.g_sides_of T.kf_sides_of (fr_of (N := ["verb"]) (ps := ["verb"]) T.d_sides_of ⟨rfl, rfl, rfl, by decide +kernel, rfl, by decide +kernel, by decide +kernel⟩ (fun vs H Q E h => by obtain ⟨v, rfl, _⟩ := h; rfl) (fun _ _ _ _ _ _ us hl => match us, hl with | [_], _ => rfl) fun cdv A outer s H vs Q E hr h => ⟨_,
    pss_cons (ps_match (pv 0) (pm_cons (pp_or (pps_cons pp_str (pps_cons pp_str pps_nil))) (pss_one (ps_ret (pe_tup (pa_cons pe_str pa_nil)))) (pm_cons (pp_or (pps_cons pp_str (pps_cons pp_str (pps_cons pp_str pps_nil)))) (pss_one (ps_ret (pe_tup (pa_cons pe_str pa_nil))))
      (pm_cons (pp_or (pps_cons pp_str (pps_cons pp_str pps_nil))) (pss_one (ps_ret (pe_gR T.g_SIDES))) pm_nil)))) (pss_one (ps_ret (pe_tup pa_nil))), ?_⟩)
  obtain ⟨z, rfl, hq⟩ := h
  have new : ∀ (xs : List Str) (p : Addr), H p = none → sidesOf z = xs → Q (.ref p) (upd H p (.tup (xs.map V.str))) := fun xs p hp e => hq _ _ (Ex.new hp) ⟨p, rfl, by rw [e]; exact Evl.st_of upd_same⟩
  refine ⟨_, rfl, z, rfl, ?_⟩
  unfold sidesOf at new
  show if (decide (z = "take") || (decide (z = "send") || false)) = true then _ else _
  split
  · rename_i h1
    refine ⟨by show 1 ≤ sizeLine; decide, fun p hp => ?_⟩
    rw [if_pos h1] at new
    exact new ["sender"] p hp rfl
  · rename_i h1
    rw [if_neg h1] at new
    show if (decide (z = "put") || (decide (z = "out") || (decide (z = "answer") || false))) = true then _ else _
    split
    · rename_i h2
      refine ⟨by show 1 ≤ sizeLine; decide, fun p hp => ?_⟩
      rw [if_pos h2] at new
      exact new ["receiver"] p hp rfl
    · rename_i h2
      rw [if_neg h2] at new
      show if (decide (z = "move") || (decide (z = "clear") || false)) = true then _ else _
      split
      · rename_i h3
        refine hq _ _ (Ex.refl H) ⟨_, rfl, ?_⟩
        unfold sidesOf
        rw [if_neg h1, if_neg h2, if_pos h3]
        exact He.tupB_ok T.tupSides H
      · rename_i h3
        refine ⟨Nat.zero_le _, fun p hp => ?_⟩
        rw [if_neg h3] at new
        exact new [] p hp rfl
/-- deed.is_for(side) -/
def spIsFor (K : PySem.W.Frag) : Sp := fun vs H Q _ => ∃ (v : V) (d : Dd) (side : Str), vs = [v, .str side] ∧ IsDeed K H v d ∧ ∀ H', Ex H H' → Q (.bl (d.forS side)) H'
theorem sv_isFor {K : PySem.W.Frag} {H : Hp} {v : V} {d : Dd} {side : Str} (h : IsDeed K H v d) : SpV (spIsFor K) [v, .str side] H (.bl (d.forS side)) := fun H1 e Q q E => ⟨v, d, side, rfl, h.ex e, fun H2 e2 => q H2 e2⟩
theorem inV_str (z : Str) : ∀ xs : List Str, inV (.str z) (xs.map V.str) = xs.contains z
  | [] => rfl
  | x :: r => by
    show (eqV (.str x) (.str z) || inV (.str z) (r.map V.str)) = _
    rw [inV_str z r, List.contains_cons]
    congr 1
    show (x == z) = (z == x)
    exact Bool.beq_comm
theorem flat_strs : ∀ xs : List Str, (xs.map V.str).all flatV = true
  | [] => rfl
  | _ :: r => by
    rw [List.map_cons, List.all_cons, flat_strs r]
    rfl
theorem k_Deed_is_for (T : TX K mg base) : FnR RP w K mg base CX0 2 (He.ma K (He.ga K "Deed") "is_for") (spIsFor K) := by
  refine fr_of (N := ["self", "side"]) (ps := ["self", "side"]) T.d_Deed_is_for ⟨rfl, rfl, rfl, by decide +kernel, rfl, by decide +kernel, by decide +kernel⟩ (fun vs H Q E h => by obtain ⟨v, d, z, rfl, _⟩ := h; rfl) (fun _ _ _ _ _ _ us hl => match us, hl with | [_, _], _ => rfl) fun cdv A outer s H vs Q E hr h => ⟨_,
    pss_one (ps_ret (pe_and (pe_callB call_isi rfl T.f_isinstance (by decide +kernel) (pa_cons (pv 1) (pa_cons (pe_bt (n := "str") T.f_str) pa_nil))) (pe_one (pe_cmpR op_in_seq (pv 1) (pe_g (k_sides_of T) hr (pa_cons (pe_mv0 (pv 0)) pa_nil)) (by rfl))))), ?_⟩
  obtain ⟨v, d, side, rfl, hd, hq⟩ := h
  obtain ⟨ok, a, dx, rfl, ha⟩ := id hd
  refine Evl.s_ret (Evl.ev_is (Evl.ev_andV (a := true) (b := d.forS side) (Evl.ev_is (ev_isiB (Evl.ev_var rfl) (.str side) (.inr (.inr (.inl rfl)))) rfl) fun _ => ?_) rfl) hq
  refine fun H1 e Q q => Evl.ev_var rfl H1 e _ fun H2 e2 => ?_
  refine ep_g (Evl.ea_cons (ev_mv0 (v := .str d.verb) (Evl.ev_var rfl) ha (by cases d <;> rfl) (mg_verb T d) hr sv_C) Evl.ea_nil) sp_sides H2 (e.trans e2) _ fun x H3 e3 ⟨p, ex, hp⟩ => ?_
  subst ex
  rw [sidesOf_verb] at hp
  refine ⟨p, _, rfl, .inr hp, rfl, flat_strs _, ?_⟩
  show Q (.bl (inV (.str side) (d.sides.map V.str))) H3
  rw [inV_str]
  exact q H3 (e2.trans e3)
theorem mg_isFor (T : TX K mg base) (d : Dd) : MG RP w K mg base 2 (He.ga K d.cls) "is_for" (spIsFor K) := by
  refine ⟨cls_deed T d, ?_⟩
  cases d
  · exact ⟨_, ⟨T.at_Take_is_for, T.fn_Deed_is_for, T.kf_Deed_is_for⟩, k_Deed_is_for T⟩
  · exact ⟨_, ⟨T.at_Put_is_for, T.fn_Deed_is_for, T.kf_Deed_is_for⟩, k_Deed_is_for T⟩
  · exact ⟨_, ⟨T.at_Out_is_for, T.fn_Deed_is_for, T.kf_Deed_is_for⟩, k_Deed_is_for T⟩
  · exact ⟨_, ⟨T.at_Clear_is_for, T.fn_Deed_is_for, T.kf_Deed_is_for⟩, k_Deed_is_for T⟩
  · exact ⟨_, ⟨T.at_Send_is_for, T.fn_Deed_is_for, T.kf_Deed_is_for⟩, k_Deed_is_for T⟩
  · exact ⟨_, ⟨T.at_Move_is_for, T.fn_Deed_is_for, T.kf_Deed_is_for⟩, k_Deed_is_for T⟩
  · exact ⟨_, ⟨T.at_Answer_is_for, T.fn_Deed_is_for, T.kf_Deed_is_for⟩, k_Deed_is_for T⟩
end
end Mp
set_option maxHeartbeats 4000000
/-! Defs: deeds' texts, deeds made. -/
namespace Mp
open PySem PySem.Spec PyProof.Rows L2
open Evl (Ex Ev EvL EvU EvT EvA RV SpV)

/-- str of this deed -/
def spStrD (K : PySem.W.Frag) (d : Dd) : Sp := fun vs H Q _ => ∃ v, vs = [v] ∧ IsDeed K H v d ∧ ∀ H', Ex H H' → Q (.str d.txt) H'
theorem sv_strD {K : PySem.W.Frag} {H : Hp} {v : V} {d : Dd} (h : IsDeed K H v d) : SpV (spStrD K d) [v] H (.str d.txt) := fun H1 e Q q E => ⟨v, rfl, h.ex e, fun H2 e2 => q H2 e2⟩
/-- an __init__: the fields are set -/
def spMade (args : List V) (C : Addr) (fs : List (Str × V)) : Sp := fun vs H Q _ => ∃ x dx, vs = .ref x :: args ∧ H x = some (.ins C dx []) ∧ ∀ H', ExB x H H' → H' x = some (.ins C dx fs) → Q .non H'
theorem ExB.upd {a : Addr} {o : HO} {H H' : Hp} (h : ExB a H H') : ExB a H (upd H' a o) := fun b u hb e => by rw [upd_ne hb]; exact h b u hb e
theorem ExB.of {a : Addr} {H H' : Hp} (h : Ex H H') : ExB a H H' := fun b o _ e => h b o e
theorem ExB.trans {a : Addr} {H H1 H2 : Hp} (h : ExB a H H1) (k : ExB a H1 H2) : ExB a H H2 := fun b o hb e => k b o hb (h b o hb e)
/-- o.f = e -/
theorem s_fld {K : PySem.W.Frag} {ta tv : TE} {f : Str} {D : Ends} {σ : L2.St} {H : Hp} {v : V} {a C dx : Addr} {fs : List (Str × V)} (hv : Ev tv σ H v) (h : Ev ta σ H (.ref a)) (ha : H a = some (.ins C dx fs)) (c : Cls K C) (nf : NoAttr K C f) (hl : fs.length < 1000)
    (k : ∀ H1, Ex H H1 → D.nx σ (upd H1 a (.ins C dx (putF f v fs)))) : sFld K ta tv f D σ H := hv H (Ex.refl H) _ fun H1 e1 => h H1 e1 _ fun H2 e2 => ⟨a, C, dx, fs, rfl, (e1.trans e2) _ _ ha, c, nf, hl, k H2 (e1.trans e2)⟩
/-- a new instance -/
theorem ep_make {C : Addr} {sp : Sp} {t : TA} {σ : L2.St} {H : Hp} {vs : List V} {fs : List (Str × V)} {P : V → Hp → Prop} {E : XK} (h : EvA t σ H vs) (hs : ∀ x dx H1, Ex H H1 → H1 x = some (.ins C dx []) → ∀ Q : VK, (∀ H', ExB x H1 H' → H' x = some (.ins C dx fs) → Q .non H') → ∀ E : XK, sp (.ref x :: vs) H1 Q E)
    (hP : ∀ x dx H', Ex H H' → H' x = some (.ins C dx fs) → P (.ref x) H') : EvP (StX.tMakeR C sp E t) σ H P := fun H1 e Q q => h H1 e _ fun H2 e2 x dx nx ndx ne => by
  have ex : Ex H2 (upd (upd H2 dx (.own x)) x (.ins C dx [])) := (Ex.new ndx).trans (Ex.new (by rw [upd_ne (Ne.symm ne)]; exact nx))
  refine hs x dx _ ((e.trans e2).trans ex) upd_same _ (fun H' eb hx => ⟨rfl, ?_⟩) _
  have e3 : Ex H2 H' := fun b o hb => eb b o (fun z => by rw [z, nx] at hb; cases hb) (ex b o hb)
  exact q _ H' (e2.trans e3) (hP x dx H' ((e.trans e2).trans e3) hx)

theorem verb_len (d : Dd) : d.verb.length ≤ 10 := by
  cases d with
  | take _ => exact (by decide +kernel : ("take" : Str).length ≤ 10)
  | send _ _ => exact (by decide +kernel : ("send" : Str).length ≤ 10)
  | put _ => exact (by decide +kernel : ("put" : Str).length ≤ 10)
  | out _ => exact (by decide +kernel : ("out" : Str).length ≤ 10)
  | answer _ => exact (by decide +kernel : ("answer" : Str).length ≤ 10)
  | move _ _ => exact (by decide +kernel : ("move" : Str).length ≤ 10)
  | clear _ => exact (by decide +kernel : ("clear" : Str).length ≤ 10)
section
variable {w : World} {K : PySem.W.Frag} {mg : Str → Option Value} {base : Heap}
theorem no_box (T : TX K mg base) (d : Dd) : NoAttr K (He.ga K d.cls) "box" := by
  cases d
  · exact T.no_Take_box
  · exact T.no_Put_box
  · exact T.no_Out_box
  · exact T.no_Clear_box
  · exact T.no_Send_box
  · exact T.no_Move_box
  · exact T.no_Answer_box
theorem no_number (T : TX K mg base) (d : Dd) : NoAttr K (He.ga K d.cls) "number" := by
  cases d
  · exact T.no_Take_number
  · exact T.no_Put_number
  · exact T.no_Out_number
  · exact T.no_Clear_number
  · exact T.no_Send_number
  · exact T.no_Move_number
  · exact T.no_Answer_number
theorem no_to (T : TX K mg base) (d : Dd) : NoAttr K (He.ga K d.cls) "to" := by
  cases d
  · exact T.no_Take_to
  · exact T.no_Put_to
  · exact T.no_Out_to
  · exact T.no_Clear_to
  · exact T.no_Send_to
  · exact T.no_Move_to
  · exact T.no_Answer_to
def Dd.boxy : Dd → Option Nat
  | .take b | .put b | .out b | .clear b => some b
  | _ => none
theorem k_BoxDeed_str (T : TX K mg base) {d : Dd} {b : Nat} (hb : d.boxy = some b) : FnR RP w K mg base CX0 2 (He.ma K (He.ga K "BoxDeed") "__str__") (spStrD K d) := by
  refine fr_of (N := ["self"]) (ps := ["self"]) T.d_BoxDeed_str ⟨rfl, rfl, rfl, by decide +kernel, rfl, by decide +kernel, by decide +kernel⟩ (fun vs H Q E h => by obtain ⟨v, rfl, _⟩ := h; rfl) (fun _ _ _ _ _ _ us hl => match us, hl with | [_], _ => rfl) fun cdv A outer s H vs Q E hr h => ⟨_,
    pss_one (ps_ret (pe_joined (.cons (pe_fmt (pe_mv0 (pv 0))) (.cons pe_str (.cons (pe_fmt (pe_fld (pv 0) rfl)) .nil))))), ?_⟩
  obtain ⟨v, rfl, hd, hq⟩ := h
  obtain ⟨ok, a, dx, rfl, ha⟩ := id hd
  have hb2 : b ≤ 2 := by
    cases d <;> simp only [Dd.boxy, Option.some.injEq, reduceCtorEq] at hb <;> (subst hb; simpa [Dd.ok] using ok)
  have hv := verb_len d
  have hf : d.fs.lookup ("box" : Str) = some (V.int (b : Int)) := by
    cases d <;> simp only [Dd.boxy, Option.some.injEq, reduceCtorEq] at hb <;> (subst hb; rfl)
  have et : ([d.verb, (" " : Str), nS b].foldl (· ++ ·) Str.empty) = d.txt := by
    show Str.empty ++ d.verb ++ " " ++ nS b = d.txt
    rw [Str.empty_append]
    cases d <;> simp only [Dd.boxy, Option.some.injEq, reduceCtorEq] at hb <;> (subst hb; rfl)
  refine Evl.s_ret (Evl.ev_is (ev_js (.cons (ev_fmtS (ev_mv0 (v := .str d.verb) (Evl.ev_var rfl) ha (by cases d <;> rfl) (mg_verb T d) hr sv_C) (by omega)) (.cons Evl.ev_c (.cons (ev_fmtI (ev_fld (Evl.ev_var rfl) ha (cls_deed T d) (no_box T d) hf) (by omega)) .nil))) ?_) (congrArg V.str et)) hq
  have := nS_len b (by omega)
  have e1 : (" " : Str).length = 1 := by decide +kernel
  simp only [List.map_cons, List.map_nil, List.sum_cons, List.sum_nil, e1]
  omega
theorem k_Send_str (T : TX K mg base) {b n : Nat} : FnR RP w K mg base CX0 2 (He.ma K (He.ga K "Send") "__str__") (spStrD K (.send b n)) := by
  refine fr_of (N := ["self"]) (ps := ["self"]) T.d_Send_str ⟨rfl, rfl, rfl, by decide +kernel, rfl, by decide +kernel, by decide +kernel⟩ (fun vs H Q E h => by obtain ⟨v, rfl, _⟩ := h; rfl) (fun _ _ _ _ _ _ us hl => match us, hl with | [_], _ => rfl) fun cdv A outer s H vs Q E hr h => ⟨_,
    pss_one (ps_ret (pe_joined (.cons pe_str (.cons (pe_fmt (pe_fld (pv 0) rfl)) (.cons pe_str (.cons (pe_fmt (pe_fld (pv 0) rfl)) .nil)))))), ?_⟩
  obtain ⟨v, rfl, hd, hq⟩ := h
  obtain ⟨ok, a, dx, rfl, ha⟩ := id hd
  simp only [Dd.ok, Bool.and_eq_true, decide_eq_true_eq] at ok
  have et : ([("send " : Str), nS b, (" " : Str), nS n].foldl (· ++ ·) Str.empty) = (Dd.send b n).txt := by
    show Str.empty ++ "send " ++ nS b ++ " " ++ nS n = "send" ++ " " ++ (nS b ++ " " ++ nS n)
    rw [Str.empty_append, show ("send " : Str) = "send" ++ " " by decide +kernel]
    simp only [Str.append_assoc]
  refine Evl.s_ret (Evl.ev_is (ev_js (.cons Evl.ev_c (.cons (ev_fmtI (ev_fld (Evl.ev_var rfl) ha (cls_deed T (.send b n)) (no_box T (.send b n)) rfl) (by omega)) (.cons Evl.ev_c (.cons (ev_fmtI (ev_fld (Evl.ev_var rfl) ha (cls_deed T (.send b n)) (no_number T (.send b n)) rfl) (by omega)) .nil)))) ?_) (congrArg V.str et)) hq
  have := nS_len b (by omega)
  have := nS_len n (by omega)
  have e1 : (" " : Str).length = 1 := by decide +kernel
  have e2 : ("send " : Str).length = 5 := by decide +kernel
  simp only [List.map_cons, List.map_nil, List.sum_cons, List.sum_nil, e1, e2]
  omega
theorem k_Move_str (T : TX K mg base) {b n : Nat} : FnR RP w K mg base CX0 2 (He.ma K (He.ga K "Move") "__str__") (spStrD K (.move b n)) := by
  refine fr_of (N := ["self"]) (ps := ["self"]) T.d_Move_str ⟨rfl, rfl, rfl, by decide +kernel, rfl, by decide +kernel, by decide +kernel⟩ (fun vs H Q E h => by obtain ⟨v, rfl, _⟩ := h; rfl) (fun _ _ _ _ _ _ us hl => match us, hl with | [_], _ => rfl) fun cdv A outer s H vs Q E hr h => ⟨_,
    pss_one (ps_ret (pe_joined (.cons pe_str (.cons (pe_fmt (pe_fld (pv 0) rfl)) (.cons pe_str (.cons (pe_fmt (pe_fld (pv 0) rfl)) .nil)))))), ?_⟩
  obtain ⟨v, rfl, hd, hq⟩ := h
  obtain ⟨ok, a, dx, rfl, ha⟩ := id hd
  simp only [Dd.ok, Bool.and_eq_true, decide_eq_true_eq] at ok
  have et : ([("move " : Str), nS b, (" " : Str), nS n].foldl (· ++ ·) Str.empty) = (Dd.move b n).txt := by
    show Str.empty ++ "move " ++ nS b ++ " " ++ nS n = "move" ++ " " ++ (nS b ++ " " ++ nS n)
    rw [Str.empty_append, show ("move " : Str) = "move" ++ " " by decide +kernel]
    simp only [Str.append_assoc]
  refine Evl.s_ret (Evl.ev_is (ev_js (.cons Evl.ev_c (.cons (ev_fmtI (ev_fld (Evl.ev_var rfl) ha (cls_deed T (.move b n)) (no_box T (.move b n)) rfl) (by omega)) (.cons Evl.ev_c (.cons (ev_fmtI (ev_fld (Evl.ev_var rfl) ha (cls_deed T (.move b n)) (no_to T (.move b n)) rfl) (by omega)) .nil)))) ?_) (congrArg V.str et)) hq
  have := nS_len b (by omega)
  have := nS_len n (by omega)
  have e1 : (" " : Str).length = 1 := by decide +kernel
  have e2 : ("move " : Str).length = 5 := by decide +kernel
  simp only [List.map_cons, List.map_nil, List.sum_cons, List.sum_nil, e1, e2]
  omega
theorem k_Answer_str (T : TX K mg base) {n : Nat} : FnR RP w K mg base CX0 2 (He.ma K (He.ga K "Answer") "__str__") (spStrD K (.answer n)) := by
  refine fr_of (N := ["self"]) (ps := ["self"]) T.d_Answer_str ⟨rfl, rfl, rfl, by decide +kernel, rfl, by decide +kernel, by decide +kernel⟩ (fun vs H Q E h => by obtain ⟨v, rfl, _⟩ := h; rfl) (fun _ _ _ _ _ _ us hl => match us, hl with | [_], _ => rfl) fun cdv A outer s H vs Q E hr h => ⟨_,
    pss_one (ps_ret (pe_joined (.cons pe_str (.cons (pe_fmt (pe_fld (pv 0) rfl)) .nil)))), ?_⟩
  obtain ⟨v, rfl, hd, hq⟩ := h
  obtain ⟨ok, a, dx, rfl, ha⟩ := id hd
  simp only [Dd.ok, Bool.and_eq_true, decide_eq_true_eq] at ok
  have et : ([("answer " : Str), nS n].foldl (· ++ ·) Str.empty) = (Dd.answer n).txt := by
    show Str.empty ++ "answer " ++ nS n = "answer" ++ " " ++ nS n
    rw [Str.empty_append, show ("answer " : Str) = "answer" ++ " " by decide +kernel]
  refine Evl.s_ret (Evl.ev_is (ev_js (.cons Evl.ev_c (.cons (ev_fmtI (ev_fld (Evl.ev_var rfl) ha (cls_deed T (.answer n)) (no_number T (.answer n)) rfl) (by omega)) .nil)) ?_) (congrArg V.str et)) hq
  have := nS_len n (by omega)
  have e2 : ("answer " : Str).length = 7 := by decide +kernel
  simp only [List.map_cons, List.map_nil, List.sum_cons, List.sum_nil, e2]
  omega
theorem og_str (T : TX K mg base) (d : Dd) : OG RP w K mg base 2 (He.ga K d.cls) "__str__" (spStrD K d) := by
  cases d
  · exact ⟨_, T.at_Take_str, T.fn_BoxDeed_str, T.fi_BoxDeed_str, k_BoxDeed_str T rfl⟩
  · exact ⟨_, T.at_Put_str, T.fn_BoxDeed_str, T.fi_BoxDeed_str, k_BoxDeed_str T rfl⟩
  · exact ⟨_, T.at_Out_str, T.fn_BoxDeed_str, T.fi_BoxDeed_str, k_BoxDeed_str T rfl⟩
  · exact ⟨_, T.at_Clear_str, T.fn_BoxDeed_str, T.fi_BoxDeed_str, k_BoxDeed_str T rfl⟩
  · exact ⟨_, T.at_Send_str, T.fn_Send_str, T.fi_Send_str, k_Send_str T⟩
  · exact ⟨_, T.at_Move_str, T.fn_Move_str, T.fi_Move_str, k_Move_str T⟩
  · exact ⟨_, T.at_Answer_str, T.fn_Answer_str, T.fi_Answer_str, k_Answer_str T⟩
theorem k_BoxDeed_init (T : TX K mg base) {d : Dd} {b : Nat} (hb : b ≤ 2) : FnR RP w K mg base CX0 5 (He.ma K (He.ga K "BoxDeed") "__init__") (spMade [.int (b : Int)] (He.ga K d.cls) [("box", .int (b : Int))]) := by
  refine fr_of (N := ["self", "box"]) (ps := ["self", "box"]) T.d_BoxDeed_init ⟨rfl, rfl, rfl, by decide +kernel, rfl, by decide +kernel, by decide +kernel⟩ (fun vs H Q E h => by obtain ⟨x, dx, rfl, _⟩ := h; rfl) (fun _ _ _ _ _ _ us hl => match us, hl with | [_, _], _ => rfl) fun cdv A outer s H vs Q E hr h => ⟨_,
    pss_cons (ps_expr (pe_g (k_need_box T) hr (pa_cons (pv 1) (pa_cons pe_str pa_nil)))) (pss_one (ps_fld (pv 0) (pv 1) rfl)), ?_⟩
  obtain ⟨x, dx, rfl, hx, hq⟩ := h
  refine Evl.s_drop (ev_g (Evl.ea_cons (Evl.ev_var rfl) (Evl.ea_cons Evl.ev_c Evl.ea_nil)) (sv_need rfl hb)) fun H1 e1 => ?_
  refine s_fld (Evl.ev_var rfl) (Evl.ev_var rfl) (e1 _ _ hx) (cls_deed T d) (no_box T d) (by decide) fun H2 e2 => ?_
  exact hq _ (ExB.of (e1.trans e2)).upd upd_same
theorem k_Answer_init (T : TX K mg base) {n : Nat} (hn : n ≤ 5) : FnR RP w K mg base CX0 5 (He.ma K (He.ga K "Answer") "__init__") (spMade [.int (n : Int)] (He.ga K "Answer") [("number", .int (n : Int))]) := by
  refine fr_of (N := ["self", "number"]) (ps := ["self", "number"]) T.d_Answer_init ⟨rfl, rfl, rfl, by decide +kernel, rfl, by decide +kernel, by decide +kernel⟩ (fun vs H Q E h => by obtain ⟨x, dx, rfl, _⟩ := h; rfl) (fun _ _ _ _ _ _ us hl => match us, hl with | [_, _], _ => rfl) fun cdv A outer s H vs Q E hr h => ⟨_,
    pss_cons (ps_expr (pe_g (k_need_number T) hr (pa_cons (pv 1) pa_nil))) (pss_one (ps_fld (pv 0) (pv 1) rfl)), ?_⟩
  obtain ⟨x, dx, rfl, hx, hq⟩ := h
  refine Evl.s_drop (ev_g (Evl.ea_cons (Evl.ev_var rfl) Evl.ea_nil) (sv_need rfl hn)) fun H1 e1 => ?_
  refine s_fld (Evl.ev_var rfl) (Evl.ev_var rfl) (e1 _ _ hx) (cls_deed T (.answer n)) (no_number T (.answer n)) (by decide) fun H2 e2 => ?_
  exact hq _ (ExB.of (e1.trans e2)).upd upd_same

end
end Mp
set_option maxHeartbeats 4000000
/-! Defs: __init__ by super(). -/
namespace Mp
open PySem PySem.Spec PyProof.Rows L2
open Evl (Ex Ev EvL EvU EvT EvA RV SpV)

section
variable {w : World} {K : PySem.W.Frag} {mg : Str → Option Value} {base : Heap}
theorem top_super : (RP.main.scope.names.lookup ("super" : Str)).isSome = false := by decide +kernel
/-- super() in the def at f, whose cell holds D -/
theorem su_def {f D cc : Addr} {name qual : Str} {params : Arguments} {body : List Stmt} {scope : Scope} {dV kV doc pm cdv ct oc cl : Value} {an od cld : Option Addr} {osl csl : Array (Option Value)} {N : List Str} {A : Around} {outer : List Env} {s : Shared} {H : Hp} {E : XK} {ar : Arg} {sf : Str} {CX : CXT}
    (lk : K.lookup f = some ⟨oc, od, .func (PySem.W.ksFn name qual params body scope dV kV doc pm an cdv ct cc), osl⟩) (hcc : K.lookup cc = some ⟨cl, cld, .cell (some (.ref D)), csl⟩) (hf : fileB K f = true) (hD : (PySem.W.clsIn K D).isSome = true) (hm : mg "super" = none)
    (hp : (params.posonlyargs ++ params.args).head? = some ar) (ha : ar.arg = sf) (ks : scope.names.lookup ("super" : Str) = some .globalImplicit) (kc : scope.names.lookup ("__class__" : Str) = some .free) :
    SuDef (cxSu CX RP w K mg base N qual scope f cdv cc A outer s H E) f D sf := by
  obtain ⟨cda, ccl, cdd, vs, ccs, file, tf, e1, e2, e3, e4⟩ := fileB_ok hf lk
  refine ⟨rfl, ⟨oc, od, _, osl, ar, lk, hp, ha⟩, ⟨cda, ccl, cdd, vs, ccs, file, tf, e1, e2, e3, e4⟩, ⟨cc, cl, cld, csl, rfl, hcc⟩, Option.isSome_iff_exists.mp hD, ks, kc, top_super, hm⟩
/-- the promise of an __init__ on a fresh instance, whatever its class: the fields are set -/
theorem k_Send_init (T : TX K mg base) {b n : Nat} (hb : b ≤ 2) (hn : n ≤ 5) : FnR RP w K mg base CX0 6 (He.ma K (He.ga K "Send") "__init__") (spMade [.int (b : Int), .int (n : Int)] (He.ga K "Send") [("box", .int (b : Int)), ("number", .int (n : Int))]) := by
  obtain ⟨kp, oc, od, kV, doc, pm, an, cdv, ct, cc, osl, cl, cld, csl, lk, hcd, hcc⟩ := T.d_Send_init
  refine fn_su (N := ["self", "box", "number"]) (ps := ["self", "box", "number"]) lk hcd hcc (suScope_by (by decide +kernel)) (fun vs H Q E h => by obtain ⟨x, dx, rfl, _⟩ := h; rfl) (fun us hl => match us, hl with | [_, _, _], _ => rfl) fun A outer s H vs Q E hr h => ⟨_,
    psu_super (su_def lk hcc T.file_Send T.ic_Send T.f_super rfl rfl rfl rfl) rfl rfl (Or.inl rfl) rfl (pa_cons (pv 1) pa_nil)
      (pss_cons (ps_expr (pe_g (k_need_number T) (hr.mono (by decide)) (pa_cons (pv 2) pa_nil))) (pss_one (ps_fld (pv 0) (pv 2) rfl))), ?_⟩
  obtain ⟨x, dx, rfl, hx, hq⟩ := h
  refine ⟨x, He.ga K "Send", dx, [], 5, _, rfl, hx, ⟨T.sub_Send, _, T.sup_Send, T.tf_BoxDeed, T.fi_BoxDeed_init, k_BoxDeed_init (d := .send b n) T hb⟩, hr, T.tpAny, ?_⟩
  refine ⟨_, rfl, x, dx, rfl, hx, fun H1 e1 h1 => ?_⟩
  refine Evl.s_drop (ev_g (Evl.ea_cons (Evl.ev_var rfl) Evl.ea_nil) (sv_need rfl hn)) fun H2 e2 => ?_
  refine s_fld (Evl.ev_var rfl) (Evl.ev_var rfl) (e2 _ _ h1) (cls_deed T (.send b n)) (no_number T (.send b n)) (by show 1 < 1000; decide) fun H3 e3 => ?_
  exact hq _ ((e1.trans (ExB.of (e2.trans e3))).upd) upd_same
theorem rv_eqI {H : Hp} {i j : Int} : RV rEq (.int i) (.int j) H (.bl (decide (V.int i = V.int j))) := Evl.rv_eq rfl
theorem k_Move_init (T : TX K mg base) {b t : Nat} (hb : b ≤ 2) (ht : t ≤ 2) (hne : t ≠ b) : FnR RP w K mg base CX0 6 (He.ma K (He.ga K "Move") "__init__") (spMade [.int (b : Int), .int (t : Int)] (He.ga K "Move") [("box", .int (b : Int)), ("to", .int (t : Int))]) := by
  obtain ⟨kp, oc, od, kV, doc, pm, an, cdv, ct, cc, osl, cl, cld, csl, lk, hcd, hcc⟩ := T.d_Move_init
  refine fn_su (N := ["self", "box", "to"]) (ps := ["self", "box", "to"]) lk hcd hcc (suScope_by (by decide +kernel)) (fun vs H Q E h => by obtain ⟨x, dx, rfl, _⟩ := h; rfl) (fun us hl => match us, hl with | [_, _, _], _ => rfl) fun A outer s H vs Q E hr h => ⟨_,
    psu_super (su_def lk hcc T.file_Move T.ic_Move T.f_super rfl rfl rfl rfl) rfl rfl (Or.inl rfl) rfl (pa_cons (pv 1) pa_nil)
      (pss_cons (ps_expr (pe_g (k_need_box T) (hr.mono (by decide)) (pa_cons (pv 2) (pa_cons pe_str pa_nil)))) (pss_cons (ps_if (pt_cmpR op_eq (pv 2) (pv 1) (nomark _)) (pss_one ps_never) pss_nil) (pss_one (ps_fld (pv 0) (pv 2) rfl)))), ?_⟩
  obtain ⟨x, dx, rfl, hx, hq⟩ := h
  refine ⟨x, He.ga K "Move", dx, [], 5, _, rfl, hx, ⟨T.sub_Move, _, T.sup_Move, T.tf_BoxDeed, T.fi_BoxDeed_init, k_BoxDeed_init (d := .move b t) T hb⟩, hr, T.tpAny, ?_⟩
  refine ⟨_, rfl, x, dx, rfl, hx, fun H1 e1 h1 => ?_⟩
  refine Evl.s_drop (ev_g (Evl.ea_cons (Evl.ev_var rfl) (Evl.ea_cons Evl.ev_c Evl.ea_nil)) (sv_need rfl ht)) fun H2 e2 => ?_
  refine Evl.s_if (b := false) (Evl.et_is (Evl.et_test (Evl.ev_op (Evl.ev_var rfl) (Evl.ev_var rfl) rv_eqI)) (decide_eq_false (fun z => hne (by injection z with z; exact Int.ofNat.inj z)))) (fun h => by cases h) fun _ H3 e3 => ?_
  refine s_fld (Evl.ev_var rfl) (Evl.ev_var rfl) ((e2.trans e3) _ _ h1) (cls_deed T (.move b t)) (no_to T (.move b t)) (by show 1 < 1000; decide) fun H4 e4 => ?_
  exact hq _ ((e1.trans (ExB.of ((e2.trans e3).trans e4))).upd) upd_same
end
end Mp
set_option maxHeartbeats 4000000
/-! Defs: integer_in, deed_in. -/
namespace Mp
open PySem PySem.Spec PyProof.Rows L2
open Evl (Ex Ev EvL EvU EvT EvA RV SpV given)

/-- the words from place i on begin with l -/
def WordsAt (ws : List Str) (i : Nat) (l : List Str) : Prop := ∀ k w, l[k]? = some w → ws[i + k]? = some w
theorem WordsAt.head {ws : List Str} {i : Nat} {x : Str} {l : List Str} (h : WordsAt ws i (x :: l)) : ws[i]? = some x := h 0 x rfl
theorem WordsAt.tail {ws : List Str} {i : Nat} {x : Str} {l : List Str} (h : WordsAt ws i (x :: l)) : WordsAt ws (i + 1) l := fun k w e => by
  have z := h (k + 1) w e
  rw [show i + 1 + k = i + (k + 1) by omega]
  exact z
theorem WordsAt.left {ws : List Str} {i : Nat} {l m : List Str} (h : WordsAt ws i (l ++ m)) : WordsAt ws i l := fun k w e => h k w (by rw [List.getElem?_append_left (List.getElem?_eq_some_iff.mp e).1]; exact e)
theorem WordsAt.right {ws : List Str} {i : Nat} {l m : List Str} (h : WordsAt ws i (l ++ m)) : WordsAt ws (i + l.length) m := fun k w e => by
  have z := h (l.length + k) w (by rw [List.getElem?_append_right (by omega)]; simpa using e)
  rw [show i + l.length + k = i + (l.length + k) by omega]
  exact z
theorem atI_str {ws : List Str} {i : Nat} {x : Str} (h : ws[i]? = some x) : atI (ws.map V.str) (i : Int) = some (.str x) := atI_nat (by rw [List.getElem?_map, h]; rfl)
theorem WordsAt.lt {ws : List Str} {i : Nat} {x : Str} (h : ws[i]? = some x) : i < ws.length := (List.getElem?_eq_some_iff.mp h).1
def spIntIn (K : PySem.W.Frag) : Sp := fun vs H Q _ => ∃ (p : Addr) (ws : List Str) (i m n : Nat), vs = [.ref p, .int (i : Int), .int (m : Int)] ∧ SqL K H p (ws.map V.str) ∧ ws[i]? = some (nS n) ∧ n ≤ m ∧ m < 24 ∧ ws.length ≤ 40000 ∧ ∀ H', Ex H H' → Q (.int (n : Int)) H'
theorem sv_intIn {K : PySem.W.Frag} {H : Hp} {p : Addr} {ws : List Str} {i m n : Nat} (h : SqL K H p (ws.map V.str)) (hi : ws[i]? = some (nS n)) (hn : n ≤ m) (hm : m < 24) (hz : ws.length ≤ 40000) : SpV (spIntIn K) [.ref p, .int (i : Int), .int (m : Int)] H (.int (n : Int)) :=
  fun H1 e Q q E => ⟨p, ws, i, m, n, rfl, Evl.ex_l e h, hi, hn, hm, hz, fun H2 e2 => q H2 e2⟩
theorem inV_given {v : Nat → V} {n k : Nat} (h : k < n) (hv : eqV (v k) (v k) = true) : inV (v k) (given n (fun _ => true) v) = true := by
  unfold inV Evl.given
  rw [List.any_eq_true]
  exact ⟨v k, List.mem_map.mpr ⟨k, by simpa using h, rfl⟩, hv⟩
theorem flat_given {v : Nat → V} {f : Nat → Bool} (n : Nat) (h : ∀ i, flatV (v i) = true) : (given n f v).all flatV = true := by
  rw [List.all_eq_true]
  intro x hx
  obtain ⟨i, _, rfl⟩ := List.mem_map.mp hx
  exact h i
theorem ev_strI {te : TE} {σ : L2.St} {H : Hp} {i : Nat} (h : Ev te σ H (.int (i : Int))) (hi : i < 24) : Ev (tCB (fun xs H Q => ∃ i, xs = [.int i] ∧ i.natAbs.log2 < 1920 ∧ Q (.str (toString i)) H) (tCons te tNil)) σ H (.str (nS i)) :=
  Evl.ev_cb (Evl.ea_cons h Evl.ea_nil) fun H1 e Q q => ⟨(i : Int), rfl, by
    have : (i : Int).natAbs = i := Int.natAbs_natCast i
    rw [this]
    exact Nat.lt_of_le_of_lt (Nat.log2_le_self i) (by omega), q H1 (Ex.refl H1)⟩
theorem ev_intS {te : TE} {σ : L2.St} {H : Hp} {n : Nat} (h : Ev te σ H (.str (nS n))) (hn : n < 24) : Ev (tCB (fun xs H Q => ∃ a n, xs = [.str a] ∧ PySem.intText? a = some n ∧ a.length ≤ 640 ∧ Q (.int n) H) (tCons te tNil)) σ H (.int (n : Int)) :=
  Evl.ev_cb (Evl.ea_cons h Evl.ea_nil) fun H1 e Q q => ⟨nS n, (n : Int), rfl, nS_int n hn, Nat.le_trans (nS_len n hn) (by decide), q H1 (Ex.refl H1)⟩
theorem ev_add {ta tb : TE} {σ : L2.St} {H : Hp} {i j : Int} (ha : Ev ta σ H (.int i)) (hb : Ev tb σ H (.int j)) : Ev (tOp (rI0 fun i j => .int (i + j)) ta tb) σ H (.int (i + j)) := Evl.ev_op ha hb Evl.rv_I0
theorem ev_addN {ta tb : TE} {σ : L2.St} {H : Hp} {i j : Nat} (ha : Ev ta σ H (.int (i : Int))) (hb : Ev tb σ H (.int (j : Int))) : Ev (tOp (rI0 fun i j => .int (i + j)) ta tb) σ H (.int ((i + j : Nat) : Int)) := Evl.ev_is (ev_add ha hb) (by rw [Int.natCast_add])
theorem strEq_self (z : Str) : eqV (.str z) (.str z) = true := by
  show (z == z) = true
  exact beq_self_eq_true z

section
variable {w : World} {K : PySem.W.Frag} {mg : Str → Option Value} {base : Heap}
theorem sc_integer_in : FnScope ["words", "at", "most", "number"] ["words", "at", "most"] (defScope s_integer_in) := ⟨rfl, rfl, rfl, by decide +kernel, rfl, by decide +kernel, by decide +kernel⟩
theorem k_integer_in (T : TX K mg base) : FG RP w K mg base 1 "integer_in" (spIntIn K) := by
  refine fg_of T.g_integer_in T.kf_integer_in (fr_of T.d_integer_in sc_integer_in (fun vs H Q E h => by obtain ⟨p, ws, i, m, n, rfl, _⟩ := h; rfl) (fun _ _ _ _ _ _ us hl => match us, hl with | [_, _, _], _ => rfl) fun cdv A outer s H vs Q E hr h => ⟨_,
    pss_cons (ps_if (PW.pt (pw_or (pt_cmpR op_ge (pv 1) (pe_callB call_len_seq rfl T.f_len PySem.boot_len (pa_cons (pv 0) pa_nil)) (nomark _)) (pw_or1 (pt_cmpR op_notIn_seq (pe_ix ix_list (pv 0) (pv 1) (fun _ _ => rfl))
      (pe_lc (own := [("number", 3)]) (g := gName 3) (tt := tYes) rfl sc_integer_in.nd (pi_range1 rfl T.f_range (pa_cons (pe_op op_add (pv 2) pe_int) pa_nil)) (blkOk_by (own := [("number", 3)]) (N := ["words", "at", "most", "number"]) (sc := defScope s_integer_in) (by decide +kernel))
        (fun _ _ _ _ _ => pg_name (i := 3) sc_integer_in.nd rfl (Or.inl rfl)) (fun _ _ _ _ _ => pts_nil) (fun _ _ _ _ _ => pe_callTy call_str_int rfl T.f_str (by decide +kernel) (pa_cons (pv 3) pa_nil))) (by rfl))))) (pss_one ps_never) pss_nil)
    (pss_one (ps_ret (pe_callTy call_int_str rfl T.f_int (by decide +kernel) (pa_cons (pe_ix ix_list (pv 0) (pv 1) (fun _ _ => rfl)) pa_nil)))), ?_⟩)
  obtain ⟨p, ws, i, m, n, rfl, hw, hi, hn, hm, hz, hq⟩ := h
  have hlt := WordsAt.lt hi
  refine Evl.s_if (b := false) (Evl.et_is (Evl.et_or (a := false) (b := false) (Evl.et_is (Evl.et_test (Evl.ev_op (Evl.ev_var rfl) (Evl.ev_len (Evl.ev_var rfl) hw) Evl.rv_I0)) ?_) fun _ => Evl.et_is (Evl.et_test (Evl.ev_opL (z := .bl (!inV (.str (nS n)) (given (m + 1) (fun _ => true) fun i => .str (nS i)))) (Evl.ev_op (Evl.ev_var rfl) (Evl.ev_var rfl) (Evl.rv_ixL hw (atI_str hi))) ?_ fun q H1 hq' e => Evl.rv_niL (Evl.sq_of hq') rfl (flat_given _ fun _ => rfl))) ?_) rfl) (fun h => by cases h) fun _ H1 e1 => ?_
  · rw [List.length_map]
    exact decide_eq_false (by omega)
  · have z := Evl.el_lcR1 (σ := start ["words", "at", "most", "number"] [V.ref p, V.int (i : Int), V.int (m : Int)]) (H := H) (te := tCB (fun xs H Q => ∃ i, xs = [.int i] ∧ i.natAbs.log2 < 1920 ∧ Q (.str (toString i)) H) (tCons (tVar 3) tNil)) (t := tYes) (ta := tCons (tOp (rI0 fun i j => .int (i + j)) (tVar 2) (tC (.int 1))) tNil) (j := 3) (vs := [3]) (n := ((m + 1 : Nat) : Int)) (fun _ => true) (fun i => .str (nS i))
      (Evl.ea_cons (ev_addN (j := 1) (Evl.ev_var rfl) Evl.ev_c) Evl.ea_nil) (by omega) (fun _ => rfl) (fun i H1 e hi => fun H2 e2 Q q => q H2 (Ex.refl H2)) (fun i H1 e hi _ => ev_strI (Evl.ev_var rfl) (by omega))
    exact z
  · rw [inV_given (v := fun i => .str (nS i)) (by omega) (strEq_self _)]
    rfl
  · exact Evl.s_ret (ev_intS (Evl.ev_op (Evl.ev_var rfl) (Evl.ev_var rfl) (Evl.rv_ixL (Evl.ex_l e1 hw) (atI_str hi))) (by omega)) fun H2 e2 => hq H2 (e1.trans e2)
end
end Mp
set_option maxHeartbeats 4000000
/-! Defs: deed_in. -/
namespace Mp
open PySem PySem.Spec PyProof.Rows L2
open Evl (Ex Ev EvL EvU EvT EvA RV SpV given)

theorem fr_union {ι : Type} {w : World} {K : PySem.W.Frag} {mg : Str → Option Value} {base : Heap} {k : Nat} {f : Addr} {c : ι → Prop} {sp : ι → Sp} (h : ∀ i, c i → FnR RP w K mg base CX0 k f (sp i)) : FnR RP w K mg base CX0 k f (fun vs H Q E => ∃ i, c i ∧ sp i vs H Q E) := by
  intro A outer s H us vs Q E hr e0 r ⟨i, hc, hs⟩
  exact h i hc A outer s H us vs Q E hr e0 r hs
/-- C's __init__ makes a deed of the class C -/
def spDd (K : PySem.W.Frag) (C : Str) : Sp := fun vs H Q E => ∃ d : Dd, (d.ok = true ∧ d.cls = C) ∧ spMade (d.args.map fun (n : Nat) => V.int (n : Int)) (He.ga K d.cls) d.fs vs H Q E
section
variable {w : World} {K : PySem.W.Frag} {mg : Str → Option Value} {base : Heap}
theorem k_init_box (T : TX K mg base) {C : Str} (h : ∀ d : Dd, d.ok = true → d.cls = C → ∃ b, d.boxy = some b ∧ b ≤ 2 ∧ d.args = [b] ∧ d.fs = [(("box" : Str), V.int (b : Int))]) : FnR RP w K mg base CX0 6 (He.ma K (He.ga K "BoxDeed") "__init__") (spDd K C) :=
  fr_union fun d hd => by
    obtain ⟨b, _, hb, ea, ef⟩ := h d hd.1 hd.2
    rw [ea, ef]
    exact (k_BoxDeed_init (d := d) T hb).mono (by decide)
theorem init_Take (T : TX K mg base) : FnR RP w K mg base CX0 6 (He.ma K (He.ga K "BoxDeed") "__init__") (spDd K "Take") := k_init_box T fun d ok h => by
  cases d with
  | take b => exact ⟨b, rfl, by simpa [Dd.ok] using ok, rfl, rfl⟩
  | _ => exact absurd h (by simp only [Dd.cls]; decide +kernel)
theorem init_Put (T : TX K mg base) : FnR RP w K mg base CX0 6 (He.ma K (He.ga K "BoxDeed") "__init__") (spDd K "Put") := k_init_box T fun d ok h => by
  cases d with
  | put b => exact ⟨b, rfl, by simpa [Dd.ok] using ok, rfl, rfl⟩
  | _ => exact absurd h (by simp only [Dd.cls]; decide +kernel)
theorem init_Out (T : TX K mg base) : FnR RP w K mg base CX0 6 (He.ma K (He.ga K "BoxDeed") "__init__") (spDd K "Out") := k_init_box T fun d ok h => by
  cases d with
  | out b => exact ⟨b, rfl, by simpa [Dd.ok] using ok, rfl, rfl⟩
  | _ => exact absurd h (by simp only [Dd.cls]; decide +kernel)
theorem init_Clear (T : TX K mg base) : FnR RP w K mg base CX0 6 (He.ma K (He.ga K "BoxDeed") "__init__") (spDd K "Clear") := k_init_box T fun d ok h => by
  cases d with
  | clear b => exact ⟨b, rfl, by simpa [Dd.ok] using ok, rfl, rfl⟩
  | _ => exact absurd h (by simp only [Dd.cls]; decide +kernel)
theorem init_Send (T : TX K mg base) : FnR RP w K mg base CX0 6 (He.ma K (He.ga K "Send") "__init__") (spDd K "Send") := fr_union fun d hd => by
  obtain ⟨ok, h⟩ := hd
  cases d with
  | send b n =>
    simp only [Dd.ok, Bool.and_eq_true, decide_eq_true_eq] at ok
    exact k_Send_init T ok.1 ok.2
  | _ => exact absurd h (by simp only [Dd.cls]; decide +kernel)
theorem init_Move (T : TX K mg base) : FnR RP w K mg base CX0 6 (He.ma K (He.ga K "Move") "__init__") (spDd K "Move") := fr_union fun d hd => by
  obtain ⟨ok, h⟩ := hd
  cases d with
  | move b n =>
    simp only [Dd.ok, Bool.and_eq_true, decide_eq_true_eq] at ok
    exact k_Move_init T ok.1 ok.2.1 ok.2.2
  | _ => exact absurd h (by simp only [Dd.cls]; decide +kernel)
theorem init_Answer (T : TX K mg base) : FnR RP w K mg base CX0 6 (He.ma K (He.ga K "Answer") "__init__") (spDd K "Answer") := fr_union fun d hd => by
  obtain ⟨ok, h⟩ := hd
  cases d with
  | answer n =>
    simp only [Dd.ok, decide_eq_true_eq] at ok
    exact (k_Answer_init T ok).mono (by decide)
  | _ => exact absurd h (by simp only [Dd.cls]; decide +kernel)
end
section
variable {K : PySem.W.Frag} {σ : L2.St} {H : Hp} {t : TA} {E : XK} {te ta tb : TE}
theorem ep_deed {d : Dd} (hd : d.ok = true) (h : EvA t σ H (d.args.map fun (n : Nat) => V.int (n : Int))) : EvP (StX.tMakeR (He.ga K d.cls) (spDd K d.cls) E t) σ H fun v H' => IsDeed K H' v d :=
  ep_make h (fun x dx H1 e hx Q q E => ⟨d, ⟨hd, rfl⟩, x, dx, rfl, hx, q⟩) fun x dx H' e hx => ⟨hd, x, dx, rfl, hx⟩
/-- (a, b): a by a word -/
theorem ep_tup2 {P : V → Hp → Prop} {y : V} (hP : ∀ v H H', Ex H H' → P v H → P v H') (ha : EvP ta σ H P) (hb : Ev tb σ H y) : EvP (tTup (tCons ta (tCons tb tNil))) σ H fun v H' => ∃ t x, v = .ref t ∧ H' t = some (.tup [x, y]) ∧ P x H' := fun H1 e Q q =>
  ha H1 e _ fun x H2 e2 p => hb H2 (e.trans e2) _ fun H3 e3 => ⟨by show 2 ≤ sizeLine; decide, fun t ht => q _ _ ((e2.trans e3).trans (Ex.new ht)) ⟨t, x, rfl, upd_same, hP _ _ _ (Ex.new ht) (hP _ _ _ e3 p)⟩⟩
/-- .. for x in a tuple told by a word -/
theorem el_lcTP {xs : List V} {tl : TE} {tt : TT} {j : Nat} {vs : List Nat} (f : Nat → Bool) (u : Nat → V) (h : EvP tl σ H fun v H' => ∃ p, v = .ref p ∧ SqT K H' p xs) (hz : xs.length ≤ 40000) (hw : ∀ x, wipe ((wipe σ vs).set j (some x)) vs = wipe σ vs)
    (turn : ∀ (i : Nat) (x : V) H1, Ex H H1 → xs[i]? = some x → EvT tt ((wipe σ vs).set j (some x)) H1 (f i) ∧ (f i = true → Ev te ((wipe σ vs).set j (some x)) H1 (u i))) :
    EvL (tLc (iTup K tl) (gName j) tt te vs) σ H (given xs.length f u) := fun H0 e0 Q q => h H0 e0 _ fun v H1 e1 ⟨p, ev, hp⟩ => by
  subst ev
  have z := el_lcG (σ := σ) (H := H1) (te := te) (wi := fun σ H R => R (Itt K p) H) (g := gName j) (tt := tt) (vs := vs) (J := Itt K p) xs.length f u hz (fun H1 e R r => r H1 (Ex.refl H1)) (fun i H1 e hi => ⟨xs, xs[i], Evl.ex_t e hp, List.getElem?_eq_getElem hi⟩) (fun H1 e => ⟨xs, Evl.ex_t e hp, Nat.le_refl _⟩) (fun i x H2 H3 e hi hy => by
      obtain ⟨rfl, hy⟩ := hy
      have hxi := hy xs (Evl.ex_t e hp)
      obtain ⟨t1, t2⟩ := turn i x _ ((e0.trans e1).trans e) hxi
      exact ⟨Ex.refl _, _, hw x, fun Q q => q _ (Ex.refl _), t1, t2⟩)
  exact ⟨p, rfl, ⟨xs, hp⟩, z H1 (Ex.refl H1) Q fun p' H2 n e2 h2 => q p' H2 (Evl.fresh_back e1 n) (e1.trans e2) h2⟩
/-- any(a new list of bools) -/
theorem ev_any {bs : List Bool} (h : EvL te σ H (bs.map V.bl)) : Ev (tCB (rAny K) (tCons te tNil)) σ H (.bl (bs.any id)) := fun H1 e Q q => h H1 e _ fun p H2 _ e2 hp => ⟨p, bs, rfl, Evl.sq_of hp, q H2 e2⟩
theorem ev_all {bs : List Bool} (h : EvL te σ H (bs.map V.bl)) : Ev (tCB (rAll K) (tCons te tNil)) σ H (.bl (bs.all id)) := fun H1 e Q q => h H1 e _ fun p H2 _ e2 hp => ⟨p, bs, rfl, Evl.sq_of hp, q H2 e2⟩
theorem given_bools (n : Nat) (f : Nat → Bool) (b : Nat → Bool) : given n f (fun i => .bl (b i)) = (((List.range n).filter f).map b).map V.bl := by
  unfold Evl.given
  rw [List.map_map]
  rfl
end
end Mp
set_option maxHeartbeats 4000000
/-! Defs: deed_in. -/
namespace Mp
open PySem PySem.Spec PyProof.Rows L2
open Evl (Ex Ev EvL EvU EvT EvA RV SpV given)

/-- what deed_in gives -/
def IsDeedAt (K : PySem.W.Frag) (d : Dd) (j : Nat) (v : V) (H : Hp) : Prop := ∃ t x, v = .ref t ∧ H t = some (.tup [x, .int (j : Int)]) ∧ IsDeed K H x d
def SqTL (K : PySem.W.Frag) (H : Hp) (p : Addr) (xs : List V) : Prop := SqL K H p xs ∨ SqT K H p xs
theorem SqTL.ex {K : PySem.W.Frag} {H H' : Hp} {p : Addr} {xs : List V} (e : Ex H H') (h : SqTL K H p xs) : SqTL K H' p xs := h.elim (fun z => .inl (Evl.ex_l e z)) fun z => .inr (Evl.ex_t e z)
theorem rv_inTL {K : PySem.W.Frag} {H : Hp} {p : Addr} {x : V} {xs : List V} (h : SqTL K H p xs) (hx : flatV x = true) (ha : xs.all flatV = true) : RV (rIn K false) x (.ref p) H (.bl (inV x xs)) := h.elim (fun z => Evl.rv_isL z hx ha) fun z => Evl.rv_isT z hx ha
def spDeedIn (K : PySem.W.Frag) : Sp := fun vs H Q _ => ∃ (p q : Addr) (ws ss : List Str) (i : Nat) (d : Dd), vs = [.ref p, .int (i : Int), .ref q] ∧ SqL K H p (ws.map V.str) ∧ ws.length ≤ 40000 ∧ WordsAt ws i d.words ∧ d.ok = true ∧ SqTL K H q (ss.map V.str) ∧ (d.sides.any fun z => ss.contains z) = true ∧
  ∀ v H', Ex H H' → IsDeedAt K d (i + d.words.length) v H' → Q v H'
theorem sp_deedIn {K : PySem.W.Frag} {H : Hp} {p q : Addr} {ws ss : List Str} {i : Nat} {d : Dd} (h : SqL K H p (ws.map V.str)) (hz : ws.length ≤ 40000) (hw : WordsAt ws i d.words) (ok : d.ok = true) (hs : SqTL K H q (ss.map V.str)) (ha : (d.sides.any fun z => ss.contains z) = true) :
    SpP (spDeedIn K) [.ref p, .int (i : Int), .ref q] H (IsDeedAt K d (i + d.words.length)) := fun H1 e Q k E => ⟨p, q, ws, ss, i, d, rfl, Evl.ex_l e h, hz, hw, ok, hs.ex e, ha, fun v H2 e2 z => k v H2 e2 z⟩
theorem any_given (n : Nat) (b : Nat → Bool) : ((((List.range n).filter fun _ => true).map b).any id) = (List.range n).any b := by
  rw [List.filter_eq_self.mpr (fun _ _ => rfl), List.any_map]
  rfl
theorem range_any {α : Type} (xs : List α) (f : α → Bool) (b : Nat → Bool) (h : ∀ i x, xs[i]? = some x → b i = f x) : (List.range xs.length).any b = xs.any f := by
  rw [Bool.eq_iff_iff, List.any_eq_true, List.any_eq_true]
  constructor
  · rintro ⟨i, hi, hb⟩
    have hi' : i < xs.length := by simpa using hi
    exact ⟨xs[i], List.getElem_mem hi', by rw [← h i _ (List.getElem?_eq_getElem hi')]; exact hb⟩
  · rintro ⟨x, hx, hb⟩
    obtain ⟨i, hi, rfl⟩ := List.mem_iff_getElem.mp hx
    exact ⟨i, by simpa using hi, by rw [h i _ (List.getElem?_eq_getElem hi)]; exact hb⟩
section
variable {w : World} {K : PySem.W.Frag} {mg : Str → Option Value} {base : Heap}
theorem mk_Take (T : TX K mg base) : Mk K (He.ga K "Take") (He.ma K (He.ga K "BoxDeed") "__init__") := ⟨T.mk_Take, T.at_Take_init, T.fn_BoxDeed_init, T.kp_Take⟩
theorem mk_Put (T : TX K mg base) : Mk K (He.ga K "Put") (He.ma K (He.ga K "BoxDeed") "__init__") := ⟨T.mk_Put, T.at_Put_init, T.fn_BoxDeed_init, T.kp_Put⟩
theorem mk_Out (T : TX K mg base) : Mk K (He.ga K "Out") (He.ma K (He.ga K "BoxDeed") "__init__") := ⟨T.mk_Out, T.at_Out_init, T.fn_BoxDeed_init, T.kp_Out⟩
theorem mk_Clear (T : TX K mg base) : Mk K (He.ga K "Clear") (He.ma K (He.ga K "BoxDeed") "__init__") := ⟨T.mk_Clear, T.at_Clear_init, T.fn_BoxDeed_init, T.kp_Clear⟩
theorem mk_Send (T : TX K mg base) : Mk K (He.ga K "Send") (He.ma K (He.ga K "Send") "__init__") := ⟨T.mk_Send, T.at_Send_init, T.fn_Send_init, T.kp_Send⟩
theorem mk_Move (T : TX K mg base) : Mk K (He.ga K "Move") (He.ma K (He.ga K "Move") "__init__") := ⟨T.mk_Move, T.at_Move_init, T.fn_Move_init, T.kp_Move⟩
theorem mk_Answer (T : TX K mg base) : Mk K (He.ga K "Answer") (He.ma K (He.ga K "Answer") "__init__") := ⟨T.mk_Answer, T.at_Answer_init, T.fn_Answer_init, T.kp_Answer⟩
abbrev nDeedIn : List Str := ["words", "at", "sides", "verb", "box", "to", "side"]
theorem sc_deed_in : FnScope nDeedIn ["words", "at", "sides"] (defScope s_deed_in) := ⟨rfl, rfl, rfl, by decide +kernel, rfl, by decide +kernel, by decide +kernel⟩
theorem pass00 {X : Cx} : Passes CX0 X E0 := fun _ _ _ _ _ _ _ z => z.elim
theorem k_deed_in (T : TX K mg base) : FG RP w K mg base 8 "deed_in" (spDeedIn K) := by
  refine fg_of T.g_deed_in T.kf_deed_in (fr_of T.d_deed_in sc_deed_in (fun vs H Q E h => by obtain ⟨p, q, ws, ss, i, d, rfl, _⟩ := h; rfl) (fun _ _ _ _ _ _ us hl => match us, hl with | [_, _, _], _ => rfl) fun cdv A outer s H vs Q E hr h => ⟨_,
    pss_cons (ps_set (i := 3) sc_deed_in.nd rfl (Or.inl rfl) (pe_ifExp (pt_cmpR op_lt (pv 1) (pe_callB call_len_seq rfl T.f_len PySem.boot_len (pa_cons (pv 0) pa_nil)) (nomark _)) (pe_ix ix_list (pv 0) (pv 1) (fun _ _ => rfl)) pe_str))
    (pss_cons (ps_if (pt_not (pt_val (pe_callB (cr_any rfl) rfl T.f_any (by decide +kernel) (pa_cons (pe_lc (own := [("side", 6)]) (g := gName 6) (tt := tYes) rfl sc_deed_in.nd (pi_tup (pe_g (k_sides_of T) (hr.mono (by decide)) (pa_cons (pv 3) pa_nil)))
      (blkOk_by (own := [("side", 6)]) (N := nDeedIn) (sc := defScope s_deed_in) (by decide +kernel)) (fun _ _ _ _ _ => pg_name (i := 6) sc_deed_in.nd rfl (Or.inl rfl)) (fun _ _ _ _ _ => pts_nil) (fun _ _ _ _ _ => pe_cmpR (r := rIn K false) op_in_seq (pv 6) (pv 2) (by rfl))) pa_nil)))) (pss_one ps_never) pss_nil)
    (pss_cons (ps_if (pt_cmpR op_eq (pv 3) pe_str (nomark _)) (pss_one (ps_ret (pe_tup (pa_cons (StX.pe_makeR (mk_Answer T) (init_Answer T) hr rfl T.g_Answer pass00 (pa_cons (pe_g (k_integer_in T) (hr.mono (by decide)) (pa_cons (pv 0) (pa_cons (pe_op op_add (pv 1) pe_int) (pa_cons (pe_gI T.i_MOST_NUMBER) pa_nil)))) pa_nil)) (pa_cons (pe_op op_add (pv 1) pe_int) pa_nil))))) pss_nil)
    (pss_cons (ps_set (i := 4) sc_deed_in.nd rfl (Or.inl rfl) (pe_g (k_integer_in T) (hr.mono (by decide)) (pa_cons (pv 0) (pa_cons (pe_op op_add (pv 1) pe_int) (pa_cons (pe_gI T.i_MOST_BOX) pa_nil)))))
    (pss_cons (ps_match (pv 3)
      (pm_cons pp_str (pss_one (ps_ret (pe_tup (pa_cons (StX.pe_makeR (mk_Take T) (init_Take T) hr rfl T.g_Take pass00 (pa_cons (pv 4) pa_nil)) (pa_cons (pe_op op_add (pv 1) pe_int) pa_nil)))))
      (pm_cons pp_str (pss_one (ps_ret (pe_tup (pa_cons (StX.pe_makeR (mk_Put T) (init_Put T) hr rfl T.g_Put pass00 (pa_cons (pv 4) pa_nil)) (pa_cons (pe_op op_add (pv 1) pe_int) pa_nil)))))
      (pm_cons pp_str (pss_one (ps_ret (pe_tup (pa_cons (StX.pe_makeR (mk_Out T) (init_Out T) hr rfl T.g_Out pass00 (pa_cons (pv 4) pa_nil)) (pa_cons (pe_op op_add (pv 1) pe_int) pa_nil)))))
      (pm_cons pp_str (pss_one (ps_ret (pe_tup (pa_cons (StX.pe_makeR (mk_Clear T) (init_Clear T) hr rfl T.g_Clear pass00 (pa_cons (pv 4) pa_nil)) (pa_cons (pe_op op_add (pv 1) pe_int) pa_nil)))))
      (pm_cons pp_str (pss_one (ps_ret (pe_tup (pa_cons (StX.pe_makeR (mk_Send T) (init_Send T) hr rfl T.g_Send pass00 (pa_cons (pv 4) (pa_cons (pe_g (k_integer_in T) (hr.mono (by decide)) (pa_cons (pv 0) (pa_cons (pe_op op_add (pv 1) pe_int) (pa_cons (pe_gI T.i_MOST_NUMBER) pa_nil)))) pa_nil))) (pa_cons (pe_op op_add (pv 1) pe_int) pa_nil)))))
      pm_nil))))))
    (pss_cons (ps_set (i := 5) sc_deed_in.nd rfl (Or.inl rfl) (pe_g (k_integer_in T) (hr.mono (by decide)) (pa_cons (pv 0) (pa_cons (pe_op op_add (pv 1) pe_int) (pa_cons (pe_gI T.i_MOST_BOX) pa_nil)))))
    (pss_cons (ps_if (pt_cmpR op_eq (pv 5) (pv 4) (nomark _)) (pss_one ps_never) pss_nil)
    (pss_one (ps_ret (pe_tup (pa_cons (StX.pe_makeR (mk_Move T) (init_Move T) hr rfl T.g_Move pass00 (pa_cons (pv 4) (pa_cons (pv 5) pa_nil))) (pa_cons (pe_op op_add (pv 1) pe_int) pa_nil))))))))))), ?_⟩)
  obtain ⟨p, q, ws, ss, i, d, rfl, hw, hz, hat, ok, hs, hany, hq⟩ := h
  have h0 : ws[i]? = some d.verb := hat.head
  have hlt := WordsAt.lt h0
  refine Evl.q_asg (v := .str d.verb) (Evl.ev_if (b := true) (Evl.et_is (Evl.et_test (Evl.ev_op (Evl.ev_var rfl) (Evl.ev_len (Evl.ev_var rfl) hw) Evl.rv_I0)) (decide_eq_true (by rw [List.length_map]; omega))) (fun _ => Evl.ev_op (Evl.ev_var rfl) (Evl.ev_var rfl) (Evl.rv_ixL hw (atI_str h0))) fun h => by cases h) fun H1 e1 => ?_

  refine Evl.q_when (b := false) (Evl.et_is (Evl.et_not (Evl.et_B (ev_any (bs := (((List.range (d.sides.map V.str).length).filter fun _ => true).map fun k => ss.contains (d.sides.getD k ""))) ?_))) ?_) (fun h => by cases h) fun _ H2 e2 => ?_
  · rw [← given_bools]
    refine el_lcTP (K := K) (j := 6) (vs := [6]) (xs := d.sides.map V.str) (fun _ => true) (fun k => .bl (ss.contains (d.sides.getD k ""))) ?_ ?_ (fun _ => rfl) fun k x H3 e3 hk => ⟨fun H4 e4 Q q => q H4 (Ex.refl H4), fun _ => ?_⟩
    · refine EvP.imp (ep_g (Evl.ea_cons (Evl.ev_var rfl) Evl.ea_nil) sp_sides) fun v H3 _ z => ?_
      obtain ⟨p', ev, hp'⟩ := z
      rw [sidesOf_verb] at hp'
      exact ⟨p', ev, hp'⟩
    · rw [List.length_map]
      have : d.sides.length ≤ 2 := by cases d <;> simp [Dd.sides]
      omega
    · rw [List.getElem?_map] at hk
      obtain ⟨z, hz', rfl⟩ : ∃ z, d.sides[k]? = some z ∧ V.str z = x := by
        cases e : d.sides[k]? with
        | none => rw [e] at hk; cases hk
        | some z => rw [e] at hk; exact ⟨z, rfl, Option.some.inj hk⟩
      have hg : d.sides.getD k "" = z := by rw [List.getD_eq_getElem?_getD, hz']; rfl
      rw [hg, ← inV_str]
      exact Evl.ev_op (Evl.ev_var rfl) (Evl.ev_var rfl) (rv_inTL (hs.ex (e1.trans e3)) rfl (flat_strs _))
  · rw [any_given, List.length_map, range_any d.sides (fun z => ss.contains z) (fun k => ss.contains (d.sides.getD k "")) (fun k x e => by rw [List.getD_eq_getElem?_getD, e]; rfl), hany]
    rfl
  have e12 := e1.trans e2
  have hw2 := Evl.ex_l e12 hw
  refine Evl.q_when (b := decide (V.str d.verb = V.str "answer")) (Evl.et_test (Evl.ev_op (Evl.ev_var rfl) Evl.ev_c (Evl.rv_eq rfl))) (fun hv H3 e3 => ?_) fun hv H3 e3 => ?_
  · cases d with
    | answer n =>
      simp only [Dd.ok, decide_eq_true_eq] at ok
      refine sp_ret (P := IsDeedAt K (.answer n) (i + 2)) (ep_tup2 (P := fun v H' => IsDeed K H' v (.answer n)) (fun v H H' e h => h.ex e) (ep_deed (d := .answer n) (by simpa [Dd.ok] using ok) (Evl.ea_cons (ev_g (Evl.ea_cons (Evl.ev_var rfl) (Evl.ea_cons (ev_addN (j := 1) (Evl.ev_var rfl) Evl.ev_c) (Evl.ea_cons Evl.ev_c Evl.ea_nil)))
        (sv_intIn (m := 5) (Evl.ex_l e3 hw2) hat.tail.head ok (by omega) hz)) Evl.ea_nil)) (ev_addN (j := 2) (Evl.ev_var rfl) Evl.ev_c)) fun v H4 e4 z => hq v H4 ((e12.trans e3).trans e4) z
    | _ => exact absurd (of_decide_eq_true hv) (by simp only [Dd.verb]; intro z; injection z with z; revert z; decide +kernel)
  have hw3 := Evl.ex_l e3 hw2
  have e13 := e12.trans e3
  cases d with
  | take b =>
    simp only [Dd.ok, decide_eq_true_eq] at ok
    refine Evl.q_asg (v := .int (b : Int)) (ev_g (Evl.ea_cons (Evl.ev_var rfl) (Evl.ea_cons (ev_addN (j := 1) (Evl.ev_var rfl) Evl.ev_c) (Evl.ea_cons Evl.ev_c Evl.ea_nil))) (sv_intIn (m := 2) hw3 hat.tail.head ok (by omega) hz)) fun H4 e4 => ?_
    refine ⟨_, rfl, _, rfl, ?_⟩
    refine (if_pos (by decide +kernel : decide (("take" : Str) = "take") = true)).mpr ?_
    refine sp_ret (P := IsDeedAt K (.take b) (i + 2)) (ep_tup2 (P := fun v H' => IsDeed K H' v (.take b)) (fun v H H' e h => h.ex e) (ep_deed (d := .take b) (by simpa [Dd.ok] using ok) (Evl.ea_cons (Evl.ev_var rfl) Evl.ea_nil)) (ev_addN (j := 2) (Evl.ev_var rfl) Evl.ev_c)) fun v H5 e5 z => hq v H5 ((e13.trans e4).trans e5) z
  | put b =>
    simp only [Dd.ok, decide_eq_true_eq] at ok
    refine Evl.q_asg (v := .int (b : Int)) (ev_g (Evl.ea_cons (Evl.ev_var rfl) (Evl.ea_cons (ev_addN (j := 1) (Evl.ev_var rfl) Evl.ev_c) (Evl.ea_cons Evl.ev_c Evl.ea_nil))) (sv_intIn (m := 2) hw3 hat.tail.head ok (by omega) hz)) fun H4 e4 => ?_
    refine ⟨_, rfl, _, rfl, ?_⟩
    refine (if_neg (by decide +kernel : ¬ decide (("put" : Str) = "take") = true)).mpr ?_
    refine (if_pos (by decide +kernel : decide (("put" : Str) = "put") = true)).mpr ?_
    refine sp_ret (P := IsDeedAt K (.put b) (i + 2)) (ep_tup2 (P := fun v H' => IsDeed K H' v (.put b)) (fun v H H' e h => h.ex e) (ep_deed (d := .put b) (by simpa [Dd.ok] using ok) (Evl.ea_cons (Evl.ev_var rfl) Evl.ea_nil)) (ev_addN (j := 2) (Evl.ev_var rfl) Evl.ev_c)) fun v H5 e5 z => hq v H5 ((e13.trans e4).trans e5) z
  | out b =>
    simp only [Dd.ok, decide_eq_true_eq] at ok
    refine Evl.q_asg (v := .int (b : Int)) (ev_g (Evl.ea_cons (Evl.ev_var rfl) (Evl.ea_cons (ev_addN (j := 1) (Evl.ev_var rfl) Evl.ev_c) (Evl.ea_cons Evl.ev_c Evl.ea_nil))) (sv_intIn (m := 2) hw3 hat.tail.head ok (by omega) hz)) fun H4 e4 => ?_
    refine ⟨_, rfl, _, rfl, ?_⟩
    refine (if_neg (by decide +kernel : ¬ decide (("out" : Str) = "take") = true)).mpr ?_
    refine (if_neg (by decide +kernel : ¬ decide (("out" : Str) = "put") = true)).mpr ?_
    refine (if_pos (by decide +kernel : decide (("out" : Str) = "out") = true)).mpr ?_
    refine sp_ret (P := IsDeedAt K (.out b) (i + 2)) (ep_tup2 (P := fun v H' => IsDeed K H' v (.out b)) (fun v H H' e h => h.ex e) (ep_deed (d := .out b) (by simpa [Dd.ok] using ok) (Evl.ea_cons (Evl.ev_var rfl) Evl.ea_nil)) (ev_addN (j := 2) (Evl.ev_var rfl) Evl.ev_c)) fun v H5 e5 z => hq v H5 ((e13.trans e4).trans e5) z
  | clear b =>
    simp only [Dd.ok, decide_eq_true_eq] at ok
    refine Evl.q_asg (v := .int (b : Int)) (ev_g (Evl.ea_cons (Evl.ev_var rfl) (Evl.ea_cons (ev_addN (j := 1) (Evl.ev_var rfl) Evl.ev_c) (Evl.ea_cons Evl.ev_c Evl.ea_nil))) (sv_intIn (m := 2) hw3 hat.tail.head ok (by omega) hz)) fun H4 e4 => ?_
    refine ⟨_, rfl, _, rfl, ?_⟩
    refine (if_neg (by decide +kernel : ¬ decide (("clear" : Str) = "take") = true)).mpr ?_
    refine (if_neg (by decide +kernel : ¬ decide (("clear" : Str) = "put") = true)).mpr ?_
    refine (if_neg (by decide +kernel : ¬ decide (("clear" : Str) = "out") = true)).mpr ?_
    refine (if_pos (by decide +kernel : decide (("clear" : Str) = "clear") = true)).mpr ?_
    refine sp_ret (P := IsDeedAt K (.clear b) (i + 2)) (ep_tup2 (P := fun v H' => IsDeed K H' v (.clear b)) (fun v H H' e h => h.ex e) (ep_deed (d := .clear b) (by simpa [Dd.ok] using ok) (Evl.ea_cons (Evl.ev_var rfl) Evl.ea_nil)) (ev_addN (j := 2) (Evl.ev_var rfl) Evl.ev_c)) fun v H5 e5 z => hq v H5 ((e13.trans e4).trans e5) z
  | send b n =>
    simp only [Dd.ok, Bool.and_eq_true, decide_eq_true_eq] at ok
    refine Evl.q_asg (v := .int (b : Int)) (ev_g (Evl.ea_cons (Evl.ev_var rfl) (Evl.ea_cons (ev_addN (j := 1) (Evl.ev_var rfl) Evl.ev_c) (Evl.ea_cons Evl.ev_c Evl.ea_nil))) (sv_intIn (m := 2) hw3 hat.tail.head ok.1 (by omega) hz)) fun H4 e4 => ?_
    refine ⟨_, rfl, _, rfl, ?_⟩
    refine (if_neg (by decide +kernel : ¬ decide (("send" : Str) = "take") = true)).mpr ?_
    refine (if_neg (by decide +kernel : ¬ decide (("send" : Str) = "put") = true)).mpr ?_
    refine (if_neg (by decide +kernel : ¬ decide (("send" : Str) = "out") = true)).mpr ?_
    refine (if_neg (by decide +kernel : ¬ decide (("send" : Str) = "clear") = true)).mpr ?_
    refine (if_pos (by decide +kernel : decide (("send" : Str) = "send") = true)).mpr ?_
    refine sp_ret (P := IsDeedAt K (.send b n) (i + 3)) (ep_tup2 (P := fun v H' => IsDeed K H' v (.send b n)) (fun v H H' e h => h.ex e) (ep_deed (d := .send b n) (by simpa [Dd.ok] using ok) (Evl.ea_cons (Evl.ev_var rfl) (Evl.ea_cons (ev_g (Evl.ea_cons (Evl.ev_var rfl) (Evl.ea_cons (ev_addN (j := 2) (Evl.ev_var rfl) Evl.ev_c) (Evl.ea_cons Evl.ev_c Evl.ea_nil)))
      (sv_intIn (m := 5) (Evl.ex_l e4 hw3) hat.tail.tail.head ok.2 (by omega) hz)) Evl.ea_nil))) (ev_addN (j := 3) (Evl.ev_var rfl) Evl.ev_c)) fun v H5 e5 z => hq v H5 ((e13.trans e4).trans e5) z
  | move b t =>
    simp only [Dd.ok, Bool.and_eq_true, decide_eq_true_eq] at ok
    refine Evl.q_asg (v := .int (b : Int)) (ev_g (Evl.ea_cons (Evl.ev_var rfl) (Evl.ea_cons (ev_addN (j := 1) (Evl.ev_var rfl) Evl.ev_c) (Evl.ea_cons Evl.ev_c Evl.ea_nil))) (sv_intIn (m := 2) hw3 hat.tail.head ok.1 (by omega) hz)) fun H4 e4 => ?_
    refine ⟨_, rfl, _, rfl, ?_⟩
    refine (if_neg (by decide +kernel : ¬ decide (("move" : Str) = "take") = true)).mpr ?_
    refine (if_neg (by decide +kernel : ¬ decide (("move" : Str) = "put") = true)).mpr ?_
    refine (if_neg (by decide +kernel : ¬ decide (("move" : Str) = "out") = true)).mpr ?_
    refine (if_neg (by decide +kernel : ¬ decide (("move" : Str) = "clear") = true)).mpr ?_
    refine (if_neg (by decide +kernel : ¬ decide (("move" : Str) = "send") = true)).mpr ?_
    refine Evl.q_asg (v := .int (t : Int)) (ev_g (Evl.ea_cons (Evl.ev_var rfl) (Evl.ea_cons (ev_addN (j := 2) (Evl.ev_var rfl) Evl.ev_c) (Evl.ea_cons Evl.ev_c Evl.ea_nil))) (sv_intIn (m := 2) (Evl.ex_l e4 hw3) hat.tail.tail.head ok.2.1 (by omega) hz)) fun H5 e5 => ?_
    refine Evl.q_when (b := false) (Evl.et_is (Evl.et_test (Evl.ev_op (Evl.ev_var rfl) (Evl.ev_var rfl) rv_eqI)) (decide_eq_false (fun z => ok.2.2 (by injection z with z; exact Int.ofNat.inj z)))) (fun h => by cases h) fun _ H6 e6 => ?_
    exact sp_ret (P := IsDeedAt K (.move b t) (i + 3)) (ep_tup2 (P := fun v H' => IsDeed K H' v (.move b t)) (fun v H H' e h => h.ex e) (ep_deed (d := .move b t) (by simpa [Dd.ok] using ok) (Evl.ea_cons (Evl.ev_var rfl) (Evl.ea_cons (Evl.ev_var rfl) Evl.ea_nil))) (ev_addN (j := 3) (Evl.ev_var rfl) Evl.ev_c)) fun v H7 e7 z => hq v H7 ((((e13.trans e4).trans e5).trans e6).trans e7) z
  | answer n => exact absurd hv (by simp [Dd.verb])
end
end Mp
set_option maxHeartbeats 4000000
/-! Defs: fit_sides, need_deeds. -/
namespace Mp
open PySem PySem.Spec PyProof.Rows L2
open Evl (Ex Ev EvL EvU EvT EvA RV SpV given)

/-- a list or a tuple walked -/
def iLT (K : PySem.W.Frag) (tl : TE) : TI := fun σ H R => tl σ H fun x H1 => ∃ a, x = .ref a ∧ (((∃ xs, SqL K H1 a xs) ∧ R (Itl K a) H1) ∨ ((∃ xs, SqT K H1 a xs) ∧ R (Itt K a) H1))
def tHere (v : V) (H0 : Hp) : TE := fun _ H Q => Q v H
def tMv (X : Cx) (m : Str) (ta : TE) (t : TA) : TE := fun σ H Q => ta σ H fun x H1 => rMet X m x H1 fun sp => t σ H1 fun vs H2 => sp (x :: vs) H2 Q E0
def tMv0 (X : Cx) (m : Str) (ta : TE) : TE := fun σ H Q => ta σ H fun x H1 => rMet X m x H1 fun sp => sp [x] H1 Q E0
section
variable {X : Cx} {tg l : Expr} {tl : TE}
theorem pi_lt (hl : PE X l tl) : PI X tg l (iLT X.K tl) := by
  refine ⟨fun pins s σ H R I h => ?_⟩
  refine thn (hl.run pins s σ H _ I h) fun v s1 ⟨x, H1, I1, r1, a, e, q⟩ => ?_
  subst e
  obtain rfl : v = Value.ref a := r1
  rcases q with ⟨⟨xs, hq⟩, q⟩ | ⟨⟨xs, hq⟩, q⟩
  · obtain ⟨its, rv, hl', _⟩ := I1.list hq
    refine wpAny_pyIter_list hl'.isList ?_
    refine pi_one (tk := s1.toks) I1 _ (turn_list a s1.heap.objs.size) ?_ q
    exact ⟨_, Heap.get?_push_size _ rfl, rfl, rfl⟩
  · obtain ⟨its, rv, hl', _⟩ := I1.tuple hq
    refine wpAny_pyIter_tuple (show s1.heap.IsTuple a its.toArray from hl') ?_
    refine pi_one (tk := s1.toks) I1 _ (turn_tuple a s1.heap.objs.size) ?_ q
    exact ⟨_, Heap.get?_push_size _ rfl, rfl, rfl⟩
end
section
variable {K : PySem.W.Frag} {σ : L2.St} {H : Hp} {te : TE}
theorem el_lcLT {a : Addr} {xs : List V} {tl : TE} {tt : TT} {j : Nat} {vs : List Nat} (f : Nat → Bool) (u : Nat → V) (h : Ev tl σ H (.ref a)) (hx : SqTL K H a xs) (hz : xs.length ≤ 40000) (hw : ∀ x, wipe ((wipe σ vs).set j (some x)) vs = wipe σ vs)
    (turn : ∀ (i : Nat) (x : V) H1, Ex H H1 → xs[i]? = some x → EvT tt ((wipe σ vs).set j (some x)) H1 (f i) ∧ (f i = true → Ev te ((wipe σ vs).set j (some x)) H1 (u i))) :
    EvL (tLc (iLT K tl) (gName j) tt te vs) σ H (given xs.length f u) := by
  rcases hx with hx | hx
  · exact el_lcG xs.length f u hz (J := Itl K a) (fun H1 e R r => h H1 e _ fun H2 e2 => ⟨a, rfl, .inl ⟨⟨xs, Evl.ex_l (e.trans e2) hx⟩, r H2 e2⟩⟩)
      (fun i H1 e hi => ⟨xs, xs[i], Evl.ex_l e hx, List.getElem?_eq_getElem hi⟩) (fun H1 e => ⟨xs, Evl.ex_l e hx, Nat.le_refl _⟩) fun i x H1 H2 e hi hy => by
        obtain ⟨rfl, hy⟩ := hy
        have hxi := hy xs (Evl.ex_l e hx)
        obtain ⟨t1, t2⟩ := turn i x _ e hxi
        exact ⟨Ex.refl _, _, hw x, fun Q q => q _ (Ex.refl _), t1, t2⟩
  · exact el_lcG xs.length f u hz (J := Itt K a) (fun H1 e R r => h H1 e _ fun H2 e2 => ⟨a, rfl, .inr ⟨⟨xs, Evl.ex_t (e.trans e2) hx⟩, r H2 e2⟩⟩)
      (fun i H1 e hi => ⟨xs, xs[i], Evl.ex_t e hx, List.getElem?_eq_getElem hi⟩) (fun H1 e => ⟨xs, Evl.ex_t e hx, Nat.le_refl _⟩) fun i x H1 H2 e hi hy => by
        obtain ⟨rfl, hy⟩ := hy
        have hxi := hy xs (Evl.ex_t e hx)
        obtain ⟨t1, t2⟩ := turn i x _ e hxi
        exact ⟨Ex.refl _, _, hw x, fun Q q => q _ (Ex.refl _), t1, t2⟩
end
/-- tuple(a new list) -/
def rTupOf (K : PySem.W.Frag) : List V → Hp → VK → Prop := fun xs H Q => ∃ p ys, xs = [.ref p] ∧ ((SqL K H p ys ∧ ∀ l, H l = none → Q (.ref l) (upd H l (.tup ys))) ∨ (SqT K H p ys ∧ Q (.ref p) H))
theorem eu_tupL {K : PySem.W.Frag} {σ : L2.St} {H : Hp} {te : TE} {ys : List V} (h : EvL te σ H ys) : EvU (tCB (rTupOf K) (tCons te tNil)) σ H ys := fun H1 e Q q => h H1 e _ fun p H2 _ e2 hp => ⟨p, ys, rfl, .inl ⟨Evl.sq_of hp, fun l hl => q l _ (Evl.fresh_back e2 hl) (e2.trans (Ex.new hl)) upd_same⟩⟩
theorem range_all {α : Type} (xs : List α) (f : α → Bool) (b : Nat → Bool) (h : ∀ i x, xs[i]? = some x → b i = f x) : (((List.range xs.length).filter fun _ => true).map b).all id = xs.all f := by
  rw [List.filter_eq_self.mpr (fun _ _ => rfl), List.all_map, Bool.eq_iff_iff, List.all_eq_true, List.all_eq_true]
  constructor
  · intro z x hx
    obtain ⟨i, hi, rfl⟩ := List.mem_iff_getElem.mp hx
    rw [← h i _ (List.getElem?_eq_getElem hi)]
    exact z i (by simpa using hi)
  · intro z i hi
    have hi' : i < xs.length := by simpa using hi
    show b i = true
    rw [h i _ (List.getElem?_eq_getElem hi')]
    exact z _ (List.getElem_mem hi')
/-- deeds, each at its place -/
def Deeds (K : PySem.W.Frag) (H : Hp) (vs : List V) (ds : List Dd) : Prop := Paired (fun v d => IsDeed K H v d) vs ds
theorem Deeds.ex {K : PySem.W.Frag} {H H' : Hp} {vs : List V} {ds : List Dd} (e : Ex H H') (h : Deeds K H vs ds) : Deeds K H' vs ds := L2.Paired.mapP h fun v d z => z.ex e
theorem Deeds.len {K : PySem.W.Frag} {H : Hp} {vs : List V} {ds : List Dd} (h : Deeds K H vs ds) : vs.length = ds.length := by
  induction h with
  | nil => rfl
  | cons _ _ ih => rw [List.length_cons, List.length_cons, ih]
theorem Deeds.get {K : PySem.W.Frag} {H : Hp} {vs : List V} {ds : List Dd} (h : Deeds K H vs ds) {i : Nat} {v : V} (e : vs[i]? = some v) : ∃ d, ds[i]? = some d ∧ IsDeed K H v d := by
  induction h generalizing i with
  | nil => simp at e
  | cons z _ ih =>
    cases i with
    | zero => exact ⟨_, rfl, by simp at e; rw [← e]; exact z⟩
    | succ i => exact ih (by simpa using e)
/-- the sides for which all of them are -/
def fitS (ds : List Dd) : List Str := (["sender", "receiver"] : List Str).filter fun z => ds.all fun d => d.forS z
def spFit (K : PySem.W.Frag) : Sp := fun vs H Q _ => ∃ (a : Addr) (xs : List V) (ds : List Dd), vs = [.ref a] ∧ SqTL K H a xs ∧ Deeds K H xs ds ∧ ds.length ≤ 1000 ∧ ∀ v H', Ex H H' → IsStrs K (fitS ds) v H' → Q v H'
theorem sp_fit {K : PySem.W.Frag} {H : Hp} {a : Addr} {xs : List V} {ds : List Dd} (h : SqTL K H a xs) (hd : Deeds K H xs ds) (hz : ds.length ≤ 1000) : SpP (spFit K) [.ref a] H (IsStrs K (fitS ds)) := fun H1 e Q k E => ⟨a, xs, ds, rfl, h.ex e, hd.ex e, hz, fun v H2 e2 z => k v H2 e2 z⟩
section
variable {w : World} {K : PySem.W.Frag} {mg : Str → Option Value} {base : Heap}
abbrev nFit : List Str := ["deeds", "side", "deed"]
theorem sc_fit_sides : FnScope nFit ["deeds"] (defScope s_fit_sides) := ⟨rfl, rfl, rfl, by decide +kernel, rfl, by decide +kernel, by decide +kernel⟩
theorem k_fit_sides (T : TX K mg base) : FG RP w K mg base 3 "fit_sides" (spFit K) := by
  refine fg_of T.g_fit_sides T.kf_fit_sides (fr_of T.d_fit_sides sc_fit_sides (fun vs H Q E h => by obtain ⟨a, xs, ds, rfl, _⟩ := h; rfl) (fun _ _ _ _ _ _ us hl => match us, hl with | [_], _ => rfl) fun cdv A outer s H vs Q E hr h => ⟨_,
    pss_one (ps_ret (pe_callTy call_tuple_of rfl T.f_tuple (by decide +kernel) (pa_cons (pe_lc (own := [("side", 1)]) (g := gName 1)
      (tt := tB (tCB (rAll K) (tCons (tLc (iLT K (tVar 0)) (gName 2) tYes (tMv (cxOf CX0 RP w K mg base nFit "fit_sides" (defScope s_fit_sides) (He.ga K "fit_sides") cdv A outer s H E).nox "is_for" (tVar 2) (tCons (tVar 1) tNil)) [2]) tNil))) (te := tVar 1) rfl sc_fit_sides.nd (pi_tup (pe_gR T.g_SIDES))
      (blkOk_by (own := [("side", 1)]) (N := nFit) (sc := defScope s_fit_sides) (by decide +kernel)) (fun _ _ _ _ _ => pg_name (i := 1) sc_fit_sides.nd rfl (Or.inr rfl))
      (fun _ _ _ _ _ => pts_one (pt_val (pe_callB (cr_all rfl) rfl T.f_all (by decide +kernel) (pa_cons (pe_lc (own := [("deed", 2)]) (g := gName 2) (tt := tYes) rfl sc_fit_sides.nd (pi_lt (pv 0)) (blkOk_by (own := [("deed", 2)]) (N := nFit) (by kernel_rfl))
        (fun _ _ _ _ _ => pg_name (i := 2) sc_fit_sides.nd rfl (Or.inl rfl)) (fun _ _ _ _ _ => pts_nil) (fun _ _ _ _ _ => pe_mv (pv 2) (pa_cons (pv 1) pa_nil))) pa_nil)))) (fun _ _ _ _ _ => pv 1)) pa_nil))), ?_⟩)
  obtain ⟨a, xs, ds, rfl, hs, hd, hz, hq⟩ := h
  have hA := hr
  have key : EvU _ (start nFit [V.ref a]) H ((fitS ds).map V.str) := eu_tupL (K := K) (te := tLc (iTup K (tC (V.ref (He.ga K "SIDES")))) (gName 1)
      (tB (tCB (rAll K) (tCons (tLc (iLT K (tVar 0)) (gName 2) tYes (tMv (cxOf CX0 RP w K mg base nFit "fit_sides" (defScope s_fit_sides) (He.ga K "fit_sides") cdv A outer s H E).nox "is_for" (tVar 2) (tCons (tVar 1) tNil)) [2]) tNil))) (tVar 1) [1]) (by
    have eg : given 2 (fun i => ds.all fun d => d.forS ((["sender", "receiver"] : List Str).getD i "")) (fun i => .str ((["sender", "receiver"] : List Str).getD i "")) = (fitS ds).map V.str := by
      unfold Evl.given fitS
      show (List.filter _ [0, 1]).map _ = _
      cases h1 : ds.all (fun d => d.forS "sender") <;> cases h2 : ds.all (fun d => d.forS "receiver") <;> simp [h1, h2]
    rw [← eg]
    refine el_lcT (K := K) (j := 1) (vs := [1]) (xs := (["sender", "receiver"] : List Str).map V.str) _ _ Evl.ev_c (He.tupB_ok T.tupSides H) (by show 2 ≤ 40000; decide) (fun _ => rfl) fun i x H1 e1 hx => ?_
    obtain ⟨z, hz', rfl⟩ : ∃ z, (["sender", "receiver"] : List Str)[i]? = some z ∧ V.str z = x := by
      rw [List.getElem?_map] at hx
      cases e : (["sender", "receiver"] : List Str)[i]? with
      | none => rw [e] at hx; cases hx
      | some z => rw [e] at hx; exact ⟨z, rfl, Option.some.inj hx⟩
    have hg : (["sender", "receiver"] : List Str).getD i "" = z := by rw [List.getD_eq_getElem?_getD, hz']; rfl
    rw [hg]
    refine ⟨Evl.et_B (Evl.ev_is (ev_all (bs := (((List.range xs.length).filter fun _ => true).map fun k => (ds.getD k (.answer 0)).forS z)) ?_) ?_), fun _ => Evl.ev_var rfl⟩
    · rw [← given_bools]
      refine el_lcLT (K := K) (j := 2) (vs := [2]) (xs := xs) (fun _ => true) _ (Evl.ev_var rfl) (hs.ex e1) (by rw [hd.len]; omega) (fun _ => rfl) fun k v H2 e2 hv => ⟨fun H4 e4 Q q => q H4 (Ex.refl H4), fun _ => ?_⟩
      obtain ⟨d, hdk, isd⟩ := hd.get hv
      have hg2 : ds.getD k (.answer 0) = d := by rw [List.getD_eq_getElem?_getD, hdk]; rfl
      rw [hg2]
      have isd2 := isd.ex (e1.trans e2)
      obtain ⟨ok, a', dx, rfl, ha⟩ := id isd2
      exact ev_mv (Evl.ev_var rfl) ha (by cases d <;> rfl) (mg_isFor T d) hr (Evl.ea_cons (Evl.ev_var rfl) Evl.ea_nil) (sv_isFor isd2)
    · rw [hd.len, range_all ds (fun d => d.forS z) _ (fun k d e => by rw [List.getD_eq_getElem?_getD, e]; rfl)])
  exact Evl.s_retU key fun p H1 _ e1 h1 => hq _ H1 e1 ⟨p, rfl, Evl.st_of h1⟩
end
end Mp
set_option maxHeartbeats 4000000
/-! Defs: need_deeds, is_heard, rank_of, word_at, deeds_text. -/
namespace Mp
open PySem PySem.Spec PyProof.Rows L2
open Evl (Ex Ev EvL EvU EvT EvA RV SpV given)

section
variable {K : PySem.W.Frag} {mg : Str → Option Value} {base : Heap} {σ : L2.St} {H : Hp} {te ta : TE}
theorem tyx_deed (T : TX K mg base) {v : V} {d : Dd} (h : IsDeed K H v d) : TyX K H v (.ref (He.ga K d.cls)) := by
  obtain ⟨ok, a, dx, rfl, ha⟩ := h
  refine .base (.ins ha (cls_deed T d) ?_ T.ocGet T.ocTk ?_)
  · cases d
    · exact T.cl_Take
    · exact T.cl_Put
    · exact T.cl_Out
    · exact T.cl_Clear
    · exact T.cl_Send
    · exact T.cl_Move
    · exact T.cl_Answer
  · cases d
    · exact T.ob_Take
    · exact T.ob_Put
    · exact T.ob_Out
    · exact T.ob_Clear
    · exact T.ob_Send
    · exact T.ob_Move
    · exact T.ob_Answer
theorem kit_deed_Deed (T : TX K mg base) (d : Dd) : PySem.W.kitOne K (.ref (He.ga K d.cls)) (.ref (He.ga K "Deed")) = some true := by
  cases d
  · exact T.kit_Take_Deed
  · exact T.kit_Put_Deed
  · exact T.kit_Out_Deed
  · exact T.kit_Clear_Deed
  · exact T.kit_Send_Deed
  · exact T.kit_Move_Deed
  · exact T.kit_Answer_Deed
theorem kit_deed_Take (T : TX K mg base) (d : Dd) : PySem.W.kitOne K (.ref (He.ga K d.cls)) (.ref (He.ga K "Take")) = some d.isTake := by
  cases d
  · exact T.kit_Take_Take
  · exact T.kit_Put_Take
  · exact T.kit_Out_Take
  · exact T.kit_Clear_Take
  · exact T.kit_Send_Take
  · exact T.kit_Move_Take
  · exact T.kit_Answer_Take
theorem kit_deed_Put (T : TX K mg base) (d : Dd) : PySem.W.kitOne K (.ref (He.ga K d.cls)) (.ref (He.ga K "Put")) = some d.isPut := by
  cases d
  · exact T.kit_Take_Put
  · exact T.kit_Put_Put
  · exact T.kit_Out_Put
  · exact T.kit_Clear_Put
  · exact T.kit_Send_Put
  · exact T.kit_Move_Put
  · exact T.kit_Answer_Put
theorem ev_isiC {v : V} {t : Value} {C : Addr} {b : Bool} (h : Ev te σ H v) (ty : ∀ H1, Ex H H1 → TyX K H1 v t) (hk : PySem.W.kitOne K t (.ref C) = some b) : Ev (tCB (rIsi K) (tCons te (tCons (tC (.ref C)) tNil))) σ H (.bl b) :=
  Evl.ev_cb (Evl.ea_cons h (Evl.ea_cons Evl.ev_c Evl.ea_nil)) fun H1 e Q q => ⟨v, .ref C, t, .ref C, b, rfl, .own C, ty H1 e, hk, q H1 (Ex.refl H1)⟩
theorem ev_isiDeed (T : TX K mg base) {v : V} {d : Dd} (h : Ev te σ H v) (isd : IsDeed K H v d) : Ev (tCB (rIsi K) (tCons te (tCons (tC (.ref (He.ga K "Deed"))) tNil))) σ H (.bl true) := ev_isiC h (fun H1 e => tyx_deed T (isd.ex e)) (kit_deed_Deed T d)
theorem ev_isiTake (T : TX K mg base) {v : V} {d : Dd} (h : Ev te σ H v) (isd : IsDeed K H v d) : Ev (tCB (rIsi K) (tCons te (tCons (tC (.ref (He.ga K "Take"))) tNil))) σ H (.bl d.isTake) := ev_isiC h (fun H1 e => tyx_deed T (isd.ex e)) (kit_deed_Take T d)
theorem ev_isiPut (T : TX K mg base) {v : V} {d : Dd} (h : Ev te σ H v) (isd : IsDeed K H v d) : Ev (tCB (rIsi K) (tCons te (tCons (tC (.ref (He.ga K "Put"))) tNil))) σ H (.bl d.isPut) := ev_isiC h (fun H1 e => tyx_deed T (isd.ex e)) (kit_deed_Put T d)
theorem ev_lenT {p : Addr} {xs : List V} (ha : Ev ta σ H (.ref p)) (h : SqTL K H p xs) : Ev (tCB (Evl.rLenS K) (tCons ta tNil)) σ H (.int (xs.length : Int)) := fun H1 e Q q => ha H1 e _ fun H2 e2 => ⟨p, xs, rfl, h.ex (e.trans e2), q H2 e2⟩
theorem ev_lenP {xs : List V} (ha : EvP ta σ H fun v H' => ∃ p, v = .ref p ∧ SqTL K H' p xs) : Ev (tCB (Evl.rLenS K) (tCons ta tNil)) σ H (.int (xs.length : Int)) := fun H1 e Q q => ha H1 e _ fun v H2 e2 ⟨p, ev, h⟩ => ⟨p, xs, by rw [ev], h, q H2 e2⟩
end
def spOk (R : List V → Hp → Prop) : Sp := fun vs H Q _ => R vs H ∧ ∀ H', Ex H H' → Q .non H'
structure NeedDeeds (K : PySem.W.Frag) (vs : List V) (H : Hp) : Prop where
  ex : ∃ a xs ds, vs = [.ref a] ∧ SqT K H a xs ∧ Deeds K H xs ds ∧ ds.length ≤ 8 ∧ fitS ds ≠ [] ∧ (ds.filter Dd.isTake).length ≤ 1
theorem sv_needDeeds {K : PySem.W.Frag} {H : Hp} {vs : List V} (h : NeedDeeds K vs H) : SpV (spOk (NeedDeeds K)) vs H .non := fun H1 e Q q E => ⟨by
  obtain ⟨a, xs, ds, h1, h2, h3, h4⟩ := h.ex
  exact ⟨a, xs, ds, h1, Evl.ex_t e h2, h3.ex e, h4⟩, fun H2 e2 => q H2 e2⟩
theorem given_takes (ds : List Dd) : (given ds.length (fun k => (ds.getD k (.answer 0)).isTake) (fun _ => V.int 1)).length = (ds.filter Dd.isTake).length := by
  unfold Evl.given
  rw [List.length_map]
  have e : ds.filter Dd.isTake = ((List.range ds.length).filter fun k => (ds.getD k (.answer 0)).isTake).map fun k => ds.getD k (.answer 0) := by
    have e2 : ds = (List.range ds.length).map fun k => ds.getD k (.answer 0) := by
      apply List.ext_getElem?
      intro i
      rw [List.getElem?_map]
      by_cases h : i < ds.length
      · rw [List.getElem?_range h, List.getElem?_eq_getElem h]
        simp [List.getD_eq_getElem?_getD, h]
      · rw [List.getElem?_eq_none (by simpa using h), List.getElem?_eq_none (by simpa using h)]
        rfl
    conv => lhs; rw [e2]
    rw [List.filter_map]
    rfl
  rw [e, List.length_map]
section
variable {w : World} {K : PySem.W.Frag} {mg : Str → Option Value} {base : Heap}
abbrev nNd : List Str := ["deeds", "deed"]
theorem sc_need_deeds : FnScope nNd ["deeds"] (defScope s_need_deeds) := ⟨rfl, rfl, rfl, by decide +kernel, rfl, by decide +kernel, by decide +kernel⟩
theorem k_need_deeds (T : TX K mg base) : FG RP w K mg base 4 "need_deeds" (spOk (NeedDeeds K)) := by
  refine fg_of T.g_need_deeds T.kf_need_deeds (fr_of T.d_need_deeds sc_need_deeds (fun vs H Q E h => by obtain ⟨a, xs, ds, rfl, _⟩ := h.1.ex; rfl) (fun _ _ _ _ _ _ us hl => match us, hl with | [_], _ => rfl) fun cdv A outer s H vs Q E hr h => ⟨_,
    pss_cons (ps_if (PW.pt (pw_or (pt_cmpR op_gt (pe_callB (r := Evl.rLenS K) call_len_seq rfl T.f_len PySem.boot_len (pa_cons (pv 0) pa_nil)) (pe_gI T.i_MOST_DEEDS) (nomark _))
      (pw_or1 (pt_not (pt_val (pe_callB (cr_all rfl) rfl T.f_all (by decide +kernel) (pa_cons (pe_lc (own := [("deed", 1)]) (g := gName 1) (tt := tYes) rfl sc_need_deeds.nd (pi_tup (pv 0)) (blkOk_by (own := [("deed", 1)]) (N := nNd) (sc := defScope s_need_deeds) (by decide +kernel))
        (fun _ _ _ _ _ => pg_name (i := 1) sc_need_deeds.nd rfl (Or.inl rfl)) (fun _ _ _ _ _ => pts_nil) (fun _ _ _ _ _ => pe_callB (r := rIsi K) call_isi rfl T.f_isinstance (by decide +kernel) (pa_cons (pv 1) (pa_cons (pe_gR T.g_Deed) pa_nil)))) pa_nil))))))) (pss_one ps_never) pss_nil)
    (pss_one (ps_if (PW.pt (pw_or (pt_cmpR op_eq (pe_callB (r := Evl.rLenS K) call_len_seq rfl T.f_len PySem.boot_len (pa_cons (pe_g (k_fit_sides T) hr (pa_cons (pv 0) pa_nil)) pa_nil)) pe_int (nomark _))
      (pw_or1 (pt_cmpR op_gt (pe_callB (r := Evl.rLenS K) call_len_seq rfl T.f_len PySem.boot_len (pa_cons (pe_lc (own := [("deed", 1)]) (g := gName 1) (tt := tB (tCB (rIsi K) (tCons (tVar 1) (tCons (tC (.ref (He.ga K "Take"))) tNil)))) rfl sc_need_deeds.nd (pi_tup (pv 0)) (blkOk_by (own := [("deed", 1)]) (N := nNd) (sc := defScope s_need_deeds) (by decide +kernel))
        (fun _ _ _ _ _ => pg_name (i := 1) sc_need_deeds.nd rfl (Or.inl rfl)) (fun _ _ _ _ _ => pts_one (pt_val (pe_callB (r := rIsi K) call_isi rfl T.f_isinstance (by decide +kernel) (pa_cons (pv 1) (pa_cons (pe_gR T.g_Take) pa_nil))))) (fun _ _ _ _ _ => pe_int)) pa_nil)) pe_int (nomark _))))) (pss_one ps_never) pss_nil)), ?_⟩)
  obtain ⟨⟨a, xs, ds, rfl, hs, hd, hz, hf, ht⟩, hq⟩ := h
  have hl := hd.len
  refine Evl.q_when (b := false) (Evl.et_is (Evl.et_or (a := false) (b := false) (Evl.et_is (Evl.et_test (Evl.ev_op (ev_lenT (Evl.ev_var rfl) (.inr hs)) Evl.ev_c Evl.rv_I0)) (decide_eq_false (by omega))) fun _ => Evl.et_is (Evl.et_not (Evl.et_B (ev_all (bs := (((List.range xs.length).filter fun _ => true).map fun _ => true)) ?_))) ?_) rfl) (fun h => by cases h) fun _ H1 e1 => ?_
  · rw [← given_bools]
    refine el_lcT (K := K) (j := 1) (vs := [1]) (xs := xs) (fun _ => true) _ (Evl.ev_var rfl) hs (by omega) (fun _ => rfl) fun k v H2 e2 hv => ⟨fun H4 e4 Q q => q H4 (Ex.refl H4), fun _ => ?_⟩
    obtain ⟨d, hdk, isd⟩ := hd.get hv
    exact ev_isiDeed T (Evl.ev_var rfl) (isd.ex e2)
  · rw [range_all xs (fun _ => true) (fun _ => true) (fun _ _ _ => rfl)]
    simp
  refine Evl.s_if (b := false) (Evl.et_is (Evl.et_or (a := false) (b := false) (Evl.et_is (Evl.et_test (Evl.ev_op (ev_lenP (K := K) (xs := (fitS ds).map V.str) (EvP.imp (ep_g (Evl.ea_cons (Evl.ev_var rfl) Evl.ea_nil) (sp_fit (.inr (Evl.ex_t e1 hs)) (hd.ex e1) (by omega))) fun v H3 _ z => by obtain ⟨p, ev, hp⟩ := z; exact ⟨p, ev, .inr hp⟩)) Evl.ev_c (Evl.rv_eq rfl))) ?_) fun _ => Evl.et_is (Evl.et_test (Evl.ev_op (Evl.ev_lenN (K := K) (xs := given xs.length (fun k => (ds.getD k (.answer 0)).isTake) (fun _ => V.int 1)) ?_) Evl.ev_c Evl.rv_I0)) ?_) rfl) (fun h => by cases h) fun _ H2 e2 => hq H2 (e1.trans e2)
  · refine decide_eq_false fun z => hf ?_
    injection z with z
    rw [List.length_map] at z
    exact List.eq_nil_of_length_eq_zero (Int.ofNat.inj z)
  · refine el_lcT (K := K) (j := 1) (vs := [1]) (xs := xs) _ _ (Evl.ev_var rfl) (Evl.ex_t e1 hs) (by omega) (fun _ => rfl) fun k v H2 e2 hv => ⟨?_, fun _ => Evl.ev_c⟩
    obtain ⟨d, hdk, isd⟩ := hd.get hv
    have hg2 : ds.getD k (.answer 0) = d := by rw [List.getD_eq_getElem?_getD, hdk]; rfl
    rw [hg2]
    exact Evl.et_B (ev_isiTake T (Evl.ev_var rfl) (isd.ex (e1.trans e2)))
  · rw [hl, given_takes]
    exact decide_eq_false (by omega)
end
end Mp
set_option maxHeartbeats 4000000
/-! Defs: is_heard, rank_of, word_at, deeds_text. -/
namespace Mp
open PySem PySem.Spec PyProof.Rows L2
open Evl (Ex Ev EvL EvU EvT EvA RV SpV given)

def hearV : Option (Option Nat) → V
  | none => .non
  | some none => .str "other"
  | some (some n) => .int (n : Int)
theorem hear_pl (H : Hp) (h : Option (Option Nat)) : Pl H (hearV h) := by
  cases h with
  | none => exact .non
  | some h => cases h with
    | none => exact .str _
    | some n => exact .int _
def rankOf : Option (Option Nat) → Int
  | none => -1
  | some none => 6
  | some (some n) => n
def spHear (P : Option (Option Nat) → V) : Sp := fun vs H Q _ => ∃ h, vs = [hearV h] ∧ (∀ n, h = some (some n) → n ≤ 5) ∧ ∀ H', Ex H H' → Q (P h) H'
theorem sv_hear {P : Option (Option Nat) → V} {H : Hp} {h : Option (Option Nat)} (hn : ∀ n, h = some (some n) → n ≤ 5) : SpV (spHear P) [hearV h] H (P h) := fun H1 e Q q E => ⟨h, rfl, hn, fun H2 e2 => q H2 e2⟩
theorem rv_isN {H : Hp} {x : V} : RV rIsN x .non H (.bl (decide (x = .non))) := fun H1 _ _ q => ⟨rfl, q H1 (Ex.refl H1)⟩
theorem rv_notN {H : Hp} {x : V} : RV rNotN x .non H (.bl (!decide (x = .non))) := fun H1 _ _ q => ⟨rfl, q H1 (Ex.refl H1)⟩
/-- the word at a place, or nothing -/
def wordAt (ws : List Str) (i : Nat) : Str := ws.getD i ""
theorem wordAt_of {ws : List Str} {i : Nat} {x : Str} (h : ws[i]? = some x) : wordAt ws i = x := by
  unfold wordAt
  rw [List.getD_eq_getElem?_getD, h]
  rfl
def spWordAt (K : PySem.W.Frag) : Sp := fun vs H Q _ => ∃ (p : Addr) (ws : List Str) (i : Nat), vs = [.ref p, .int (i : Int)] ∧ SqL K H p (ws.map V.str) ∧ ∀ H', Ex H H' → Q (.str (wordAt ws i)) H'
theorem sv_wordAt {K : PySem.W.Frag} {H : Hp} {p : Addr} {ws : List Str} {i : Nat} (h : SqL K H p (ws.map V.str)) : SpV (spWordAt K) [.ref p, .int (i : Int)] H (.str (wordAt ws i)) := fun H1 e Q q E => ⟨p, ws, i, rfl, Evl.ex_l e h, fun H2 e2 => q H2 e2⟩
/-- the deeds' text, from a tuple -/
def spDeedsText (K : PySem.W.Frag) : Sp := fun vs H Q _ => ∃ (a : Addr) (xs : List V) (ds : List Dd), vs = [.ref a] ∧ SqT K H a xs ∧ Deeds K H xs ds ∧ ds.length ≤ 8 ∧ ∀ H', Ex H H' → Q (.str (Rw.deedsT ds)) H'
theorem sv_deedsText {K : PySem.W.Frag} {H : Hp} {a : Addr} {xs : List V} {ds : List Dd} (h : SqT K H a xs) (hd : Deeds K H xs ds) (hz : ds.length ≤ 8) : SpV (spDeedsText K) [.ref a] H (.str (Rw.deedsT ds)) := fun H1 e Q q E => ⟨a, xs, ds, rfl, Evl.ex_t e h, hd.ex e, hz, fun H2 e2 => q H2 e2⟩
def rJoin (K : PySem.W.Frag) : V → List V → Hp → VK → Prop := fun x xs H Q => ∃ a p, ∃ ys : List Str, x = .str a ∧ xs = [.ref p] ∧ (SqL K H p (ys.map V.str) ∨ SqT K H p (ys.map V.str)) ∧ (ys.map (·.length)).sum + ys.length * a.length ≤ 16777216 ∧ Q (.str (Txt.join a ys)) H
theorem ev_joinL {K : PySem.W.Frag} {σ : L2.St} {H : Hp} {to te : TE} {z : Str} {ys : List Str} (ho : Ev to σ H (.str z)) (h : EvL te σ H (ys.map V.str)) (hz : (ys.map (·.length)).sum + ys.length * z.length ≤ 16777216) : Ev (tM1 (rJoin K) to te) σ H (.str (Str.join z ys)) := fun H1 e Q q =>
  ho H1 e _ fun H2 e2 => ⟨⟨_, rfl⟩, h H2 (e.trans e2) _ fun p H3 _ e3 hp => ⟨z, p, ys, rfl, rfl, .inl (Evl.sq_of hp), hz, by rw [TL.join_eq]; exact q H3 (e2.trans e3)⟩⟩
section
variable {w : World} {K : PySem.W.Frag} {mg : Str → Option Value} {base : Heap}
theorem k_is_heard (T : TX K mg base) : FG RP w K mg base 4 "is_heard" (spHear fun _ => .bl true) := by
  refine fg_of T.g_is_heard T.kf_is_heard (fr_of (N := ["value"]) (ps := ["value"]) T.d_is_heard ⟨rfl, rfl, rfl, by decide +kernel, rfl, by decide +kernel, by decide +kernel⟩ (fun vs H Q E h => by obtain ⟨v, rfl, _⟩ := h; rfl) (fun _ _ _ _ _ _ us hl => match us, hl with | [_], _ => rfl) fun cdv A outer s H vs Q E hr h => ⟨_,
    pss_one (ps_ret (pe_or (pe_cmpR op_isN1 (pv 0) pe_non (nomark _)) (pe_or (pe_g (k_is_number T) hr (pa_cons (pv 0) pa_nil)) (pe_one (pe_and (pe_callB call_isi rfl T.f_isinstance (by decide +kernel) (pa_cons (pv 0) (pa_cons (pe_bt (n := "str") T.f_str) pa_nil))) (pe_one (pe_cmpR op_eq (pv 0) (pe_gS T.s_OTHER) (nomark _)))))))), ?_⟩)
  obtain ⟨hh, rfl, hn, hq⟩ := h
  refine Evl.s_ret (v := .bl true) ?_ hq
  cases hh with
  | none => exact Evl.ev_is (Evl.ev_orV (a := true) (b := true) (Evl.ev_is (Evl.ev_op (Evl.ev_var rfl) Evl.ev_c rv_isN) (congrArg V.bl (decide_eq_true rfl))) fun h => by cases h) rfl
  | some hh => cases hh with
    | none =>
      refine Evl.ev_is (Evl.ev_orV (a := false) (b := true) (Evl.ev_is (Evl.ev_op (Evl.ev_var rfl) Evl.ev_c rv_isN) (congrArg V.bl (decide_eq_false (fun z => by cases z)))) fun _ => Evl.ev_is (Evl.ev_orV (a := false) (b := true) (ev_g (Evl.ea_cons (Evl.ev_var rfl) Evl.ea_nil) (sv_in (hear_pl _ _))) fun _ => ?_) rfl) rfl
      exact Evl.ev_is (Evl.ev_andV (a := true) (b := true) (Evl.ev_is (ev_isiB (Evl.ev_var rfl) (hear_pl _ _) (.inr (.inr (.inl rfl)))) rfl) fun _ => Evl.ev_is (Evl.ev_op (Evl.ev_var rfl) Evl.ev_c (Evl.rv_eq rfl)) (congrArg V.bl (decide_eq_true rfl))) rfl
    | some n =>
      refine Evl.ev_is (Evl.ev_orV (a := false) (b := true) (Evl.ev_is (Evl.ev_op (Evl.ev_var rfl) Evl.ev_c rv_isN) (congrArg V.bl (decide_eq_false (fun z => by cases z)))) fun _ => Evl.ev_is (Evl.ev_orV (a := true) (b := true) (Evl.ev_is (ev_g (Evl.ea_cons (Evl.ev_var rfl) Evl.ea_nil) (sv_in (hear_pl _ _))) ?_) fun h => by cases h) rfl) rfl
      exact congrArg V.bl (within_nat (hn n rfl))
theorem k_rank_of (T : TX K mg base) : FG RP w K mg base 1 "rank_of" (spHear fun h => .int (rankOf h)) := by
  refine fg_of T.g_rank_of T.kf_rank_of (fr_of (N := ["hear"]) (ps := ["hear"]) T.d_rank_of ⟨rfl, rfl, rfl, by decide +kernel, rfl, by decide +kernel, by decide +kernel⟩ (fun vs H Q E h => by obtain ⟨v, rfl, _⟩ := h; rfl) (fun _ _ _ _ _ _ us hl => match us, hl with | [_], _ => rfl) fun cdv A outer s H vs Q E hr h => ⟨_,
    pss_cons (ps_if (pt_cmpR op_isN1 (pv 0) pe_non (nomark _)) (pss_one (ps_ret (pe_un un_neg pe_int))) pss_nil)
    (pss_one (ps_ret (pe_ifExp (pt_cmpR op_eq (pv 0) (pe_gS T.s_OTHER) (nomark _)) (pe_op op_add (pe_gI T.i_MOST_NUMBER) pe_int) (pv 0)))), ?_⟩)
  obtain ⟨hh, rfl, hn, hq⟩ := h
  cases hh with
  | none => exact Evl.q_when (b := true) (Evl.et_is (Evl.et_test (Evl.ev_op (Evl.ev_var rfl) Evl.ev_c rv_isN)) (decide_eq_true rfl)) (fun _ H1 e1 => Evl.s_ret (Evl.ev_un Evl.ev_c Evl.ru_neg) fun H2 e2 => hq H2 (e1.trans e2)) fun h => by cases h
  | some hh =>
    refine Evl.q_when (b := false) (Evl.et_is (Evl.et_test (Evl.ev_op (Evl.ev_var rfl) Evl.ev_c rv_isN)) (decide_eq_false (fun z => by cases hh <;> cases z))) (fun h => by cases h) fun _ H1 e1 => ?_
    cases hh with
    | none => exact Evl.s_ret (Evl.ev_if (b := true) (Evl.et_is (Evl.et_test (Evl.ev_op (Evl.ev_var rfl) Evl.ev_c (Evl.rv_eq rfl))) (decide_eq_true rfl)) (fun _ => ev_add Evl.ev_c Evl.ev_c) fun h => by cases h) fun H2 e2 => hq H2 (e1.trans e2)
    | some n => exact Evl.s_ret (Evl.ev_if (b := false) (Evl.et_is (Evl.et_test (Evl.ev_op (Evl.ev_var rfl) Evl.ev_c (Evl.rv_eq rfl))) (decide_eq_false (fun z => by cases z))) (fun h => by cases h) fun _ => Evl.ev_var rfl) fun H2 e2 => hq H2 (e1.trans e2)
theorem k_word_at (T : TX K mg base) : FG RP w K mg base 1 "word_at" (spWordAt K) := by
  refine fg_of T.g_word_at T.kf_word_at (fr_of (N := ["words", "at"]) (ps := ["words", "at"]) T.d_word_at ⟨rfl, rfl, rfl, by decide +kernel, rfl, by decide +kernel, by decide +kernel⟩ (fun vs H Q E h => by obtain ⟨p, ws, i, rfl, _⟩ := h; rfl) (fun _ _ _ _ _ _ us hl => match us, hl with | [_, _], _ => rfl) fun cdv A outer s H vs Q E hr h => ⟨_,
    pss_one (ps_ret (pe_ifExp (pt_cmpR op_lt (pv 1) (pe_callB call_len_seq rfl T.f_len PySem.boot_len (pa_cons (pv 0) pa_nil)) (nomark _)) (pe_ix ix_list (pv 0) (pv 1) (fun _ _ => rfl)) pe_str)), ?_⟩)
  obtain ⟨p, ws, i, rfl, hw, hq⟩ := h
  refine Evl.s_ret (Evl.ev_if (b := decide (i < ws.length)) (Evl.et_is (Evl.et_test (Evl.ev_op (Evl.ev_var rfl) (Evl.ev_len (Evl.ev_var rfl) hw) Evl.rv_I0)) ?_) (fun h => ?_) fun h => ?_) hq
  · rw [List.length_map]
    exact decide_eq_decide.mpr (by omega)
  · have hi := of_decide_eq_true h
    have hg : ws[i]? = some (wordAt ws i) := by rw [wordAt_of (List.getElem?_eq_getElem hi)]; exact List.getElem?_eq_getElem hi
    exact Evl.ev_op (Evl.ev_var rfl) (Evl.ev_var rfl) (Evl.rv_ixL hw (atI_str hg))
  · have hi := of_decide_eq_false h
    have hg : wordAt ws i = "" := by
      unfold wordAt
      rw [List.getD_eq_getElem?_getD, List.getElem?_eq_none (by omega)]
      rfl
    rw [hg]
    exact Evl.ev_c
abbrev nDt : List Str := ["deeds", "deed"]
theorem sc_deeds_text : FnScope nDt ["deeds"] (defScope s_deeds_text) := ⟨rfl, rfl, rfl, by decide +kernel, rfl, by decide +kernel, by decide +kernel⟩
theorem sum_le {α : Type} (f : α → Nat) (k : Nat) : ∀ l : List α, (∀ x ∈ l, f x ≤ k) → (l.map f).sum ≤ l.length * k
  | [], _ => Nat.zero_le _
  | x :: r, h => by
    have := sum_le f k r fun y hy => h y (List.mem_cons_of_mem _ hy)
    have := h x List.mem_cons_self
    simp only [List.map_cons, List.sum_cons, List.length_cons, Nat.succ_mul]
    omega
theorem k_deeds_text (T : TX K mg base) : FG RP w K mg base 5 "deeds_text" (spDeedsText K) := by
  refine fg_of T.g_deeds_text T.kf_deeds_text (fr_of T.d_deeds_text sc_deeds_text (fun vs H Q E h => by obtain ⟨a, xs, ds, rfl, _⟩ := h; rfl) (fun _ _ _ _ _ _ us hl => match us, hl with | [_], _ => rfl) fun cdv A outer s H vs Q E hr h => ⟨_,
    pss_one (ps_ret (pe_ifExp (pt_cmpR op_gt (pe_callB (r := Evl.rLenS K) call_len_seq rfl T.f_len PySem.boot_len (pa_cons (pv 0) pa_nil)) pe_int (nomark _))
      (pe_m1 (r := rJoin K) PySem.F.slot_str_join PySem.F.type_str_join mt_join pe_str (pe_lc (own := [("deed", 1)]) (g := gName 1) (tt := tYes) (te := tCB (rStrO (cxOf CX0 RP w K mg base nDt "deeds_text" (defScope s_deeds_text) (He.ga K "deeds_text") cdv A outer s H E).nox) (tCons (tVar 1) tNil)) rfl sc_deeds_text.nd (pi_tup (pv 0))
        (blkOk_by (own := [("deed", 1)]) (N := nDt) (sc := defScope s_deeds_text) (by decide +kernel)) (fun _ _ _ _ _ => pg_name (i := 1) sc_deeds_text.nd rfl (Or.inl rfl)) (fun _ _ _ _ _ => pts_nil) (fun _ _ _ _ _ => pe_callTy call_strO rfl T.f_str (by decide +kernel) (pa_cons (pv 1) pa_nil)))) pe_str)), ?_⟩)
  obtain ⟨a, xs, ds, rfl, hs, hd, hz, hq⟩ := h
  have hl := hd.len
  refine Evl.s_ret (Evl.ev_if (b := decide (0 < ds.length)) (Evl.et_is (Evl.et_test (Evl.ev_op (ev_lenT (Evl.ev_var rfl) (.inr hs)) Evl.ev_c Evl.rv_I0)) (decide_eq_decide.mpr (by omega))) (fun h => ?_) fun h => ?_) hq
  · have h := of_decide_eq_true h
    have e1 : Rw.deedsT ds = Str.join " , " (ds.map Dd.txt) := by
      cases ds with
      | nil => simp at h
      | cons d r => rfl
    rw [e1]
    refine ev_joinL Evl.ev_c ?_ ?_
    · have eg : given xs.length (fun _ => true) (fun k => .str (ds.getD k (.answer 0)).txt) = (ds.map Dd.txt).map V.str := by
        unfold Evl.given
        rw [List.filter_eq_self.mpr (fun _ _ => rfl), hl]
        apply List.ext_getElem?
        intro i
        rw [List.getElem?_map, List.getElem?_map, List.getElem?_map]
        by_cases hi : i < ds.length
        · rw [List.getElem?_range hi, List.getElem?_eq_getElem hi]
          simp [List.getD_eq_getElem?_getD, hi]
        · rw [List.getElem?_eq_none (by simpa using hi), List.getElem?_eq_none (by simpa using hi)]
          rfl
      rw [← eg]
      refine el_lcT (K := K) (j := 1) (vs := [1]) (xs := xs) (fun _ => true) _ (Evl.ev_var rfl) hs (by omega) (fun _ => rfl) fun k v H2 e2 hv => ⟨fun H4 e4 Q q => q H4 (Ex.refl H4), fun _ => ?_⟩
      obtain ⟨d, hdk, isd⟩ := hd.get hv
      have hg2 : ds.getD k (.answer 0) = d := by rw [List.getD_eq_getElem?_getD, hdk]; rfl
      rw [hg2]
      have isd2 := isd.ex e2
      obtain ⟨ok, a', dx, rfl, ha⟩ := id isd2
      exact ev_strO (Evl.ev_var rfl) ha (og_str T d) hr (sv_strD isd2)
    · have z := sum_le (fun s : Str => s.length) 10 (ds.map Dd.txt) fun x hx => by
        obtain ⟨d, hd', rfl⟩ := List.mem_map.mp hx
        obtain ⟨i, hi, rfl⟩ := List.mem_iff_getElem.mp hd'
        have hx' : i < xs.length := by omega
        obtain ⟨d2, h2, ok, _⟩ := hd.get (List.getElem?_eq_getElem hx')
        rw [List.getElem?_eq_getElem hi] at h2
        cases h2
        exact Dd.txt_len ok
      have e3 : (" , " : Str).length = 3 := by decide +kernel
      rw [List.length_map] at z ⊢
      rw [e3]
      omega
  · have h := of_decide_eq_false h
    have : ds = [] := List.eq_nil_of_length_eq_zero (by omega)
    subst this
    exact Evl.ev_c
end
end Mp
set_option maxHeartbeats 4000000
/-! Defs: boxes_text, are_boxes. -/
namespace Mp
open PySem PySem.Spec PyProof.Rows L2
open Evl (Ex Ev EvL EvU EvT EvA RV SpV given)

def iV (n : Nat) : V := .int (n : Int)
/-- ' empty 0 1' -/
def boxT (z : Str) : List Nat → Str
  | [] => ""
  | b :: bs => Str.join "" ((z :: (b :: bs).map nS).map fun (p : Str) => (" " : Str) ++ p)
def spBoxesText (K : PySem.W.Frag) : Sp := fun vs H Q _ => ∃ (z : Str) (a : Addr) (bs : List Nat), vs = [.str z, .ref a] ∧ SqT K H a (bs.map iV) ∧ z.length ≤ 10 ∧ bs.length ≤ 3 ∧ (∀ b ∈ bs, b ≤ 2) ∧ ∀ H', Ex H H' → Q (.str (boxT z bs)) H'
theorem sv_boxesText {K : PySem.W.Frag} {H : Hp} {z : Str} {a : Addr} {bs : List Nat} (h : SqT K H a (bs.map iV)) (hz : z.length ≤ 10) (hl : bs.length ≤ 3) (hb : ∀ b ∈ bs, b ≤ 2) : SpV (spBoxesText K) [.str z, .ref a] H (.str (boxT z bs)) := fun H1 e Q q E => ⟨z, a, bs, rfl, Evl.ex_t e h, hz, hl, hb, fun H2 e2 => q H2 e2⟩
theorem ea_star {K : PySem.W.Frag} {σ : L2.St} {H : Hp} {te : TE} {t : TA} {a : Addr} {xs ys : List V} (h : Ev te σ H (.ref a)) (hx : SqTL K H a xs) (hr : EvA t σ H ys) : EvA (StX.tStar K te t) σ H (xs ++ ys) := fun H1 e Q q =>
  h H1 e _ fun H2 e2 => ⟨a, xs, rfl, (hx.ex (e.trans e2)).elim .inr .inl, hr H2 (e.trans e2) _ fun H3 e3 => q H3 (e2.trans e3)⟩
/-- a part of a text: a text, a small number -/
def partS : V → Str
  | .str z => z
  | .int i => nS i.toNat
  | _ => ""
theorem ev_fmtP {σ : L2.St} {H : Hp} {te : TE} {v : V} (h : Ev te σ H v) (hv : (∃ z : Str, v = .str z ∧ z.length ≤ 10) ∨ ∃ n : Nat, v = iV n ∧ n < 24) : Ev (tFmt te) σ H (.str (partS v)) := by
  rcases hv with ⟨z, rfl, hz⟩ | ⟨n, rfl, hn⟩
  · exact ev_fmtS (z := z) h (by omega)
  · have z := ev_fmtI (i := n) h hn
    have e : partS (iV n) = nS n := by
      show nS ((n : Int).toNat) = nS n
      rw [Int.toNat_natCast]
    rw [e]
    exact z
section
variable {w : World} {K : PySem.W.Frag} {mg : Str → Option Value} {base : Heap}
abbrev nBt : List Str := ["word", "boxes", "part"]
theorem sc_boxes_text : FnScope nBt ["word", "boxes"] (defScope s_boxes_text) := ⟨rfl, rfl, rfl, by decide +kernel, rfl, by decide +kernel, by decide +kernel⟩
theorem k_boxes_text (T : TX K mg base) : FG RP w K mg base 1 "boxes_text" (spBoxesText K) := by
  refine fg_of T.g_boxes_text T.kf_boxes_text (fr_of T.d_boxes_text sc_boxes_text (fun vs H Q E h => by obtain ⟨z, a, bs, rfl, _⟩ := h; rfl) (fun _ _ _ _ _ _ us hl => match us, hl with | [_, _], _ => rfl) fun cdv A outer s H vs Q E hr h => ⟨_,
    pss_one (ps_ret (pe_ifExp (pt_cmpR op_gt (pe_callB (r := Evl.rLenS K) call_len_seq rfl T.f_len PySem.boot_len (pa_cons (pv 1) pa_nil)) pe_int (nomark _))
      (pe_m1 (r := rJoin K) PySem.F.slot_str_join PySem.F.type_str_join mt_join pe_str (pe_lc (own := [("part", 2)]) (g := gName 2) (tt := tYes) rfl sc_boxes_text.nd (pi_list (pe_lst (pa_cons (pv 0) (StX.pa_star (pv 1) pa_nil))))
        (blkOk_by (own := [("part", 2)]) (N := nBt) (sc := defScope s_boxes_text) (by decide +kernel)) (fun _ _ _ _ _ => pg_name (i := 2) sc_boxes_text.nd rfl (Or.inl rfl)) (fun _ _ _ _ _ => pts_nil) (fun _ _ _ _ _ => pe_joined (.cons pe_str (.cons (pe_fmt (pv 2)) .nil))))) pe_str)), ?_⟩)
  obtain ⟨z, a, bs, rfl, hs, hz, hl, hb, hq⟩ := h
  refine Evl.s_ret (Evl.ev_if (b := decide (0 < bs.length)) (Evl.et_is (Evl.et_test (Evl.ev_op (ev_lenT (Evl.ev_var rfl) (.inr hs)) Evl.ev_c Evl.rv_I0)) (decide_eq_decide.mpr (by rw [List.length_map]; omega))) (fun h => ?_) fun h => ?_) hq
  · have h := of_decide_eq_true h
    have e1 : boxT z bs = Str.join "" ((z :: bs.map nS).map fun (p : Str) => (" " : Str) ++ p) := by
      cases bs with
      | nil => simp at h
      | cons b r => rfl
    rw [e1]
    have ez : (" " : Str).length = 1 := by decide +kernel
    have part : ∀ x ∈ V.str z :: bs.map iV, (∃ z : Str, x = .str z ∧ z.length ≤ 10) ∨ ∃ n : Nat, x = iV n ∧ n < 24 := fun x hx => by
      rcases List.mem_cons.mp hx with rfl | hx
      · exact .inl ⟨z, rfl, hz⟩
      · obtain ⟨n, hn, rfl⟩ := List.mem_map.mp hx
        exact .inr ⟨n, rfl, by have := hb n hn; omega⟩
    refine ev_joinL Evl.ev_c ?_ ?_
    · have eg : given (V.str z :: bs.map iV).length (fun _ => true) (fun k => .str (Str.empty ++ " " ++ partS ((V.str z :: bs.map iV).getD k .non))) = ((z :: bs.map nS).map fun (p : Str) => (" " : Str) ++ p).map V.str := by
        unfold Evl.given
        rw [List.filter_eq_self.mpr (fun _ _ => rfl)]
        apply List.ext_getElem?
        intro i
        rw [List.getElem?_map, List.getElem?_map, List.getElem?_map]
        by_cases hi : i < (V.str z :: bs.map iV).length
        · rw [List.getElem?_range hi]
          have hi' : i < (z :: bs.map nS).length := by simpa using hi
          rw [List.getElem?_eq_getElem hi']
          simp only [Option.map_some, Str.empty_append]
          congr 2
          rw [List.getD_eq_getElem?_getD, List.getElem?_eq_getElem hi]
          cases i with
          | zero => rfl
          | succ i =>
            simp only [List.getElem_cons_succ, List.getElem_map, Option.getD_some]
            show " " ++ nS (Int.toNat _) = _
            rw [Int.toNat_natCast]
        · rw [List.getElem?_eq_none (by simpa using hi), List.getElem?_eq_none (by simpa using hi)]
          rfl
      rw [← eg]
      refine Evl.el_lcNL (K := K) (j := 2) (vs := [2]) (xs := V.str z :: bs.map iV) (fun _ => true) _ (Evl.el_lst (Evl.ea_cons (Evl.ev_var rfl) (by have z := ea_star (K := K) (ys := []) (Evl.ev_var (σ := start nBt [V.str z, V.ref a]) (i := 1) rfl) (.inr hs) Evl.ea_nil; rw [List.append_nil] at z; exact z)) (by simp; omega)) (by simp; omega) (fun _ => rfl) (fun k v H2 e2 hv => fun H4 e4 Q q => q H4 (Ex.refl H4)) fun k v H2 e2 hv _ => ?_
      have hg2 : (V.str z :: bs.map iV).getD k .non = v := by rw [List.getD_eq_getElem?_getD, hv]; rfl
      rw [hg2]
      have hp := part v (List.mem_of_getElem? hv)
      have hpl : (partS v).length ≤ 10 := by
        rcases hp with ⟨z', rfl, hz'⟩ | ⟨n, rfl, hn⟩
        · exact hz'
        · show (nS ((n : Int).toNat)).length ≤ 10
          rw [Int.toNat_natCast]
          have := nS_len n hn
          omega
      exact ev_js (.cons Evl.ev_c (.cons (ev_fmtP (Evl.ev_var rfl) hp) .nil)) (by simp only [List.map_cons, List.map_nil, List.sum_cons, List.sum_nil, ez]; omega)
    · have q := sum_le (fun s : Str => s.length) 11 ((z :: bs.map nS).map fun (p : Str) => (" " : Str) ++ p) fun x hx => by
        obtain ⟨y, hy, rfl⟩ := List.mem_map.mp hx
        rw [Str.length_append, ez]
        rcases List.mem_cons.mp hy with rfl | hy
        · omega
        · obtain ⟨n, hn, rfl⟩ := List.mem_map.mp hy
          have := nS_len n (by have := hb n hn; omega)
          omega
      have e3 : ("" : Str).length = 0 := by decide +kernel
      rw [e3]
      simp only [List.length_map, List.length_cons] at q ⊢
      omega
  · have h := of_decide_eq_false h
    have : bs = [] := List.eq_nil_of_length_eq_zero (by omega)
    subst this
    exact Evl.ev_c
end
end Mp
set_option maxHeartbeats 4000000
/-! Def: are_boxes. -/
namespace Mp
open PySem PySem.Spec PyProof.Rows L2
open Evl (Ex Ev EvL EvU EvT EvA RV SpV given)

theorem tyx_tup {K : PySem.W.Frag} {H : Hp} {a : Addr} {xs : List V} (h : SqT K H a xs) : TyX K H (.ref a) (.type "tuple") := by
  rcases h with h | ⟨o, its, n, e, c, _⟩
  · rcases h with h | ⟨o, h⟩
    · exact .base (.tup h)
    · exact .fTuple h
  · exact .kTuple e c
theorem ev_isiTup {K : PySem.W.Frag} {σ : L2.St} {H : Hp} {te : TE} {a : Addr} {xs : List V} (h : Ev te σ H (.ref a)) (hx : SqT K H a xs) : Ev (tCB (rIsi K) (tCons te (tCons (tC (.ty "tuple")) tNil))) σ H (.bl true) :=
  Evl.ev_cb (Evl.ea_cons h (Evl.ea_cons Evl.ev_c Evl.ea_nil)) fun H1 e Q q => ⟨.ref a, .ty "tuple", .type "tuple", .type "tuple", true, rfl, .ty _, tyx_tup (Evl.ex_t e hx), if_pos (beq_self_eq_true _), q H1 (Ex.refl H1)⟩
/-- a walk found at the run -/
def GoodJ (σ : L2.St) (g : TG) (tt : TT) (te : TE) (vs : List Nat) (n : Nat) (f : Nat → Bool) (u : Nat → V) (J : It) (H : Hp) : Prop :=
  (∀ i H1, Ex H H1 → i < n → J.go i H1) ∧ (∀ H1, Ex H H1 → J.stop n H1) ∧
  ∀ i x H1 H2, Ex H H1 → i < n → J.yld i H1 x H2 → Ex H1 H2 ∧ ∃ σ2, wipe σ2 vs = wipe σ vs ∧ (∀ Q : L2.St → Hp → Prop, (∀ H3, Ex H2 H3 → Q σ2 H3) → g x (wipe σ vs) H2 Q) ∧ EvT tt σ2 H2 (f i) ∧ (f i = true → Ev te σ2 H2 (u i))
theorem el_lcJ {σ : L2.St} {H : Hp} {te : TE} {wi : TI} {g : TG} {tt : TT} {vs : List Nat} (n : Nat) (f : Nat → Bool) (u : Nat → V) (hn : n ≤ 40000)
    (hwi : ∀ H1, Ex H H1 → ∀ R : It → Hp → Prop, (∀ J H2, Ex H1 H2 → GoodJ σ g tt te vs n f u J H2 → R J H2) → wi σ H1 R) : EvL (tLc wi g tt te vs) σ H (given n f u) := fun H0 e0 Q q => by
  refine hwi H0 e0 _ fun J H1 e1 ⟨g1, g2, g3⟩ => ?_
  exact el_lcG (wi := fun _ H R => R J H) (J := J) n f u hn (fun H2 e2 R r => r H2 (Ex.refl H2)) g1 g2 g3 H1 (Ex.refl H1) Q fun p H2 a b c => q p H2 (Evl.fresh_back e1 a) (e1.trans b) c
/-- t[lo:hi], another tuple or itself -/
theorem ep_slA {K : PySem.W.Frag} {σ : L2.St} {H : Hp} {te : TE} {tl th : TO} {a : Addr} {xs : List V} {lo hi : Option Int} (h : Ev te σ H (.ref a)) (h1 : Evl.EvO tl σ H lo) (h2 : Evl.EvO th σ H hi) (hs : SqT K H a xs) :
    EvP (tSl (rSlA K) te tl th) σ H fun v H' => ∃ p, v = .ref p ∧ SqT K H' p (cutV xs lo hi) := fun H1 e Q q =>
  h H1 e _ fun H2 e2 => h1 H2 (e.trans e2) _ fun H3 e3 => h2 H3 ((e.trans e2).trans e3) _ fun H4 e4 => by
    have hs4 := Evl.ex_t (((e.trans e2).trans e3).trans e4) hs
    refine ⟨a, xs, rfl, hs4, fun w => q _ H4 ((e2.trans e3).trans e4) ⟨a, rfl, ?_⟩, fun _ p hp => q _ _ (((e2.trans e3).trans e4).trans (Ex.new hp)) ⟨p, rfl, .inl (.inl upd_same)⟩⟩
    have : cutV xs lo hi = xs := by
      unfold cutV
      rw [w.1, w.2]
      simp
    rw [this]
    exact hs4
theorem box_asc : ∀ bs ∈ boxSets, (∀ i, i < bs.length - 1 → bs.getD i 0 < bs.getD (i + 1) 0) ∧ (∀ b ∈ bs, b ≤ 2) ∧ bs.length ≤ 3 := by
  intro bs hb
  refine ⟨fun i hi => ?_, ?_⟩
  · have := (by decide +kernel : ∀ bs ∈ boxSets, ∀ i ∈ List.range 3, i < bs.length - 1 → bs.getD i 0 < bs.getD (i + 1) 0) bs hb i (by
      have := (by decide +kernel : ∀ bs ∈ boxSets, bs.length ≤ 3) bs hb
      simp; omega)
    exact this hi
  · exact (by decide +kernel : ∀ bs ∈ boxSets, (∀ b ∈ bs, b ≤ 2) ∧ bs.length ≤ 3) bs hb
theorem cut_tail {xs : List V} : cutV xs (some 1) none = xs.drop 1 := by
  cases xs with
  | nil => rfl
  | cons x r =>
    have e1 : HT.sIx (x :: r).length 0 (some 1) = 1 := by
      unfold HT.sIx
      simp
      try omega
    have e2 : HT.sIx (x :: r).length (x :: r).length none = (x :: r).length := by
      unfold HT.sIx
      simp
    unfold cutV
    rw [e1, e2]
    simp
def spAreBoxes (K : PySem.W.Frag) : Sp := fun vs H Q _ => ∃ (a : Addr) (bs : List Nat), vs = [.ref a] ∧ SqT K H a (bs.map iV) ∧ bs ∈ boxSets ∧ ∀ H', Ex H H' → Q (.bl true) H'
theorem sv_areBoxes {K : PySem.W.Frag} {H : Hp} {a : Addr} {bs : List Nat} (h : SqT K H a (bs.map iV)) (hb : bs ∈ boxSets) : SpV (spAreBoxes K) [.ref a] H (.bl true) := fun H1 e Q q E => ⟨a, bs, rfl, Evl.ex_t e h, hb, fun H2 e2 => q H2 e2⟩
section
variable {w : World} {K : PySem.W.Frag} {mg : Str → Option Value} {base : Heap}
abbrev nAb : List Str := ["value", "box", "one", "two"]
theorem sc_are_boxes : FnScope nAb ["value"] (defScope s_are_boxes) := ⟨rfl, rfl, rfl, by decide +kernel, rfl, by decide +kernel, by decide +kernel⟩
theorem k_are_boxes (T : TX K mg base) : FG RP w K mg base 4 "are_boxes" (spAreBoxes K) := by
  refine fg_of T.g_are_boxes T.kf_are_boxes (fr_of T.d_are_boxes sc_are_boxes (fun vs H Q E h => by obtain ⟨a, bs, rfl, _⟩ := h; rfl) (fun _ _ _ _ _ _ us hl => match us, hl with | [_], _ => rfl) fun cdv A outer s H vs Q E hr h => ⟨_,
    pss_cons (ps_if (PW.pt (pw_or (pt_not (pt_val (pe_callB (r := rIsi K) call_isi rfl T.f_isinstance (by decide +kernel) (pa_cons (pv 0) (pa_cons (pe_bt (n := "tuple") T.f_tuple) pa_nil)))))
      (pw_or1 (pt_not (pt_val (pe_callB (cr_all rfl) rfl T.f_all (by decide +kernel) (pa_cons (pe_lc (own := [("box", 1)]) (g := gName 1) (tt := tYes) rfl sc_are_boxes.nd (pi_tup (pv 0)) (blkOk_by (own := [("box", 1)]) (N := nAb) (sc := defScope s_are_boxes) (by decide +kernel))
        (fun _ _ _ _ _ => pg_name (i := 1) sc_are_boxes.nd rfl (Or.inl rfl)) (fun _ _ _ _ _ => pts_nil) (fun _ _ _ _ _ => pe_g (k_is_box T) (hr.mono (by decide)) (pa_cons (pv 1) pa_nil))) pa_nil))))))) (pss_one ps_never) pss_nil)
    (pss_one (ps_ret (pe_callB (cr_all rfl) rfl T.f_all (by decide +kernel) (pa_cons (pe_lc (own := [("one", 2), ("two", 3)]) (g := gTup K 2 (gCons (gName 2) (gCons (gName 3) gNil))) (tt := tYes) (te := tOp (rI0 fun i j => .bl (decide (i < j))) (tVar 2) (tVar 3)) rfl sc_are_boxes.nd
      (RZ.pi_zipA rfl T.f_zip (pa_cons (pv 0) (pa_cons (pe_slice sl_tupA (pv 0) (po_some pe_int) po_none) pa_nil))) (blkOk_by (own := [("one", 2), ("two", 3)]) (N := nAb) (sc := defScope s_are_boxes) (by decide +kernel))
      (fun _ _ _ _ _ => pg_tup rfl (pgs_cons (pg_name (i := 2) sc_are_boxes.nd rfl (Or.inl rfl)) (pgs_cons (pg_name (i := 3) sc_are_boxes.nd rfl (Or.inl rfl)) pgs_nil))) (fun _ _ _ _ _ => pts_nil) (fun _ _ _ _ _ => pe_cmpR op_lt (pv 2) (pv 3) (nomark _))) pa_nil)))), ?_⟩)
  obtain ⟨a, bs, rfl, hs, hb, hq⟩ := h
  obtain ⟨asc, b2, bl⟩ := box_asc bs hb
  refine Evl.q_when (b := false) (Evl.et_is (Evl.et_or (a := false) (b := false) (Evl.et_is (Evl.et_not (Evl.et_B (ev_isiTup (Evl.ev_var rfl) hs))) rfl) fun _ => Evl.et_is (Evl.et_not (Evl.et_B (ev_all (bs := (((List.range (bs.map iV).length).filter fun _ => true).map fun _ => true)) ?_))) ?_) rfl) (fun h => by cases h) fun _ H1 e1 => ?_
  · rw [← given_bools]
    refine el_lcT (K := K) (j := 1) (vs := [1]) (xs := bs.map iV) (fun _ => true) _ (Evl.ev_var rfl) hs (by simp; omega) (fun _ => rfl) fun k v H2 e2 hv => ⟨fun H4 e4 Q q => q H4 (Ex.refl H4), fun _ => ?_⟩
    obtain ⟨n, hn, rfl⟩ := List.mem_map.mp (List.mem_of_getElem? hv)
    exact Evl.ev_is (ev_g (Evl.ea_cons (Evl.ev_var rfl) Evl.ea_nil) (sv_in (.int _))) (congrArg V.bl (within_nat (b2 n hn)))
  · rw [range_all (bs.map iV) (fun _ => true) (fun _ => true) (fun _ _ _ => rfl)]
    simp
  have hs1 := Evl.ex_t e1 hs
  refine Evl.s_ret (v := .bl true) (Evl.ev_is (ev_all (bs := ((List.range (bs.length - 1)).filter fun _ => true).map fun _ => true) ?_) ?_) fun H2 e2 => hq H2 (e1.trans e2)
  · rw [← given_bools]
    refine el_lcJ (bs.length - 1) (fun _ => true) _ (by omega) fun H2 e2 R r => ?_
    unfold RZ.iZipA tCons
    refine (Evl.ev_var (σ := start nAb [.ref a]) (H := H1) (v := .ref a) (i := 0) rfl) H2 e2 _ fun H3 e3 => ?_
    refine ep_slA (K := K) (lo := some 1) (hi := none) (Evl.ev_var rfl) (Evl.eo_some Evl.ev_c) Evl.eo_none hs1 H3 (e2.trans e3) _ fun v H4 e4 ⟨p, ev, hp⟩ => ?_
    subst ev
    rw [cut_tail] at hp
    have hs4 := Evl.ex_t ((e2.trans e3).trans e4) hs1
    refine ⟨a, p, _, _, rfl, .inr ⟨hs4, hp, r _ H4 (e3.trans e4) ⟨fun i H5 e5 hi => ?_, fun H5 e5 => ?_, fun i x H5 H6 e5 hi hy => ?_⟩⟩⟩
    · exact ⟨_, _, iV (bs.getD i 0), iV (bs.getD (i + 1) 0), Evl.ex_t e5 hs4, Evl.ex_t e5 hp, by rw [List.getElem?_map, List.getElem?_eq_getElem (by omega), List.getD_eq_getElem?_getD, List.getElem?_eq_getElem (by omega)]; rfl,
        by rw [List.getElem?_drop, Nat.add_comm, List.getElem?_map, List.getElem?_eq_getElem (by omega), List.getD_eq_getElem?_getD, List.getElem?_eq_getElem (by omega)]; rfl⟩
    · exact ⟨_, _, Evl.ex_t e5 hs4, Evl.ex_t e5 hp, .inr (by simp)⟩
    · obtain ⟨t, x', y', rfl, hT, rfl, f1, f2⟩ := hy
      have h1 := f1 _ (Evl.ex_t e5 hs4)
      have h2 := f2 _ (Evl.ex_t e5 hp)
      have ex : x' = iV (bs.getD i 0) := by
        rw [List.getElem?_map, List.getElem?_eq_getElem (by omega)] at h1
        rw [List.getD_eq_getElem?_getD, List.getElem?_eq_getElem (by omega)]
        exact (Option.some.inj h1).symm
      have ey : y' = iV (bs.getD (i + 1) 0) := by
        rw [List.getElem?_drop, Nat.add_comm, List.getElem?_map, List.getElem?_eq_getElem (by omega)] at h2
        rw [List.getD_eq_getElem?_getD, List.getElem?_eq_getElem (by omega)]
        exact (Option.some.inj h2).symm
      subst ex ey
      refine ⟨Ex.new hT, _, ?_, fun Q q => ⟨t, _, rfl, .inl (.inl upd_same), rfl, _, _, rfl, _, _, rfl, rfl, q _ (Ex.refl _)⟩, fun H7 e7 Q q => q H7 (Ex.refl H7), fun _ => Evl.ev_is (Evl.ev_op (Evl.ev_var rfl) (Evl.ev_var rfl) Evl.rv_I0) (congrArg V.bl (decide_eq_true ?_))⟩
      · rfl
      · have := asc i hi
        show ((bs.getD i 0 : Nat) : Int) < ((bs.getD (i + 1) 0 : Nat) : Int)
        omega
  · rw [List.filter_eq_self.mpr (fun _ _ => rfl)]
    simp
end
end Mp
set_option maxHeartbeats 4000000
/-! Def: Row.__init__. -/
namespace Mp
open PySem PySem.Spec PyProof.Rows L2
open Evl (Ex Ev EvL EvU EvT EvA RV SpV given)

section
variable {K : PySem.W.Frag} {H H' : Hp} {x C dx a : Addr} {xs : List V} {ds : List Dd}
theorem rd_exb {u : HO} (hx : H x = some (.ins C dx [])) (hu : ∀ C dx fs, u ≠ .ins C dx fs) (eb : ExB x H H') (h : Rd H a u) : Rd H' a u := by
  rcases h with h | ⟨o, h⟩
  · refine .inl (eb a _ (fun z => ?_) h)
    rw [z, hx] at h
    injection h with h
    exact hu _ _ _ h.symm
  · refine .inr ⟨o, eb a _ (fun z => ?_) h⟩
    rw [z, hx] at h
    injection h with h
    cases h
theorem sqT_exb (hx : H x = some (.ins C dx [])) (eb : ExB x H H') (h : SqT K H a xs) : SqT K H' a xs := by
  rcases h with h | h
  · exact .inl (rd_exb hx (fun _ _ _ z => by cases z) eb h)
  · exact .inr h
theorem deed_exb {v : V} {d : Dd} (hx : H x = some (.ins C dx [])) (eb : ExB x H H') (h : IsDeed K H v d) : IsDeed K H' v d := by
  obtain ⟨ok, a, dx', rfl, ha⟩ := h
  refine ⟨ok, a, dx', rfl, eb a _ (fun z => ?_) ha⟩
  rw [z, hx] at ha
  injection ha with ha
  injection ha with _ _ e
  cases d <;> cases e
theorem deeds_exb (hx : H x = some (.ins C dx [])) (eb : ExB x H H') (h : Deeds K H xs ds) : Deeds K H' xs ds := L2.Paired.mapP h fun _ _ z => deed_exb hx eb z
end
/-- o.f = e, e by a word -/
theorem s_fldP {K : PySem.W.Frag} {ta tv : TE} {f : Str} {D : Ends} {σ : L2.St} {H : Hp} {a C dx : Addr} {fs : List (Str × V)} {P : V → Hp → Prop} (hv : EvP tv σ H P) (h : Ev ta σ H (.ref a)) (ha : H a = some (.ins C dx fs)) (c : Cls K C) (nf : NoAttr K C f) (hl : fs.length < 1000)
    (k : ∀ v H1 H2, Ex H H1 → P v H1 → Ex H1 H2 → D.nx σ (upd H2 a (.ins C dx (putF f v fs)))) : sFld K ta tv f D σ H := hv H (Ex.refl H) _ fun v H1 e1 p => h H1 e1 _ fun H2 e2 => ⟨a, C, dx, fs, rfl, (e1.trans e2) _ _ ha, c, nf, hl, k v H1 H2 e1 p e2⟩
theorem s_fldQ {K : PySem.W.Frag} {ta tv : TE} {tz : TS} {f : Str} {D : Ends} {σ : L2.St} {H : Hp} {v : V} {a C dx : Addr} {fs : List (Str × V)} (hv : Ev tv σ H v) (h : Ev ta σ H (.ref a)) (ha : H a = some (.ins C dx fs)) (c : Cls K C) (nf : NoAttr K C f) (hl : fs.length < 1000)
    (k : ∀ H1, Ex H H1 → tz D σ (upd H1 a (.ins C dx (putF f v fs)))) : tSeq (sFld K ta tv f) tz D σ H := s_fld (D := { D with nx := tz D }) hv h ha c nf hl k
theorem ep_tup {ta : TA} {σ : L2.St} {H : Hp} {vs : List V} (h : EvA ta σ H vs) (hl : vs.length ≤ 1000) : EvP (tTup ta) σ H fun v H' => ∃ p, v = .ref p ∧ H' p = some (.tup vs) := fun H1 e Q q =>
  h H1 e _ fun H2 e2 => ⟨Nat.le_trans hl (by decide), fun t ht => q _ _ (e2.trans (Ex.new ht)) ⟨t, rfl, upd_same⟩⟩
theorem putF_lt {f : Str} {v : V} {n : Nat} : ∀ {fs : List (Str × V)}, fs.length < n → (putF f v fs).length < n + 1
  | [], h => by show 1 < n + 1; simp at h; omega
  | (g, x) :: r, h => by
    unfold putF
    split
    · simp at h ⊢; omega
    · have := putF_lt (f := f) (v := v) (n := n - 1) (fs := r) (by simp at h; omega)
      simp at h ⊢
      omega
/-- a side -/
def IsSide (side : Str) : Prop := side = "sender" ∨ side = "receiver"
theorem Rw.Ok.side_fit {r : Rw} {side : Str} (ok : r.Ok side) (hs : IsSide side) : side ∈ fitS r.deeds := by
  unfold fitS
  have h1 : r.deeds.all (fun d => d.forS side) = true := List.all_eq_true.mpr fun d hd => (ok.deeds d hd).2
  refine List.mem_filter.mpr ⟨?_, h1⟩
  rcases hs with rfl | rfl <;> simp
/-- what a row is made of -/
structure RowParts (K : PySem.W.Frag) (H : Hp) (r : Rw) (pd pe pf : Addr) (xs : List V) : Prop where
  deeds : SqT K H pd xs
  each : Deeds K H xs r.deeds
  empty : SqT K H pe (r.empty.map iV)
  full : SqT K H pf (r.full.map iV)
theorem RowParts.ex {K : PySem.W.Frag} {H H' : Hp} {r : Rw} {pd pe pf : Addr} {xs : List V} (h : RowParts K H r pd pe pf xs) (e : Ex H H') : RowParts K H' r pd pe pf xs := ⟨Evl.ex_t e h.deeds, h.each.ex e, Evl.ex_t e h.empty, Evl.ex_t e h.full⟩
theorem RowParts.exb {K : PySem.W.Frag} {H H' : Hp} {r : Rw} {pd pe pf x C dx : Addr} {xs : List V} (h : RowParts K H r pd pe pf xs) (hx : H x = some (.ins C dx [])) (e : ExB x H H') : RowParts K H' r pd pe pf xs := ⟨sqT_exb hx e h.deeds, deeds_exb hx e h.each, sqT_exb hx e h.empty, sqT_exb hx e h.full⟩
def keyV (r : Rw) (pe pf : Addr) : List V := [iV r.state, .int (rankOf r.hear), .ref pe, .ref pf, .str (Rw.deedsT r.deeds), iV r.thn]
def rowF (r : Rw) (pd pe pf pk : Addr) : List (Str × V) := [("state", iV r.state), ("deeds", .ref pd), ("then", iV r.thn), ("hear", hearV r.hear), ("empty", .ref pe), ("full", .ref pf), ("key", .ref pk)]
/-- v is the row r -/
def IsRow (K : PySem.W.Frag) (H : Hp) (v : V) (r : Rw) : Prop := ∃ a dx pd pe pf pk xs, v = .ref a ∧ H a = some (.ins (He.ga K "Row") dx (rowF r pd pe pf pk)) ∧ H pk = some (.tup (keyV r pe pf)) ∧ RowParts K H r pd pe pf xs ∧ ∃ side, IsSide side ∧ r.Ok side
theorem IsRow.ex {K : PySem.W.Frag} {H H' : Hp} {v : V} {r : Rw} (h : IsRow K H v r) (e : Ex H H') : IsRow K H' v r := by
  obtain ⟨a, dx, pd, pe, pf, pk, xs, rfl, ha, hk, hp, ok⟩ := h
  exact ⟨a, dx, pd, pe, pf, pk, xs, rfl, e _ _ ha, e _ _ hk, hp.ex e, ok⟩
/-- the inner word of Row.__init__ -/
def spRowI (K : PySem.W.Frag) : Sp := fun vs H Q _ => ∃ (x dx pd pe pf : Addr) (xs : List V) (r : Rw), vs = [.ref x, iV r.state, iV r.thn, hearV r.hear, .ref pe, .ref pf, .ref pd] ∧ H x = some (.ins (He.ga K "Row") dx []) ∧ RowParts K H r pd pe pf xs ∧ (∃ side, IsSide side ∧ r.Ok side) ∧
  ∀ H' pk, ExB x H H' → H' x = some (.ins (He.ga K "Row") dx (rowF r pd pe pf pk)) → H' pk = some (.tup (keyV r pe pf)) → Q .non H'
theorem given_noPut (ds : List Dd) (h : ∀ d ∈ ds, d.isPut = false) : (((List.range ds.length).filter fun _ => true).map fun k => (ds.getD k (.answer 0)).isPut).any id = false := by
  rw [List.filter_eq_self.mpr (fun _ _ => rfl), List.any_map, Bool.eq_false_iff]
  intro z
  obtain ⟨k, hk, e⟩ := List.any_eq_true.mp z
  have hk' : k < ds.length := by simpa using hk
  have : (ds.getD k (.answer 0)).isPut = false := by
    rw [List.getD_eq_getElem?_getD, List.getElem?_eq_getElem hk']
    exact h _ (List.getElem_mem hk')
  rw [List.getD_eq_getElem?_getD] at this
  simp [this] at e
theorem inV_iV (b : Nat) : ∀ l : List Nat, inV (iV b) (l.map iV) = l.contains b
  | [] => rfl
  | c :: l => by
    have ih := inV_iV b l
    unfold inV at ih ⊢
    rw [List.map_cons, List.any_cons, List.contains_cons, ih]
    congr 1
    rw [Bool.eq_iff_iff]
    constructor
    · intro h
      have h := of_decide_eq_true h
      injection h with h
      simp [h]
    · intro h
      have h := eq_of_beq h
      subst h
      exact decide_eq_true rfl
theorem flat_iV (l : List Nat) : (l.map iV).all flatV = true := by
  rw [List.all_map]
  exact List.all_eq_true.mpr fun _ _ => rfl
section
variable {w : World} {K : PySem.W.Frag} {mg : Str → Option Value} {base : Heap}
abbrev nRi : List Str := ["self", "state", "then", "hear", "empty", "full", "deeds", "deed", "box"]
theorem sc_Row_init : FnScope nRi ((["self", "state"] : List Str) ++ (["then", "hear", "empty", "full"] : List Str) ++ (["deeds"] : List Str)) (defScope s_Row_init) := ⟨rfl, rfl, rfl, by decide +kernel, rfl, by decide +kernel, by decide +kernel⟩
def ksRow : List Str := ["then", "hear", "empty", "full"]
theorem k_Row_init (T : TX K mg base) : FnK RP w K mg base CX0 6 (He.ma K (He.ga K "Row") "__init__") ksRow (fun vs zs H Q E => ∃ ws rest, vs = ws ++ rest ∧ ws.length = 2 ∧ rest.length ≤ sizeLine ∧ ∀ p, H p = Option.none → spRowI K (ws ++ zs ++ [V.ref p]) (upd H p (.tup rest)) Q E) := by
  obtain ⟨fd, F⟩ := T.d_Row_init
  obtain ⟨oc, od, dV, kV, doc, pm, an, cdv, ct, osl, rfl, lk, hcd, hdv, hkv⟩ := F.ex
  obtain rfl : dV = .none := hdv.elim (·.2) (fun z => absurd rfl z.1)
  refine fn_starK (ps := ["self", "state"]) (ks := ksRow) (pv := "deeds") lk hcd sc_Row_init StX.cxUp_none (fun us rest ws h1 h2 => ?_) fun A outer s H vs Q E hr h => ⟨_, PSs.nox (
    pss_cons (ps_if (pt_not (pt_val (pe_g (k_is_state T) (hr.mono (by decide)) (pa_cons (pv 1) pa_nil)))) (pss_one ps_never) pss_nil)
    (pss_cons (ps_expr (pe_g (k_need_deeds T) (hr.mono (by decide)) (pa_cons (pv 6) pa_nil)))
    (pss_cons (ps_if (pt_not (pt_val (pe_g (k_is_state T) (hr.mono (by decide)) (pa_cons (pv 2) pa_nil)))) (pss_one ps_never) pss_nil)
    (pss_cons (ps_if (PW.pt (pw_or (pt_not (pt_val (pe_g (k_is_heard T) (hr.mono (by decide)) (pa_cons (pv 3) pa_nil)))) (pw_or1 (PW.pt (pw_and (pt_cmpR op_isN1 (pv 3) pe_non (nomark _))
      (pw_and1 (pt_val (pe_callB (cr_any rfl) rfl T.f_any (by decide +kernel) (pa_cons (pe_lc (own := [("deed", 7)]) (g := gName 7) (tt := tYes) rfl sc_Row_init.nd (pi_tup (pv 6)) (blkOk_by (own := [("deed", 7)]) (N := nRi) (sc := defScope s_Row_init) (by decide +kernel))
        (fun _ _ _ _ _ => pg_name (i := 7) sc_Row_init.nd rfl (Or.inl rfl)) (fun _ _ _ _ _ => pts_nil) (fun _ _ _ _ _ => pe_callB (r := rIsi K) call_isi rfl T.f_isinstance (by decide +kernel) (pa_cons (pv 7) (pa_cons (pe_gR T.g_Put) pa_nil)))) pa_nil))))))))) (pss_one ps_never) pss_nil)
    (pss_cons (ps_if (pt_not (pt_val (pe_g (k_are_boxes T) (hr.mono (by decide)) (pa_cons (pv 4) pa_nil)))) (pss_one ps_never) pss_nil)
    (pss_cons (ps_if (PW.pt (pw_or (pt_not (pt_val (pe_g (k_are_boxes T) (hr.mono (by decide)) (pa_cons (pv 5) pa_nil)))) (pw_or1 (pt_val (pe_callB (cr_any rfl) rfl T.f_any (by decide +kernel) (pa_cons (pe_lc (own := [("box", 8)]) (g := gName 8) (tt := tYes) rfl sc_Row_init.nd (pi_tup (pv 5)) (blkOk_by (own := [("box", 8)]) (N := nRi) (sc := defScope s_Row_init) (by decide +kernel))
        (fun _ _ _ _ _ => pg_name (i := 8) sc_Row_init.nd rfl (Or.inl rfl)) (fun _ _ _ _ _ => pts_nil) (fun _ _ _ _ _ => pe_cmpR (r := rIn K false) op_in_seq (pv 8) (pv 4) (by rfl))) pa_nil)))))) (pss_one ps_never) pss_nil)
    (pss_cons (ps_fld (pv 0) (pv 1) rfl) (pss_cons (ps_fld (pv 0) (pv 6) rfl) (pss_cons (ps_fld (pv 0) (pv 2) rfl) (pss_cons (ps_fld (pv 0) (pv 3) rfl) (pss_cons (ps_fld (pv 0) (pv 4) rfl) (pss_cons (ps_fld (pv 0) (pv 5) rfl)
    (pss_one (ps_fld (pv 0) (pe_tup (pa_cons (pv 1) (pa_cons (pe_g (k_rank_of T) (hr.mono (by decide)) (pa_cons (pv 3) pa_nil)) (pa_cons (pv 4) (pa_cons (pv 5) (pa_cons (pe_g (k_deeds_text T) (hr.mono (by decide)) (pa_cons (pv 6) pa_nil)) (pa_cons (pv 2) pa_nil))))))) rfl)))))))))))))), ?_⟩
  · match us, ws, h1, h2, rest with
    | [_, _], [_, _, _, _], _, _, [] => rfl
    | [_, _], [_, _, _, _], _, _, _ :: _ => rfl
  obtain ⟨x, dx, pd, pe, pf, xs, r, rfl, hx, hp, ⟨side, hsd, ok⟩, hq⟩ := h
  have hl := hp.each.len
  have okl := ok.len
  refine Evl.q_when (b := false) (Evl.et_is (Evl.et_not (Evl.et_B (ev_g (Evl.ea_cons (Evl.ev_var rfl) Evl.ea_nil) (sv_in (.int _))))) ?_) (fun h => by cases h) fun _ H1 e1 => ?_
  · exact congrArg Bool.not (within_nat ok.state)
  refine Evl.q_drop (ev_g (Evl.ea_cons (Evl.ev_var rfl) Evl.ea_nil) (sv_needDeeds ⟨pd, xs, r.deeds, rfl, Evl.ex_t e1 hp.deeds, hp.each.ex e1, okl, fun z => ?_, ok.takes⟩)) fun H2 e2 => ?_
  · have := ok.side_fit hsd
    rw [z] at this
    cases this
  have e12 := e1.trans e2
  refine Evl.q_when (b := false) (Evl.et_is (Evl.et_not (Evl.et_B (ev_g (Evl.ea_cons (Evl.ev_var rfl) Evl.ea_nil) (sv_in (.int _))))) ?_) (fun h => by cases h) fun _ H3 e3 => ?_
  · exact congrArg Bool.not (within_nat ok.thn)
  have e13 := e12.trans e3
  refine Evl.q_when (b := false) (Evl.et_is (Evl.et_or (a := false) (b := false) (Evl.et_is (Evl.et_not (Evl.et_B (ev_g (Evl.ea_cons (Evl.ev_var rfl) Evl.ea_nil) (sv_hear ok.hear)))) rfl) fun _ => Evl.et_is (Evl.et_and (a := decide (hearV r.hear = .non)) (b := false) (Evl.et_test (Evl.ev_op (Evl.ev_var rfl) Evl.ev_c rv_isN)) fun hn => Evl.et_is (Evl.et_B (ev_any (bs := ((List.range r.deeds.length).filter fun _ => true).map fun k => (r.deeds.getD k (.answer 0)).isPut) ?_)) (given_noPut _ ?_)) ?_) rfl) (fun h => by cases h) fun _ H4 e4 => ?_
  · rw [← given_bools, ← hl]
    refine el_lcT (K := K) (j := 7) (vs := [7]) (xs := xs) (fun _ => true) _ (Evl.ev_var rfl) (Evl.ex_t e13 hp.deeds) (by omega) (fun _ => rfl) fun k v H4 e4 hv => ⟨fun H5 e5 Q q => q H5 (Ex.refl H5), fun _ => ?_⟩
    obtain ⟨d, hdk, isd⟩ := hp.each.get hv
    have hg2 : r.deeds.getD k (.answer 0) = d := by rw [List.getD_eq_getElem?_getD, hdk]; rfl
    rw [hg2]
    exact ev_isiPut T (Evl.ev_var rfl) (isd.ex (e13.trans e4))
  · refine ok.puts ?_
    have hn := of_decide_eq_true hn
    cases h : r.hear with
    | none => rfl
    | some q =>
      rw [h] at hn
      cases q <;> cases hn
  · cases decide (hearV r.hear = .non) <;> rfl
  have e14 := e13.trans e4
  refine Evl.q_when (b := false) (Evl.et_is (Evl.et_not (Evl.et_B (ev_g (Evl.ea_cons (Evl.ev_var rfl) Evl.ea_nil) (sv_areBoxes (Evl.ex_t e14 hp.empty) ok.empty)))) rfl) (fun h => by cases h) fun _ H5 e5 => ?_
  have e15 := e14.trans e5
  refine Evl.q_when (b := false) (Evl.et_is (Evl.et_or (a := false) (b := false) (Evl.et_is (Evl.et_not (Evl.et_B (ev_g (Evl.ea_cons (Evl.ev_var rfl) Evl.ea_nil) (sv_areBoxes (Evl.ex_t e15 hp.full) ok.full)))) rfl) fun _ => Evl.et_is (Evl.et_B (ev_any (bs := ((List.range (r.full.map iV).length).filter fun _ => true).map fun k => r.empty.contains (r.full.getD k 0)) ?_)) ?_) rfl) (fun h => by cases h) fun _ H6 e6 => ?_
  · rw [← given_bools]
    have := (box_asc _ ok.full).2.2
    refine el_lcT (K := K) (j := 8) (vs := [8]) (xs := r.full.map iV) (fun _ => true) _ (Evl.ev_var rfl) (Evl.ex_t e15 hp.full) (by simp; omega) (fun _ => rfl) fun k v H4 e4 hv => ⟨fun H5 e5 Q q => q H5 (Ex.refl H5), fun _ => ?_⟩
    rw [List.getElem?_map] at hv
    obtain ⟨b, hb, rfl⟩ := Option.map_eq_some_iff.mp hv
    have hg2 : r.full.getD k 0 = b := by rw [List.getD_eq_getElem?_getD, hb]; rfl
    rw [hg2, ← inV_iV]
    exact Evl.ev_op (Evl.ev_var rfl) (Evl.ev_var rfl) (Evl.rv_isT (Evl.ex_t (e15.trans e4) hp.empty) rfl (flat_iV _))
  · rw [any_given, List.length_map, range_any r.full (fun b => r.empty.contains b) (fun k => r.empty.contains (r.full.getD k 0)) (fun k b e => by rw [List.getD_eq_getElem?_getD, e]; rfl)]
    rw [Bool.eq_false_iff]
    intro z
    obtain ⟨b, hb, e⟩ := List.any_eq_true.mp z
    exact ok.apart b hb (by simpa using e)
  have e16 := e15.trans e6
  have cR : Cls K (He.ga K "Row") := ⟨T.pg_Row, T.hd_Row, T.po_Row, T.sa_Row⟩
  refine s_fldQ (Evl.ev_var rfl) (Evl.ev_var rfl) (e16 _ _ hx) cR T.no_Row_state (by decide : ([] : List (Str × V)).length < 1000) fun H7 e7 => ?_
  refine s_fldQ (Evl.ev_var rfl) (Evl.ev_var rfl) upd_same cR T.no_Row_deeds (putF_lt (by decide : ([] : List (Str × V)).length < 999)) fun H8 e8 => ?_
  refine s_fldQ (Evl.ev_var rfl) (Evl.ev_var rfl) upd_same cR T.no_Row_then (putF_lt (putF_lt (by decide : ([] : List (Str × V)).length < 998))) fun H9 e9 => ?_
  refine s_fldQ (Evl.ev_var rfl) (Evl.ev_var rfl) upd_same cR T.no_Row_hear (putF_lt (putF_lt (putF_lt (by decide : ([] : List (Str × V)).length < 997)))) fun H10 e10 => ?_
  refine s_fldQ (Evl.ev_var rfl) (Evl.ev_var rfl) upd_same cR T.no_Row_empty (putF_lt (putF_lt (putF_lt (putF_lt (by decide : ([] : List (Str × V)).length < 996))))) fun H11 e11 => ?_
  refine s_fldQ (Evl.ev_var rfl) (Evl.ev_var rfl) upd_same cR T.no_Row_full (putF_lt (putF_lt (putF_lt (putF_lt (putF_lt (by decide : ([] : List (Str × V)).length < 995)))))) fun H12 e12' => ?_
  have eb : ExB x H (upd H12 x (.ins (He.ga K "Row") dx [(("state" : Str), iV r.state), ("deeds", .ref pd), ("then", iV r.thn), ("hear", hearV r.hear), ("empty", .ref pe), ("full", .ref pf)])) :=
    ExB.upd ((ExB.of e16).trans ((ExB.of e7).upd.trans ((ExB.of e8).upd.trans ((ExB.of e9).upd.trans ((ExB.of e10).upd.trans ((ExB.of e11).upd.trans (ExB.of e12')))))))
  have hp12 := hp.exb hx eb
  refine s_fldP (P := fun v H' => ∃ pk, v = .ref pk ∧ H' pk = some (.tup (keyV r pe pf))) ?_ (Evl.ev_var rfl) upd_same cR T.no_Row_key (putF_lt (putF_lt (putF_lt (putF_lt (putF_lt (putF_lt (by decide : ([] : List (Str × V)).length < 994))))))) fun v H13 H14 e13' ⟨pk, ev, hk⟩ e14' => ?_
  · refine ep_tup (Evl.ea_cons (Evl.ev_var rfl) (Evl.ea_cons (ev_g (Evl.ea_cons (Evl.ev_var rfl) Evl.ea_nil) (sv_hear ok.hear)) (Evl.ea_cons (Evl.ev_var rfl) (Evl.ea_cons (Evl.ev_var rfl) (Evl.ea_cons (ev_g (Evl.ea_cons (Evl.ev_var rfl) Evl.ea_nil) (sv_deedsText hp12.deeds hp12.each okl)) (Evl.ea_cons (Evl.ev_var rfl) Evl.ea_nil)))))) (by show 6 ≤ 1000; decide)
  subst ev
  have hk14 := e14' _ _ hk
  refine hq _ pk (eb.trans (ExB.of (e13'.trans e14'))).upd upd_same ?_
  have ne : pk ≠ x := fun z => by
    rw [z, (e13' _ _ upd_same)] at hk
    cases hk
  rw [upd_ne ne]
  exact hk14
end
end Mp
set_option maxHeartbeats 4000000
/-! The plain law: rows by their words. No program here. -/
namespace Mp
open PySem

theorem app_sep {α : Type} {z : α} : ∀ {w v r s : List α}, z ∉ w → z ∉ v → w ++ z :: r = v ++ z :: s → w = v ∧ r = s
  | [], [], r, s, _, _, h => ⟨rfl, by injection h⟩
  | [], y :: v, r, s, _, h2, h => by injection h with h; subst h; simp at h2
  | x :: w, [], r, s, h1, _, h => by injection h with h; subst h; simp at h1
  | x :: w, y :: v, r, s, h1, h2, h => by
    injection h with h h'
    subst h
    have z := app_sep (fun q => h1 (List.mem_cons_of_mem _ q)) (fun q => h2 (List.mem_cons_of_mem _ q)) h'
    exact ⟨by rw [z.1], z.2⟩
theorem gluedW_inj {z : Str} : ∀ {ws vs : List (List Str)}, (∀ w ∈ ws, z ∉ w ∧ w ≠ []) → (∀ w ∈ vs, z ∉ w ∧ w ≠ []) → gluedW z ws = gluedW z vs → ws = vs
  | [], [], _, _, _ => rfl
  | [], [v], _, h2, h => absurd h.symm (h2 v (by simp)).2
  | [], v :: v2 :: r, _, h2, h => by simp [gluedW] at h
  | [w], [], h1, _, h => absurd h (h1 w (by simp)).2
  | w :: w2 :: r, [], h1, _, h => by simp [gluedW] at h
  | [w], [v], _, _, h => by simp only [gluedW] at h; rw [h]
  | [w], v :: v2 :: r, h1, h2, h => by
    simp only [gluedW] at h
    have := (h1 w (by simp)).1
    rw [h] at this
    simp at this
  | w :: w2 :: r, [v], h1, h2, h => by
    simp only [gluedW] at h
    have := (h2 v (by simp)).1
    rw [← h] at this
    simp at this
  | w :: w2 :: r, v :: v2 :: s, h1, h2, h => by
    simp only [gluedW] at h
    have z1 := app_sep (h1 w (by simp)).1 (h2 v (by simp)).1 h
    have z2 := gluedW_inj (fun x hx => h1 x (List.mem_cons_of_mem _ hx)) (fun x hx => h2 x (List.mem_cons_of_mem _ hx)) z1.2
    rw [z1.1, z2]
theorem Dd.words_sep : ∀ d ∈ Dd.all, (("," : Str) ∉ d.words) ∧ (("-" : Str) ∉ d.words) := by decide +kernel
theorem Dd.words_inj : ∀ d ∈ Dd.all, ∀ e ∈ Dd.all, d.words = e.words → d = e := by decide +kernel
theorem Dd.words_inj_list : ∀ {ds es : List Dd}, (∀ d ∈ ds, d.ok = true) → (∀ d ∈ es, d.ok = true) → ds.map Dd.words = es.map Dd.words → ds = es
  | [], [], _, _, _ => rfl
  | [], _ :: _, _, _, h => by cases h
  | _ :: _, [], _, _, h => by cases h
  | d :: ds, e :: es, h1, h2, h => by
    injection h with h h'
    rw [Dd.words_inj d (Dd.mem_all (h1 d (by simp))) e (Dd.mem_all (h2 e (by simp))) h, Dd.words_inj_list (fun x hx => h1 x (List.mem_cons_of_mem _ hx)) (fun x hx => h2 x (List.mem_cons_of_mem _ hx)) h']
theorem deedsW_inj {ds es : List Dd} (h1 : ∀ d ∈ ds, d.ok = true) (h2 : ∀ d ∈ es, d.ok = true) (h : Rw.deedsW ds = Rw.deedsW es) : ds = es := by
  have no : ∀ (d : Dd) (r : List Dd), d.ok = true → gluedW "," ((d :: r).map Dd.words) ≠ [("-" : Str)] := fun d r ok z => by
    have w := Dd.words_sep d (Dd.mem_all ok)
    have hm : ∀ x ∈ d.words, x ∈ gluedW "," ((d :: r).map Dd.words) := fun x hx => by
      cases r with
      | nil => exact hx
      | cons e r => exact List.mem_append_left _ hx
    have hv : d.verb ∈ d.words := by simp [Dd.words]
    have := hm _ hv
    rw [z] at this
    have e := List.mem_singleton.mp this
    exact w.2 (e ▸ hv)
  cases ds with
  | nil =>
    cases es with
    | nil => rfl
    | cons e es => exact absurd h.symm (no e es (h2 e (by simp)))
  | cons d ds =>
    cases es with
    | nil => exact absurd h (no d ds (h1 d (by simp)))
    | cons e es =>
      refine Dd.words_inj_list h1 h2 (gluedW_inj (z := ",") (fun w hw => ?_) (fun w hw => ?_) h)
      · obtain ⟨x, hx, rfl⟩ := List.mem_map.mp hw
        exact ⟨(Dd.words_sep x (Dd.mem_all (h1 x hx))).1, x.words_ne⟩
      · obtain ⟨x, hx, rfl⟩ := List.mem_map.mp hw
        exact ⟨(Dd.words_sep x (Dd.mem_all (h2 x hx))).1, x.words_ne⟩
theorem deedsW_signs {ds : List Dd} (h : ∀ d ∈ ds, d.ok = true) : ∀ w ∈ Rw.deedsW ds, 32 ∉ TL.tl w := by
  cases ds with
  | nil =>
    intro w hw
    have : w = "-" := by simpa [Rw.deedsW] using hw
    rw [this]
    decide +kernel
  | cons d r =>
    refine gluedW_all (P := fun w => 32 ∉ TL.tl w) (by decide +kernel) fun w hw => ?_
    obtain ⟨x, hx, rfl⟩ := List.mem_map.mp hw
    exact Dd.words_signs (h x hx)
theorem deedsT_inj {ds es : List Dd} (h1 : ∀ d ∈ ds, d.ok = true) (h2 : ∀ d ∈ es, d.ok = true) (h : Rw.deedsT ds = Rw.deedsT es) : ds = es := by
  refine deedsW_inj h1 h2 ?_
  rw [deedsT_eq, deedsT_eq] at h
  rw [← split_words (deedsW_ne ds) (deedsW_signs h1), ← split_words (deedsW_ne es) (deedsW_signs h2), h]
end Mp
set_option maxHeartbeats 4000000
/-! Defs: Row.sides, Row.__eq__. -/
namespace Mp
open PySem PySem.Spec PyProof.Rows L2
open Evl (Ex Ev EvL EvU EvT EvA RV SpV given)

theorem strOk_app (a b : Str) : PyData.strOk (a ++ b) = (PyData.strOk a && PyData.strOk b) := by
  show ((a.cps ++ b.cps).all fun c => decide (c < 0x110000)) = _
  rw [Array.all_append]
  rfl
theorem strOk_join {z : Str} (hz : PyData.strOk z = true) : ∀ {ws : List Str}, (∀ w ∈ ws, PyData.strOk w = true) → PyData.strOk (Str.join z ws) = true
  | [], _ => by show PyData.strOk Str.empty = true; decide +kernel
  | [x], h => h x (by simp)
  | x :: y :: r, h => by
    rw [join_cons z x (by simp), strOk_app, strOk_app, h x (by simp), hz, strOk_join hz fun w hw => h w (List.mem_cons_of_mem _ hw)]
    rfl
theorem deedsT_ok {ds : List Dd} (h : ∀ d ∈ ds, d.ok = true) : PyData.strOk (Rw.deedsT ds) = true := by
  cases ds with
  | nil => decide +kernel
  | cons d r =>
    refine strOk_join (z := " , ") (by decide +kernel) fun w hw => ?_
    obtain ⟨x, hx, rfl⟩ := List.mem_map.mp hw
    exact (by decide +kernel : ∀ d ∈ Dd.all, PyData.strOk d.txt = true) x (Dd.mem_all (h x hx))
def intsD (l : List Nat) : List PyData := l.map fun (n : Nat) => .int (n : Int)
theorem dpAll_ints {K : PySem.W.Frag} {H : Hp} : ∀ l : List Nat, DpAll K H (l.map iV) (intsD l)
  | [] => .nil
  | n :: l => .cons (.int _) (dpAll_ints l)
theorem intsD_ok : ∀ l : List Nat, PyData.canLayAll0 (intsD l) = true ∧ PyData.depthAll (intsD l) = 0
  | [] => ⟨rfl, rfl⟩
  | n :: l => by
    have z := intsD_ok l
    refine ⟨?_, ?_⟩
    · show (PyData.canLay0 _ && PyData.canLayAll0 (intsD l)) = true
      rw [z.1]; rfl
    · show max (PyData.depth _) (PyData.depthAll (intsD l)) = 0
      rw [z.2]; rfl
theorem eqv_ints : ∀ l m : List Nat, PyData.eqvAll (intsD l) (intsD m) = decide (l = m)
  | [], [] => rfl
  | [], _ :: _ => rfl
  | _ :: _, [] => rfl
  | a :: l, b :: m => by
    show (PyData.eqv (.int (a : Int)) (.int (b : Int)) && PyData.eqvAll (intsD l) (intsD m)) = _
    rw [eqv_ints l m]
    show (((a : Int) == (b : Int)) && decide (l = m)) = decide (a :: l = b :: m)
    rw [Bool.eq_iff_iff]
    simp
    intro _
    omega
def keyD (r : Rw) : PyData := .tuple [.int (r.state : Int), .int (rankOf r.hear), .tuple (intsD r.empty), .tuple (intsD r.full), .str (Rw.deedsT r.deeds), .int (r.thn : Int)]
theorem keyD_shaped {r : Rw} {side : Str} (h : r.Ok side) : SeqAt.shaped (keyD r) = true := by
  have e := intsD_ok r.empty
  have f := intsD_ok r.full
  have t := deedsT_ok fun d hd => (h.deeds d hd).1
  unfold SeqAt.shaped keyD
  simp only [PyData.canLay0, PyData.canLayAll0, PyData.depth, PyData.depthAll, e.1, e.2, f.1, f.2, t]
  decide
theorem rank_inj {h k : Option (Option Nat)} (h1 : ∀ n, h = some (some n) → n ≤ 5) (h2 : ∀ n, k = some (some n) → n ≤ 5) (e : rankOf h = rankOf k) : h = k := by
  rcases h with _ | _ | n <;> rcases k with _ | _ | m <;> simp only [rankOf] at e
  · rfl
  · cases e
  · omega
  · cases e
  · rfl
  · have := h2 m rfl; omega
  · omega
  · have := h1 n rfl; omega
  · have : n = m := by omega
    rw [this]
theorem keyD_eqv {r q : Rw} {side side' : Str} (h : r.Ok side) (k : q.Ok side') : PyData.eqv (keyD r) (keyD q) = decide (r = q) := by
  unfold keyD
  simp only [PyData.eqv, PyData.eqvAll, eqv_ints, Bool.and_true]
  rw [Bool.eq_iff_iff]
  simp only [Bool.and_eq_true, beq_iff_eq, decide_eq_true_eq]
  constructor
  · rintro ⟨a, b, c, d, e, f⟩
    have b' := rank_inj h.hear k.hear b
    have e' := deedsT_inj (fun d hd => (h.deeds d hd).1) (fun d hd => (k.deeds d hd).1) e
    cases r
    cases q
    simp only at a b' c d e' f
    have a' := Int.ofNat.inj a
    have f' := Int.ofNat.inj f
    subst a' b' c d e' f'
    rfl
  · rintro rfl
    simp
theorem dp_key {K : PySem.W.Frag} {H : Hp} {r : Rw} {pe pf pk : Addr} (hk : H pk = some (.tup (keyV r pe pf))) (he : SqT K H pe (r.empty.map iV)) (hf : SqT K H pf (r.full.map iV)) : Dp K H (.ref pk) (keyD r) :=
  .tup (.inl (.inl hk)) (.cons (.int _) (.cons (.int _) (.cons (.tup he (dpAll_ints _)) (.cons (.tup hf (dpAll_ints _)) (.cons (.str _) (.cons (.int _) .nil))))))
def spRowSides (K : PySem.W.Frag) : Sp := fun vs H Q _ => ∃ (v : V) (r : Rw), vs = [v] ∧ IsRow K H v r ∧ ∀ v H', Ex H H' → IsStrs K (fitS r.deeds) v H' → Q v H'
theorem sp_rowSides {K : PySem.W.Frag} {H : Hp} {v : V} {r : Rw} (h : IsRow K H v r) : SpP (spRowSides K) [v] H (IsStrs K (fitS r.deeds)) := fun H1 e Q k E => ⟨v, r, rfl, h.ex e, fun v H2 e2 z => k v H2 e2 z⟩
def spRowEq (K : PySem.W.Frag) : Sp := fun vs H Q _ => ∃ (v u : V) (r q : Rw), vs = [v, u] ∧ IsRow K H v r ∧ IsRow K H u q ∧ ∀ H', Ex H H' → Q (.bl (decide (r = q))) H'
theorem sv_rowEq {K : PySem.W.Frag} {H : Hp} {v u : V} {r q : Rw} (h : IsRow K H v r) (k : IsRow K H u q) : SpV (spRowEq K) [v, u] H (.bl (decide (r = q))) := fun H1 e Q k' E => ⟨v, u, r, q, rfl, h.ex e, k.ex e, fun H2 e2 => k' H2 e2⟩
theorem rv_eqD {K : PySem.W.Frag} {H : Hp} {x y : V} {d e : PyData} (hx : ∀ H1, Ex H H1 → Dp K H1 x d) (hy : ∀ H1, Ex H H1 → Dp K H1 y e) (sx : SeqAt.shaped d = true) (sy : SeqAt.shaped e = true) : RV (rEqD K) x y H (.bl (PyData.eqv d e)) := fun H1 e1 Q q => ⟨d, e, hx H1 e1, hy H1 e1, sx, sy, q H1 (Ex.refl H1)⟩
section
variable {w : World} {K : PySem.W.Frag} {mg : Str → Option Value} {base : Heap}
theorem cls_Row (T : TX K mg base) : Cls K (He.ga K "Row") := ⟨T.pg_Row, T.hd_Row, T.po_Row, T.sa_Row⟩
theorem tyx_row (T : TX K mg base) {H : Hp} {v : V} {r : Rw} (h : IsRow K H v r) : TyX K H v (.ref (He.ga K "Row")) := by
  obtain ⟨a, dx, pd, pe, pf, pk, xs, rfl, ha, _⟩ := h
  exact .base (.ins ha (cls_Row T) T.cl_Row T.ocGet T.ocTk T.ob_Row)
theorem mg_sides (T : TX K mg base) : MG RP w K mg base 4 (He.ga K "Row") "sides" (spRowSides K) := by
  refine ⟨cls_Row T, _, ⟨T.at_Row_sides, T.fn_Row_sides, T.kf_Row_sides⟩, fr_of (N := ["self"]) (ps := ["self"]) T.d_Row_sides ⟨rfl, rfl, rfl, by decide +kernel, rfl, by decide +kernel, by decide +kernel⟩ (fun vs H Q E h => by obtain ⟨v, r, rfl, _⟩ := h; rfl) (fun _ _ _ _ _ _ us hl => match us, hl with | [_], _ => rfl) fun cdv A outer s H vs Q E hr h => ⟨_,
    pss_one (ps_ret (pe_g (k_fit_sides T) (hr.mono (by decide)) (pa_cons (pe_fld (pv 0) rfl) pa_nil))), ?_⟩⟩
  obtain ⟨v, r, rfl, hv, hq⟩ := h
  obtain ⟨a, dx, pd, pe, pf, pk, xs, rfl, ha, hk, hp, side, hsd, ok⟩ := id hv
  have := ok.len
  exact sp_ret (ep_g (Evl.ea_cons (ev_fld (Evl.ev_var rfl) ha (cls_Row T) T.no_Row_deeds rfl) Evl.ea_nil) (sp_fit (.inr hp.deeds) hp.each (by omega))) hq
theorem og_rowEq (T : TX K mg base) : OG RP w K mg base 1 (He.ga K "Row") "__eq__" (spRowEq K) := by
  refine ⟨_, T.at_Row_eq, T.fn_Row_eq, T.fi_Row_eq, fr_of (N := ["self", "other"]) (ps := ["self", "other"]) T.d_Row_eq ⟨rfl, rfl, rfl, by decide +kernel, rfl, by decide +kernel, by decide +kernel⟩ (fun vs H Q E h => by obtain ⟨v, u, r, q, rfl, _⟩ := h; rfl) (fun _ _ _ _ _ _ us hl => match us, hl with | [_, _], _ => rfl) fun cdv A outer s H vs Q E hr h => ⟨_,
    pss_one (ps_ret (pe_and (pe_callB (r := rIsi K) call_isi rfl T.f_isinstance (by decide +kernel) (pa_cons (pv 1) (pa_cons (pe_gR T.g_Row) pa_nil))) (pe_one (pe_cmpR (r := rEqD K) (op_eqD hr.units) (pe_fld (pv 0) rfl) (pe_fld (pv 1) rfl) (nomark _))))), ?_⟩⟩
  obtain ⟨v, u, r, q, rfl, hv, hu, hq⟩ := h
  obtain ⟨a, dx, pd, pe, pf, pk, xs, rfl, ha, hk, hp, side, hsd, ok⟩ := id hv
  obtain ⟨a', dx', pd', pe', pf', pk', xs', rfl, ha', hk', hp', side', hsd', ok'⟩ := id hu
  refine Evl.s_ret (Evl.ev_is (Evl.ev_andV (a := true) (b := decide (r = q)) (ev_isiC (Evl.ev_var rfl) (fun H1 e => tyx_row T (hu.ex e)) T.kit_Row_Row) fun _ => Evl.ev_is (Evl.ev_op (ev_fld (Evl.ev_var rfl) ha (cls_Row T) T.no_Row_key rfl) (ev_fld (Evl.ev_var rfl) ha' (cls_Row T) T.no_Row_key rfl)
    (rv_eqD (fun H1 e => dp_key (e _ _ hk) (Evl.ex_t e hp.empty) (Evl.ex_t e hp.full)) (fun H1 e => dp_key (e _ _ hk') (Evl.ex_t e hp'.empty) (Evl.ex_t e hp'.full)) (keyD_shaped ok) (keyD_shaped ok'))) (congrArg V.bl (keyD_eqv ok ok'))) rfl) hq
end
end Mp
set_option maxHeartbeats 4000000
/-! Def: Row.__str__. -/
namespace Mp
open PySem PySem.Spec PyProof.Rows L2
open Evl (Ex Ev EvL EvU EvT EvA RV SpV given)

/-- each word behind a space -/
def pre : List Str → Str
  | [] => ""
  | p :: r => " " ++ p ++ pre r
theorem str_e : ("" : Str) = Str.empty := by decide +kernel
theorem pre_app : ∀ a b : List Str, pre (a ++ b) = pre a ++ pre b
  | [], b => by show pre b = "" ++ pre b; rw [str_e, Str.empty_append]
  | x :: a, b => by
    show " " ++ x ++ pre (a ++ b) = " " ++ x ++ pre a ++ pre b
    rw [pre_app a b]
    simp only [Str.append_assoc]
theorem join_pre : ∀ (x : Str) (ys : List Str), Str.join " " (x :: ys) = x ++ pre ys
  | x, [] => by show x = x ++ ""; rw [str_e, Str.append_empty]
  | x, y :: ys => by
    rw [join_cons " " x (by simp), join_pre y ys]
    show _ = x ++ (" " ++ y ++ pre ys)
    simp only [Str.append_assoc]
theorem pre_join {ys : List Str} (h : ys ≠ []) : pre ys = " " ++ Str.join " " ys := by
  cases ys with
  | nil => exact absurd rfl h
  | cons y ys => rw [join_pre]; show " " ++ y ++ pre ys = _; simp only [Str.append_assoc]
theorem joinE_pre : ∀ (ys : List Str), Str.join "" (ys.map fun (p : Str) => (" " : Str) ++ p) = pre ys
  | [] => rfl
  | [y] => by show " " ++ y = " " ++ y ++ ""; rw [str_e, Str.append_empty]
  | x :: y :: ys => by
    have e1 : Str.join "" ((x :: y :: ys).map fun (p : Str) => (" " : Str) ++ p) = (" " ++ x) ++ "" ++ Str.join "" ((y :: ys).map fun (p : Str) => (" " : Str) ++ p) := join_cons "" _ (by simp)
    rw [e1, joinE_pre (y :: ys), str_e, Str.append_empty]
    rfl
theorem boxT_pre (z : Str) : ∀ bs : List Nat, boxT z bs = pre (Rw.boxW z bs)
  | [] => rfl
  | b :: bs => joinE_pre (z :: (b :: bs).map nS)
theorem pre_len (k : Nat) : ∀ ys : List Str, (∀ y ∈ ys, y.length ≤ k) → (pre ys).length ≤ ys.length * (k + 1)
  | [], _ => by show Str.length "" ≤ _; rw [str_e]; exact Nat.zero_le _
  | y :: ys, h => by
    have := pre_len k ys fun z hz => h z (List.mem_cons_of_mem _ hz)
    have := h y (by simp)
    have e : (" " : Str).length = 1 := by decide +kernel
    show (" " ++ y ++ pre ys).length ≤ _
    rw [Str.length_append, Str.length_append, e, List.length_cons, Nat.succ_mul]
    omega
theorem boxT_len {z : Str} {bs : List Nat} (hz : z.length ≤ 10) (hl : bs.length ≤ 3) (hb : ∀ b ∈ bs, b ≤ 2) : (boxT z bs).length ≤ 44 := by
  rw [boxT_pre]
  have h := pre_len 10 (Rw.boxW z bs) fun y hy => by
    cases bs with
    | nil => simp [Rw.boxW] at hy
    | cons b r =>
      rcases List.mem_cons.mp hy with rfl | hy
      · exact hz
      · obtain ⟨n, hn, rfl⟩ := List.mem_map.mp hy
        have := nS_len n (by have := hb n hn; omega)
        omega
  have h2 : (Rw.boxW z bs).length ≤ 4 := by
    cases bs with
    | nil => exact Nat.zero_le _
    | cons b r => simp [Rw.boxW] at hl ⊢; omega
  have := Nat.mul_le_mul_right 11 h2
  omega
theorem deedsT_len {ds : List Dd} (h : ∀ d ∈ ds, d.ok = true) (hl : ds.length ≤ 8) : (Rw.deedsT ds).length ≤ 120 := by
  have key : ∀ {l : List Str}, (∀ x ∈ l, x.length ≤ 10) → (Str.join " , " l).length ≤ l.length * 13 := fun {l} hl => by
    induction l with
    | nil => show Str.empty.length ≤ _; exact Nat.zero_le _
    | cons x r ih =>
      cases r with
      | nil =>
        have := hl x (by simp)
        show x.length ≤ _
        simp; omega
      | cons y r =>
        have := ih fun z hz => hl z (List.mem_cons_of_mem _ hz)
        have h1 := hl x (by simp)
        have e : (" , " : Str).length = 3 := by decide +kernel
        rw [join_cons " , " x (by simp), Str.length_append, Str.length_append, e]
        simp only [List.length_cons] at this ⊢
        omega
  cases ds with
  | nil => show Str.length "-" ≤ 120; decide +kernel
  | cons d r =>
    have := key (l := (d :: r).map Dd.txt) fun x hx => by
      obtain ⟨e, he, rfl⟩ := List.mem_map.mp hx
      exact Dd.txt_len (h e he)
    show (Str.join " , " ((d :: r).map Dd.txt)).length ≤ 120
    rw [List.length_map] at this
    omega
def hearT (h : Option (Option Nat)) : Str := match h with
  | none => ""
  | some h => " hear " ++ Rw.hearS h
theorem hearT_pre (r : Rw) : hearT r.hear = pre r.hearW := by
  unfold hearT Rw.hearW
  cases r.hear with
  | none => rfl
  | some h =>
    show " hear " ++ Rw.hearS h = " " ++ "hear" ++ (" " ++ Rw.hearS h ++ "")
    rw [str_e, Str.append_empty, show (" hear " : Str) = " " ++ "hear" ++ " " by decide +kernel]
    simp only [Str.append_assoc]
theorem txt_parts (r : Rw) : ([nS r.state, hearT r.hear, boxT "empty" r.empty, boxT "full" r.full, (" : " : Str), Rw.deedsT r.deeds, (" > " : Str), nS r.thn].foldl (· ++ ·) Str.empty) = r.txt := by
  have e1 : (" : " : Str) = " " ++ ":" ++ " " := by decide +kernel
  have e2 : (" > " : Str) = " " ++ ">" ++ " " := by decide +kernel
  have e3 : pre (Rw.deedsW r.deeds) = " " ++ Rw.deedsT r.deeds := by rw [pre_join (deedsW_ne _), deedsT_eq]
  show Str.empty ++ nS r.state ++ hearT r.hear ++ boxT "empty" r.empty ++ boxT "full" r.full ++ " : " ++ Rw.deedsT r.deeds ++ " > " ++ nS r.thn = Str.join " " r.words
  unfold Rw.words
  rw [join_pre, pre_app, pre_app, pre_app, hearT_pre, boxT_pre, boxT_pre, Str.empty_append, e1, e2]
  show _ = _ ++ (_ ++ (_ ++ (_ ++ (" " ++ ":" ++ pre (Rw.deedsW r.deeds ++ [(">" : Str), nS r.thn])))))
  rw [pre_app, e3]
  show _ = _ ++ (_ ++ (_ ++ (_ ++ (" " ++ ":" ++ ((" " ++ Rw.deedsT r.deeds) ++ (" " ++ ">" ++ (" " ++ nS r.thn ++ "")))))))
  rw [str_e, Str.append_empty]
  simp only [Str.append_assoc]
def spRowStr (K : PySem.W.Frag) : Sp := fun vs H Q _ => ∃ (v : V) (r : Rw), vs = [v] ∧ IsRow K H v r ∧ ∀ H', Ex H H' → Q (.str r.txt) H'
theorem sv_rowStr {K : PySem.W.Frag} {H : Hp} {v : V} {r : Rw} (h : IsRow K H v r) : SpV (spRowStr K) [v] H (.str r.txt) := fun H1 e Q k E => ⟨v, r, rfl, h.ex e, fun H2 e2 => k H2 e2⟩
theorem q_par {i j : Nat} {ta : TA} {tz : TS} {D : Ends} {σ : L2.St} {H : Hp} {v w : V} (h : EvA ta σ H [v, w]) (k : ∀ H1, Ex H H1 → tz D ((σ.set i (some v)).set j (some w)) H1) : tSeq (tPar i j ta) tz D σ H := h H (Ex.refl H) _ fun H1 e => ⟨v, w, rfl, k H1 e⟩
/-- a hear's text -/
theorem ev_fmtH {σ : L2.St} {H : Hp} {te : TE} {h : Option Nat} (he : Ev te σ H (hearV (some h))) (hn : ∀ n, h = some n → n ≤ 5) : Ev (tFmt te) σ H (.str (Rw.hearS h)) := by
  cases h with
  | none => exact ev_fmtS he (by show Str.length "other" ≤ 100000; decide +kernel)
  | some n => exact ev_fmtI he (by have := hn n rfl; omega)
section
variable {w : World} {K : PySem.W.Frag} {mg : Str → Option Value} {base : Heap}
abbrev nRs : List Str := ["self", "heard", "empty", "full"]
theorem sc_Row_str : FnScope nRs ["self"] (defScope s_Row_str) := ⟨rfl, rfl, rfl, by decide +kernel, rfl, by decide +kernel, by decide +kernel⟩
theorem og_rowStr (T : TX K mg base) : OG RP w K mg base 6 (He.ga K "Row") "__str__" (spRowStr K) := by
  refine ⟨_, T.at_Row_str, T.fn_Row_str, T.fi_Row_str, fr_of T.d_Row_str sc_Row_str (fun vs H Q E h => by obtain ⟨v, r, rfl, _⟩ := h; rfl) (fun _ _ _ _ _ _ us hl => match us, hl with | [_], _ => rfl) fun cdv A outer s H vs Q E hr h => ⟨_,
    pss_cons (ps_set (i := 1) sc_Row_str.nd rfl (Or.inl rfl) (pe_ifExp (pt_cmpR op_isN1 (pe_fld (pv 0) rfl) pe_non (nomark _)) pe_str (pe_joined (.cons pe_str (.cons (pe_fmt (pe_fld (pv 0) rfl)) .nil)))))
    (pss_cons (ps_par (i := 2) (j := 3) rfl sc_Row_str.nd rfl rfl (by decide) rfl rfl (pa_cons (pe_g (k_boxes_text T) (hr.mono (by decide)) (pa_cons pe_str (pa_cons (pe_fld (pv 0) rfl) pa_nil))) (pa_cons (pe_g (k_boxes_text T) (hr.mono (by decide)) (pa_cons pe_str (pa_cons (pe_fld (pv 0) rfl) pa_nil))) pa_nil)) rfl)
    (pss_one (ps_ret (pe_joined (.cons (pe_fmt (pe_fld (pv 0) rfl)) (.cons (pe_fmt (pv 1)) (.cons (pe_fmt (pv 2)) (.cons (pe_fmt (pv 3)) (.cons pe_str (.cons (pe_fmt (pe_g (k_deeds_text T) (hr.mono (by decide)) (pa_cons (pe_fld (pv 0) rfl) pa_nil))) (.cons pe_str (.cons (pe_fmt (pe_fld (pv 0) rfl)) .nil)))))))))))), ?_⟩⟩
  obtain ⟨v, r, rfl, hv, hq⟩ := h
  obtain ⟨a, dx, pd, pe, pf, pk, xs, rfl, ha, hk, hp, side, hsd, ok⟩ := id hv
  have be := (box_asc _ ok.empty).2
  have bf := (box_asc _ ok.full).2
  have l5 : ("empty" : Str).length ≤ 10 := by decide +kernel
  have l4 : ("full" : Str).length ≤ 10 := by decide +kernel
  have e1 : (" : " : Str).length = 3 := by decide +kernel
  have e2 : (" > " : Str).length = 3 := by decide +kernel
  have e3 : (" hear " : Str).length = 6 := by decide +kernel
  have hl : (hearT r.hear).length ≤ 16 := by
    unfold hearT
    cases h : r.hear with
    | none => show Str.empty.length ≤ 16; exact Nat.zero_le _
    | some q =>
      show (" hear " ++ Rw.hearS q).length ≤ 16
      rw [Str.length_append, e3]
      cases q with
      | none => show 6 + Str.length "other" ≤ 16; decide +kernel
      | some n => have := nS_len n (by have := ok.hear n h; omega); show 6 + (nS n).length ≤ 16; omega
  refine Evl.q_asg (v := .str (hearT r.hear)) (Evl.ev_if (b := decide (hearV r.hear = .non)) (Evl.et_test (Evl.ev_op (ev_fld (Evl.ev_var rfl) ha (cls_Row T) T.no_Row_hear rfl) Evl.ev_c rv_isN)) (fun h => ?_) fun h => ?_) fun H1 ex1 => ?_
  · have h := of_decide_eq_true h
    cases hh : r.hear with
    | none => exact Evl.ev_c
    | some q => rw [hh] at h; cases q <;> cases h
  · have h := of_decide_eq_false h
    cases hh : r.hear with
    | none => rw [hh] at h; exact absurd rfl h
    | some q =>
      refine Evl.ev_is (ev_js (.cons Evl.ev_c (.cons (ev_fmtH (h := q) (ev_fld (Evl.ev_var rfl) ha (cls_Row T) T.no_Row_hear (by rw [← hh]; rfl)) fun n hn => ok.hear n (by rw [hh, hn])) .nil)) ?_) (congrArg V.str ?_)
      · rw [hh] at hl
        have hl : (" hear " ++ Rw.hearS q).length ≤ 16 := hl
        rw [Str.length_append] at hl
        simp only [List.map_cons, List.map_nil, List.sum_cons, List.sum_nil]
        omega
      · show Str.empty ++ " hear " ++ Rw.hearS q = " hear " ++ Rw.hearS q
        rw [Str.empty_append]
  have hp1 := hp.ex ex1
  have ha1 := ex1 _ _ ha
  refine q_par (Evl.ea_cons (ev_g (Evl.ea_cons Evl.ev_c (Evl.ea_cons (ev_fld (Evl.ev_var rfl) ha1 (cls_Row T) T.no_Row_empty rfl) Evl.ea_nil)) (sv_boxesText (z := "empty") hp1.empty l5 be.2 be.1)) (Evl.ea_cons (ev_g (Evl.ea_cons Evl.ev_c (Evl.ea_cons (ev_fld (Evl.ev_var rfl) ha1 (cls_Row T) T.no_Row_full rfl) Evl.ea_nil)) (sv_boxesText (z := "full") hp1.full l4 bf.2 bf.1)) Evl.ea_nil)) fun H2 ex2 => ?_
  have ex12 := ex1.trans ex2
  have hp2 := hp.ex ex12
  have ha2 := ex12 _ _ ha
  refine Evl.s_ret (Evl.ev_is (ev_js (.cons (ev_fmtI (ev_fld (Evl.ev_var rfl) ha2 (cls_Row T) T.no_Row_state rfl) (by have := ok.state; omega)) (.cons (ev_fmtS (Evl.ev_var rfl) (by omega)) (.cons (ev_fmtS (Evl.ev_var rfl) (by have := boxT_len l5 be.2 be.1; omega)) (.cons (ev_fmtS (Evl.ev_var rfl) (by have := boxT_len l4 bf.2 bf.1; omega)) (.cons Evl.ev_c (.cons (ev_fmtS (ev_g (Evl.ea_cons (ev_fld (Evl.ev_var rfl) ha2 (cls_Row T) T.no_Row_deeds rfl) Evl.ea_nil) (sv_deedsText hp2.deeds hp2.each ok.len)) (by have := deedsT_len (fun d hd => (ok.deeds d hd).1) ok.len; omega)) (.cons Evl.ev_c
    (.cons (ev_fmtI (ev_fld (Evl.ev_var rfl) ha2 (cls_Row T) T.no_Row_then rfl) (by have := ok.thn; omega)) .nil)))))))) ?_) (congrArg V.str (txt_parts r))) fun H3 e3 => hq H3 (ex12.trans e3)
  have := boxT_len l5 be.2 be.1
  have := boxT_len l4 bf.2 bf.1
  have := deedsT_len (fun d hd => (ok.deeds d hd).1) ok.len
  have := nS_len r.state (by have := ok.state; omega)
  have := nS_len r.thn (by have := ok.thn; omega)
  simp only [List.map_cons, List.map_nil, List.sum_cons, List.sum_nil, e1, e2]
  omega
end
end Mp
set_option maxHeartbeats 4000000
/-! Def: boxes_in. -/
namespace Mp
open PySem PySem.Spec PyProof.Rows L2
open Evl (Ex Ev EvL EvU EvT EvA RV SpV given)

/-- the boxes' texts from lo on that are not barred -/
def boxS (lo : Nat) (bar : List Nat) : List Str := ((List.range (3 - lo)).filter fun i => !bar.contains (lo + i)).map fun i => nS (lo + i)
theorem mem_boxS {lo b : Nat} {bar : List Nat} (h1 : lo ≤ b) (h2 : b ≤ 2) (h3 : b ∉ bar) : nS b ∈ boxS lo bar :=
  List.mem_map.mpr ⟨b - lo, List.mem_filter.mpr ⟨by simp; omega, by rw [show lo + (b - lo) = b by omega]; simpa using h3⟩, by rw [show lo + (b - lo) = b by omega]⟩
theorem of_boxS {lo : Nat} {bar : List Nat} {z : Str} (h : z ∈ boxS lo bar) : ∃ b, b ≤ 2 ∧ z = nS b := by
  obtain ⟨i, hi, rfl⟩ := List.mem_map.mp h
  have := (List.mem_filter.mp hi).1
  exact ⟨lo + i, by simp at this; omega, rfl⟩
/-- the place behind the boxes before i -/
def loAt (bs : List Nat) (i : Nat) : Nat := if i = 0 then 0 else bs.getD (i - 1) 0 + 1
def spBoxesIn (K : PySem.W.Frag) : Sp := fun vs H Q _ => ∃ (p q : Addr) (ws : List Str) (i : Nat) (bs bar : List Nat), vs = [.ref p, .int (i : Int), .ref q] ∧ SqL K H p (ws.map V.str) ∧ SqT K H q (bar.map iV) ∧ ws.length ≤ 40000 ∧ bs ∈ boxSets ∧ bs ≠ [] ∧ (∀ b ∈ bs, b ∉ bar) ∧
  WordsAt ws i (bs.map nS) ∧ (∀ b, b ≤ 2 → wordAt ws (i + bs.length) ≠ nS b) ∧ ∀ t H', Ex H H' → SqT K H' t (bs.map iV) → Q (.ref t) H'
theorem sp_boxesIn {K : PySem.W.Frag} {H : Hp} {p q : Addr} {ws : List Str} {i : Nat} {bs bar : List Nat} (hw : SqL K H p (ws.map V.str)) (hq : SqT K H q (bar.map iV)) (hz : ws.length ≤ 40000) (hb : bs ∈ boxSets) (hn : bs ≠ []) (ha : ∀ b ∈ bs, b ∉ bar)
    (hs : WordsAt ws i (bs.map nS)) (he : ∀ b, b ≤ 2 → wordAt ws (i + bs.length) ≠ nS b) : SpP (spBoxesIn K) [.ref p, .int (i : Int), .ref q] H (fun v H' => ∃ t, v = .ref t ∧ SqT K H' t (bs.map iV)) := fun H1 e Q k E =>
  ⟨p, q, ws, i, bs, bar, rfl, Evl.ex_l e hw, Evl.ex_t e hq, hz, hb, hn, ha, hs, he, fun t H2 e2 ht => k _ H2 e2 ⟨t, rfl, ht⟩⟩
theorem el_lcR2 {σ : L2.St} {H : Hp} {te : TE} {tt : TT} {ta : TA} {j : Nat} {vs : List Nat} {lo n : Nat} (f : Nat → Bool) (u : Nat → V) (h : EvA ta σ H [.int (lo : Int), .int (n : Int)]) (hlo : lo ≤ 40000) (hn : n ≤ 40000) (hw : ∀ x, wipe ((wipe σ vs).set j (some x)) vs = wipe σ vs)
    (turn : ∀ (i : Nat) H1, Ex H H1 → i < n - lo → EvT tt ((wipe σ vs).set j (some (.int ((lo + i : Nat) : Int)))) H1 (f i) ∧ (f i = true → Ev te ((wipe σ vs).set j (some (.int ((lo + i : Nat) : Int)))) H1 (u i))) :
    EvL (tLc (iRng2 ta) (gName j) tt te vs) σ H (given (n - lo) f u) := by
  refine el_lcG (n - lo) f u (by omega) (J := Itr (lo : Int) (n - lo)) (fun H1 e R r => h H1 e _ fun H2 e2 => ⟨(lo : Int), (n : Int), rfl, by omega, ?_⟩) (fun i H1 e hi => hi) (fun H1 e => Nat.le_refl _) fun i x H1 H2 e hi hy => ?_
  · rw [show ((n : Int) - (lo : Int)).toNat = n - lo by omega]
    exact r H2 e2
  · obtain ⟨rfl, rfl⟩ := hy
    have ex : ((lo : Int) + (i : Int)) = ((lo + i : Nat) : Int) := by omega
    rw [ex]
    obtain ⟨t1, t2⟩ := turn i _ e hi
    exact ⟨Ex.refl _, _, hw _, fun Q q => q _ (Ex.refl _), t1, t2⟩
theorem q_parLL {i j : Nat} {ta tb : TE} {tz : TS} {D : Ends} {σ : L2.St} {H : Hp} {xs ys : List V} (ha : EvL ta σ H xs) (hb : EvL tb σ H ys)
    (k : ∀ a b H1, H a = none → Ex H H1 → H1 a = some (.lst xs) → H1 b = some (.lst ys) → tz D ((σ.set i (some (.ref a))).set j (some (.ref b))) H1) : tSeq (tPar i j (tCons ta (tCons tb tNil))) tz D σ H :=
  ha H (Ex.refl H) _ fun a H1 na e1 h1 => hb H1 e1 _ fun b H2 nb e2 h2 => ⟨.ref a, .ref b, rfl, k a b H2 na (e1.trans e2) (e2 _ _ h1) h2⟩
theorem ep_tupOf {K : PySem.W.Frag} {σ : L2.St} {H : Hp} {te : TE} {p : Addr} {ys : List V} (h : Ev te σ H (.ref p)) (hp : SqTL K H p ys) : EvP (tCB (rTupOf K) (tCons te tNil)) σ H fun v H' => ∃ t, v = .ref t ∧ SqT K H' t ys := fun H1 e Q q => h H1 e _ fun H2 e2 => by
  rcases hp.ex (e.trans e2) with z | z
  · exact ⟨p, ys, rfl, .inl ⟨z, fun l hl => q _ _ (e2.trans (Ex.new hl)) ⟨l, rfl, .inl (.inl upd_same)⟩⟩⟩
  · exact ⟨p, ys, rfl, .inr ⟨z, q _ _ e2 ⟨p, rfl, z⟩⟩⟩
theorem atI_last {xs : List V} {v : V} (hz : xs.length < 40000) : atI (xs ++ [v]) (-1) = some v := by
  unfold atI ixN
  rw [if_neg (by omega), if_pos (by simp; omega)]
  have e : ((-1 : Int) + ((xs ++ [v]).length : Int)).toNat = xs.length := by simp; omega
  show (xs ++ [v])[((-1 : Int) + ((xs ++ [v]).length : Int)).toNat]? = _
  rw [e]
  simp
theorem given_boxS (lo : Nat) (bar : List Nat) : given (3 - lo) (fun i => !bar.contains (lo + i)) (fun i => .str (nS (lo + i))) = (boxS lo bar).map V.str := by
  unfold Evl.given boxS
  rw [List.map_map]
  rfl
section
variable {w : World} {K : PySem.W.Frag} {mg : Str → Option Value} {base : Heap}
abbrev nBi : List Str := ["words", "at", "barred", "found", "some", "box"]
theorem sc_boxes_in : FnScope nBi ["words", "at", "barred"] (defScope s_boxes_in) := ⟨rfl, rfl, rfl, by decide +kernel, rfl, by decide +kernel, by decide +kernel⟩
theorem k_boxes_in (T : TX K mg base) : FG RP w K mg base 2 "boxes_in" (spBoxesIn K) := by
  refine fg_of T.g_boxes_in T.kf_boxes_in (fr_of T.d_boxes_in sc_boxes_in (fun vs H Q E h => by obtain ⟨p, q, ws, i, bs, bar, rfl, _⟩ := h; rfl) (fun _ _ _ _ _ _ us hl => match us, hl with | [_, _, _], _ => rfl) fun cdv A outer s H vs Q E hr h => ⟨_,
    pss_cons (ps_par (i := 3) (j := 4) rfl sc_boxes_in.nd rfl rfl (by decide) rfl rfl (pa_cons (pe_lst pa_nil) (pa_cons (pe_lc (own := [("box", 5)]) (g := gName 5) (tt := tTest (tOp (rIn K true) (tVar 5) (tVar 2))) rfl sc_boxes_in.nd (pi_range1 rfl T.f_range (pa_cons (pe_op op_add (pe_gI T.i_MOST_BOX) pe_int) pa_nil)) (blkOk_by (own := [("box", 5)]) (N := nBi) (sc := defScope s_boxes_in) (by decide +kernel))
        (fun _ _ _ _ _ => pg_name (i := 5) sc_boxes_in.nd rfl (Or.inl rfl)) (fun _ _ _ _ _ => pts_one (pt_cmpR (r := rIn K true) op_notIn_seq (pv 5) (pv 2) (by rfl))) (fun _ _ _ _ _ => pe_callTy call_str_int rfl T.f_str (by decide +kernel) (pa_cons (pv 5) pa_nil))) pa_nil)) rfl)
    (pss_cons (ps_while PassesOwn.never (pt_cmpR (r := rIn K false) op_in_seq (pe_g (k_word_at T) (hr.mono (by decide)) (pa_cons (pv 0) (pa_cons (pe_op op_add (pv 1) (pe_callB (r := Evl.rLenS K) call_len_seq rfl T.f_len PySem.boot_len (pa_cons (pv 3) pa_nil))) pa_nil))) (pv 4) (by rfl))
      (pss_cons (ps_expr (pe_bm PySem.F.plainAttrs_list PySem.F.slot_list_append PySem.F.type_list_append mt_append (pv 3) (pa_cons (pe_callTy call_int_str rfl T.f_int (by decide +kernel) (pa_cons (pe_ix ix_list (pv 0) (pe_op op_add (pv 1) (pe_callB (r := Evl.rLenS K) call_len_seq rfl T.f_len PySem.boot_len (pa_cons (pv 3) pa_nil))) (fun _ _ => rfl)) pa_nil)) pa_nil)))
      (pss_one (ps_setLc (i := 4) (own := [("box", 5)]) (g := gName 5) (tt := tTest (tOp (rIn K true) (tVar 5) (tVar 2))) rfl sc_boxes_in.nd rfl rfl rfl (pi_range2 rfl T.f_range (pa_cons (pe_op op_add (pe_ix ix_list (pv 3) (pe_un un_neg pe_int) (fun _ _ => rfl)) pe_int) (pa_cons (pe_op op_add (pe_gI T.i_MOST_BOX) pe_int) pa_nil))) (blkOk_by (own := [("box", 5)]) (N := nBi) (sc := defScope s_boxes_in) (by decide +kernel))
        (fun _ _ _ _ _ => pg_name (i := 5) sc_boxes_in.nd rfl (Or.inl rfl)) (fun _ _ _ _ _ => pts_one (pt_cmpR (r := rIn K true) op_notIn_seq (pv 5) (pv 2) (by rfl))) (fun _ _ _ _ _ => pe_callTy call_str_int rfl T.f_str (by decide +kernel) (pa_cons (pv 5) pa_nil))))))
    (pss_cons (ps_if (pt_cmpR op_eq (pe_callB (r := Evl.rLenS K) call_len_seq rfl T.f_len PySem.boot_len (pa_cons (pv 3) pa_nil)) pe_int (nomark _)) (pss_one ps_never) pss_nil)
    (pss_one (ps_ret (pe_callTy call_tuple_of rfl T.f_tuple (by decide +kernel) (pa_cons (pv 3) pa_nil)))))), ?_⟩)
  obtain ⟨p, q, ws, i, bs, bar, rfl, hw, hbar, hz, hb, hne, hap, hat, hend, hq⟩ := h
  obtain ⟨asc, b2, bl⟩ := box_asc bs hb
  have c1 : EvL (tLc (iRng1 (tCons (tOp (rI0 fun i j => .int (i + j)) (tC (.int 2)) (tC (.int 1))) tNil)) (gName 5) (tTest (tOp (rIn K true) (tVar 5) (tVar 2))) (tCB (fun xs H Q => ∃ i, xs = [.int i] ∧ i.natAbs.log2 < 1920 ∧ Q (.str (toString i)) H) (tCons (tVar 5) tNil)) [5]) (start nBi [.ref p, .int (i : Int), .ref q]) H ((boxS 0 bar).map V.str) := by
    rw [← given_boxS]
    refine Evl.el_lcR1 (n := ((3 : Nat) : Int)) _ _ (Evl.ea_cons (ev_add Evl.ev_c Evl.ev_c) Evl.ea_nil) (by omega) (fun _ => rfl) (fun k H1 e hk => ?_) (fun k H1 e hk _ => ?_)
    · refine Evl.et_test (Evl.ev_is (Evl.ev_op (Evl.ev_var rfl) (Evl.ev_var rfl) (Evl.rv_niT (Evl.ex_t e hbar) rfl (flat_iV _))) ?_)
      rw [Nat.zero_add]
      exact congrArg (fun b => V.bl (!b)) (inV_iV k bar)
    · rw [Nat.zero_add]
      exact ev_strI (Evl.ev_var rfl) (by omega)
  refine q_parLL (Evl.el_lst Evl.ea_nil (by simp)) c1 fun pf ps H2 npf0 e12 hf hs => ?_
  refine Evl.q_while (fun m σ' H' => ∃ k ps, m = bs.length - k ∧ k ≤ bs.length ∧ σ' = [some (.ref p), some (.int (i : Int)), some (.ref q), some (.ref pf), some (.ref ps), none] ∧ Ex H H' ∧ H' pf = some (.lst ((bs.take k).map iV)) ∧ H' ps = some (.lst ((boxS (loAt bs k) bar).map V.str)))
    bs.length ⟨0, ps, rfl, Nat.zero_le _, rfl, e12, hf, hs⟩ ?_
  rintro m σ' H' ⟨k, ps', rfl, hk, rfl, ex, hpf, hps⟩
  have hlen : ((bs.take k).map iV).length = k := by simp; omega
  have evAt : ∀ H3, Ex H' H3 → Ev (tOp (rI0 fun i j => .int (i + j)) (tVar 1) (tCB (Evl.rLenS K) (tCons (tVar 3) tNil))) [some (.ref p), some (.int (i : Int)), some (.ref q), some (.ref pf), some (.ref ps'), none] H3 (.int ((i + k : Nat) : Int)) := fun H3 e3 =>
    ev_addN (Evl.ev_var rfl) (Evl.ev_is (ev_lenT (Evl.ev_var rfl) (.inl (Evl.sq_of (e3 _ _ hpf)))) (by rw [hlen]))
  refine ⟨decide (k < bs.length), Evl.et_is (Evl.et_test (Evl.ev_op (ev_g (Evl.ea_cons (Evl.ev_var rfl) (Evl.ea_cons (evAt H' (Ex.refl _)) Evl.ea_nil)) (sv_wordAt (Evl.ex_l ex hw))) (Evl.ev_var rfl) (Evl.rv_isL (Evl.sq_of hps) rfl (flat_strs _)))) ?_, fun hb1 H3 e3 => ?_, fun hb1 H3 e3 => ?_⟩
  · rw [inV_str]
    by_cases hlt : k < bs.length
    · have hw1 : ws[i + k]? = some (nS bs[k]) := hat k _ (by rw [List.getElem?_map, List.getElem?_eq_getElem hlt]; rfl)
      have hm : bs[k] ∈ bs := List.getElem_mem hlt
      rw [wordAt_of hw1, decide_eq_true hlt]
      have hlo : loAt bs k ≤ bs[k] := by
        unfold loAt
        split
        · exact Nat.zero_le _
        · have := asc (k - 1) (by omega)
          have ek : bs.getD k 0 = bs[k] := by rw [List.getD_eq_getElem?_getD, List.getElem?_eq_getElem hlt]; rfl
          rw [show k - 1 + 1 = k by omega, ek] at this
          exact this
      simpa using mem_boxS hlo (b2 _ hm) (hap _ hm)
    · rw [decide_eq_false hlt, Bool.eq_false_iff]
      intro z
      obtain ⟨b, hb2, e⟩ := of_boxS (by simpa using z)
      have : k = bs.length := by omega
      rw [this] at e
      exact hend b hb2 e
  · have hlt := of_decide_eq_true hb1
    have hw1 : ws[i + k]? = some (nS bs[k]) := hat k _ (by rw [List.getElem?_map, List.getElem?_eq_getElem hlt]; rfl)
    have hm : bs[k] ∈ bs := List.getElem_mem hlt
    have hb3 := b2 _ hm
    have ex3 := ex.trans e3
    refine ⟨fun σ2 H2 => ∃ ps2, σ2 = [some (.ref p), some (.int (i : Int)), some (.ref q), some (.ref pf), some (.ref ps2), none] ∧ Ex H H2 ∧ H2 pf = some (.lst ((bs.take (k + 1)).map iV)) ∧ H2 ps2 = some (.lst ((boxS (loAt bs (k + 1)) bar).map V.str)), fun σ2 H2 ⟨ps2, h1, h2, h3, h4⟩ => ⟨bs.length - (k + 1), by omega, k + 1, ps2, rfl, hlt, h1, h2, h3, h4⟩, ?_⟩
    refine Evl.q_app (v := iV bs[k]) (e3 _ _ hpf) (Evl.ev_var rfl) (ev_intS (Evl.ev_op (Evl.ev_var rfl) (evAt H3 e3) (Evl.rv_ixL (Evl.ex_l ex3 hw) (atI_str hw1))) (by omega)) (by rw [hlen]; omega) fun H4 e4 => ?_
    have e5 : (bs.take k).map iV ++ [iV bs[k]] = (bs.take (k + 1)).map iV := by
      rw [List.take_add_one, List.map_append, List.getElem?_eq_getElem hlt]
      rfl
    have ex4 : Ex H (upd H4 pf (.lst ((bs.take k).map iV ++ [iV bs[k]]))) := Ex.mut (ex3.trans e4) npf0
    have elo : loAt bs (k + 1) = bs[k] + 1 := by
      unfold loAt
      rw [if_neg (by omega), Nat.add_sub_cancel, List.getD_eq_getElem?_getD, List.getElem?_eq_getElem hlt]
      rfl
    have c2 : EvL (tLc (iRng2 (tCons (tOp (rI0 fun i j => .int (i + j)) (tOp (rIxL K) (tVar 3) (tUn (rU fun i => .int (-i)) (tC (.int 1)))) (tC (.int 1))) (tCons (tOp (rI0 fun i j => .int (i + j)) (tC (.int 2)) (tC (.int 1))) tNil))) (gName 5) (tTest (tOp (rIn K true) (tVar 5) (tVar 2))) (tCB (fun xs H Q => ∃ i, xs = [.int i] ∧ i.natAbs.log2 < 1920 ∧ Q (.str (toString i)) H) (tCons (tVar 5) tNil)) [5])
        [some (.ref p), some (.int (i : Int)), some (.ref q), some (.ref pf), some (.ref ps'), none] (upd H4 pf (.lst ((bs.take k).map iV ++ [iV bs[k]]))) ((boxS (loAt bs (k + 1)) bar).map V.str) := by
      rw [elo, ← given_boxS]
      refine el_lcR2 (n := 3) _ _ (Evl.ea_cons (ev_addN (j := 1) (Evl.ev_op (Evl.ev_var rfl) (Evl.ev_un Evl.ev_c Evl.ru_neg) (Evl.rv_ixL (Evl.sq_of upd_same) (atI_last (by rw [hlen]; omega)))) Evl.ev_c) (Evl.ea_cons (ev_add Evl.ev_c Evl.ev_c) Evl.ea_nil)) (by omega) (by omega) (fun _ => rfl) fun j H5 e5 hj => ⟨?_, fun _ => ev_strI (Evl.ev_var rfl) (by omega)⟩
      refine Evl.et_test (Evl.ev_is (Evl.ev_op (Evl.ev_var rfl) (Evl.ev_var rfl) (Evl.rv_niT (Evl.ex_t (ex4.trans e5) hbar) rfl (flat_iV _))) ?_)
      exact congrArg (fun b => V.bl (!b)) (inV_iV _ bar)
    refine c2 _ (Ex.refl _) _ fun ps2 H5 nps2 e6 hps2 => ⟨ps2, rfl, ex4.trans e6, ?_, hps2⟩
    rw [← e5]
    exact e6 _ _ upd_same
  · have hlt := of_decide_eq_false hb1
    have hk2 : k = bs.length := by omega
    have hb4 : (bs.take k).map iV = bs.map iV := by rw [hk2, List.take_length]
    rw [hb4] at hpf
    have ex3 := ex.trans e3
    refine Evl.q_when (b := false) (Evl.et_is (Evl.et_test (Evl.ev_op (ev_lenT (Evl.ev_var rfl) (.inl (Evl.sq_of (e3 _ _ hpf)))) Evl.ev_c (Evl.rv_eq rfl))) ?_) (fun h => by cases h) fun _ H4 e4 => ?_
    · refine decide_eq_false fun z => hne ?_
      injection z with z
      rw [List.length_map] at z
      exact List.eq_nil_of_length_eq_zero (Int.ofNat.inj z)
    · exact sp_ret (ep_tupOf (Evl.ev_var rfl) (.inl (Evl.sq_of (e4 _ _ (e3 _ _ hpf))))) fun v H5 e5 ⟨t, ev, ht⟩ => by subst ev; exact hq t H5 ((ex3.trans e4).trans e5) ht
end
end Mp
set_option maxHeartbeats 4000000
/-! Def: deeds_in. -/
namespace Mp
open PySem PySem.Spec PyProof.Rows L2
open Evl (Ex Ev EvL EvU EvT EvA RV SpV given)

/-- the words of deeds, behind a comma or first -/
def sepW : Bool → List Dd → List Str
  | _, [] => []
  | true, d :: r => gluedW "," ((d :: r).map Dd.words)
  | false, d :: r => ("," : Str) :: gluedW "," ((d :: r).map Dd.words)
theorem gluedW_cons (z : Str) (w : List Str) : ∀ ws : List (List Str), gluedW z (w :: ws) = w ++ (match ws with | [] => [] | _ => z :: gluedW z ws)
  | [] => (List.append_nil w).symm
  | v :: r => rfl
theorem sepW_true (d : Dd) (r : List Dd) : sepW true (d :: r) = d.words ++ sepW false r := by
  show gluedW "," (d.words :: r.map Dd.words) = _
  rw [gluedW_cons]
  cases r <;> rfl
theorem sepW_false (d : Dd) (r : List Dd) : sepW false (d :: r) = ("," : Str) :: (d.words ++ sepW false r) := by
  show ("," : Str) :: sepW true (d :: r) = _
  rw [sepW_true]
def IsDeedsAt (K : PySem.W.Frag) (ds : List Dd) (j : Nat) (v : V) (H : Hp) : Prop := ∃ t a xs, v = .ref t ∧ H t = some (.tup [.ref a, .int (j : Int)]) ∧ SqT K H a xs ∧ Deeds K H xs ds
def spDeedsIn (K : PySem.W.Frag) : Sp := fun vs H Q _ => ∃ (p q : Addr) (ws ss : List Str) (i : Nat) (hb : Bool) (side : Str) (ds : List Dd), vs = [.ref p, .int (i : Int), .ref q, .bl hb] ∧ SqL K H p (ws.map V.str) ∧ ws.length ≤ 40000 ∧ SqT K H q (ss.map V.str) ∧ side ∈ ss ∧ IsSide side ∧
  ds.length ≤ 8 ∧ (∀ d ∈ ds, d.ok = true ∧ d.forS side = true) ∧ (ds.filter Dd.isTake).length ≤ 1 ∧ (hb = false → ∀ d ∈ ds, d.isPut = false) ∧ WordsAt ws i (Rw.deedsW ds) ∧ wordAt ws (i + (Rw.deedsW ds).length) ≠ "," ∧
  ∀ v H', Ex H H' → IsDeedsAt K ds (i + (Rw.deedsW ds).length) v H' → Q v H'
theorem q_asgG {te : TE} {g : TG} {tz : TS} {D : Ends} {σ : L2.St} {H : Hp} {P : V → Hp → Prop} (h : EvP te σ H P) (k : ∀ v H1, Ex H H1 → P v H1 → g v σ H1 (tz D)) : tSeq (tAsg te g) tz D σ H := h H (Ex.refl H) _ k
theorem ep_g3L {K : PySem.W.Frag} {t0 t1 tl : TE} {σ : L2.St} {H : Hp} {a b : V} {ys : List V} {sp : Sp} {E : XK} {P : V → Hp → Prop} (h0 : Ev t0 σ H a) (h1 : Ev t1 σ H b) (hl : EvL tl σ H ys) (hs : ∀ q H1, Ex H H1 → SqL K H1 q ys → SpP sp [a, b, .ref q] H1 P) :
    EvP (fun σ H Q => tCons t0 (tCons t1 (tCons tl tNil)) σ H fun vs H1 => sp vs H1 Q E) σ H P := fun H1 e Q q => h0 H1 e _ fun H2 e2 => h1 H2 (e.trans e2) _ fun H3 e3 => hl H3 ((e.trans e2).trans e3) _ fun qq H4 n e4 hq =>
  hs qq H4 (((e.trans e2).trans e3).trans e4) (Evl.sq_of hq) H4 (Ex.refl _) Q (fun v H5 e5 z => q v H5 (((e2.trans e3).trans e4).trans e5) z) E
theorem deedsW_cons (d : Dd) (r : List Dd) : Rw.deedsW (d :: r) = sepW true (d :: r) := rfl
theorem verb_put {d : Dd} (h : d.isPut = false) : d.verb ≠ "put" := by
  cases d <;> simp only [Dd.isPut, Dd.verb] at h ⊢ <;> first | (cases h; done) | decide +kernel
theorem verb_take {d : Dd} (h : d.verb = "take") : d.isTake = true := by
  cases d <;> simp only [Dd.isTake, Dd.verb] at h ⊢ <;> exact absurd h (by decide +kernel)
theorem verb_dash (d : Dd) : d.verb ≠ "-" := by cases d <;> simp only [Dd.verb] <;> decide +kernel
section
variable {w : World} {K : PySem.W.Frag} {mg : Str → Option Value} {base : Heap}
abbrev nDs : List Str := ["words", "at", "sides", "hears", "found", "start", "verb", "deed", "side"]
theorem sc_deeds_in : FnScope nDs ["words", "at", "sides", "hears"] (defScope s_deeds_in) := ⟨rfl, rfl, rfl, by decide +kernel, rfl, by decide +kernel, by decide +kernel⟩
theorem k_deeds_in (T : TX K mg base) : FG RP w K mg base 9 "deeds_in" (spDeedsIn K) := by
  refine fg_of T.g_deeds_in T.kf_deeds_in (fr_of T.d_deeds_in sc_deeds_in (fun vs H Q E h => by obtain ⟨p, q, ws, ss, i, hb, side, ds, rfl, _⟩ := h; rfl) (fun _ _ _ _ _ _ us hl => match us, hl with | [_, _, _, _], _ => rfl) fun cdv A outer s H vs Q E hr h => ⟨_,
    pss_cons (ps_if (pt_cmpR op_eq (pe_g (k_word_at T) (hr.mono (by decide)) (pa_cons (pv 0) (pa_cons (pv 1) pa_nil))) pe_str (nomark _)) (pss_one (ps_ret (pe_tup (pa_cons (pe_tup pa_nil) (pa_cons (pe_op op_add (pv 1) pe_int) pa_nil))))) pss_nil)
    (pss_cons (ps_set (i := 4) sc_deeds_in.nd rfl (Or.inl rfl) (pe_lst pa_nil))
    (pss_cons (ps_while PassesOwn.never (PW.pt (pw_or (pt_cmpR op_eq (pe_callB (r := Evl.rLenS K) call_len_seq rfl T.f_len PySem.boot_len (pa_cons (pv 4) pa_nil)) pe_int (nomark _)) (pw_or1 (PW.pt (pw_and (pt_cmpR op_lt (pe_callB (r := Evl.rLenS K) call_len_seq rfl T.f_len PySem.boot_len (pa_cons (pv 4) pa_nil)) (pe_gI T.i_MOST_DEEDS) (nomark _))
        (pw_and1 (pt_cmpR op_eq (pe_g (k_word_at T) (hr.mono (by decide)) (pa_cons (pv 0) (pa_cons (pv 1) pa_nil))) pe_str (nomark _))))))))
      (pss_cons (ps_set (i := 5) sc_deeds_in.nd rfl (Or.inl rfl) (pe_ifExp (pt_cmpR op_eq (pe_callB (r := Evl.rLenS K) call_len_seq rfl T.f_len PySem.boot_len (pa_cons (pv 4) pa_nil)) pe_int (nomark _)) (pv 1) (pe_op op_add (pv 1) pe_int)))
      (pss_cons (ps_set (i := 6) sc_deeds_in.nd rfl (Or.inl rfl) (pe_g (k_word_at T) (hr.mono (by decide)) (pa_cons (pv 0) (pa_cons (pv 5) pa_nil))))
      (pss_cons (ps_if (PW.pt (pw_or (PW.pt (pw_and (pt_cmpR op_eq (pv 6) pe_str (nomark _)) (pw_and1 (pt_not (pt_val (pv 3)))))) (pw_or1 (PW.pt (pw_and (pt_cmpR op_eq (pv 6) pe_str (nomark _)) (pw_and1 (pt_val (pe_callB (cr_any rfl) rfl T.f_any (by decide +kernel) (pa_cons (pe_lc (own := [("deed", 7)]) (g := gName 7) (tt := tYes) rfl sc_deeds_in.nd (pi_list (pv 4)) (blkOk_by (own := [("deed", 7)]) (N := nDs) (sc := defScope s_deeds_in) (by decide +kernel))
        (fun _ _ _ _ _ => pg_name (i := 7) sc_deeds_in.nd rfl (Or.inl rfl)) (fun _ _ _ _ _ => pts_nil) (fun _ _ _ _ _ => pe_callB (r := rIsi K) call_isi rfl T.f_isinstance (by decide +kernel) (pa_cons (pv 7) (pa_cons (pe_gR T.g_Take) pa_nil)))) pa_nil))))))))) (pss_one ps_never) pss_nil)
      (pss_cons (ps_asg (pe_g (k_deed_in T) (hr.mono (by decide)) (pa_cons (pv 0) (pa_cons (pv 5) (pa_cons (pe_lc (own := [("side", 8)]) (g := gName 8) (tt := tTest (tOp (rIn K false) (tVar 8) (tVar 2))) rfl sc_deeds_in.nd (pi_tup (pe_g (k_fit_sides T) (hr.mono (by decide)) (pa_cons (pv 4) pa_nil))) (blkOk_by (own := [("side", 8)]) (N := nDs) (sc := defScope s_deeds_in) (by decide +kernel))
          (fun _ _ _ _ _ => pg_name (i := 8) sc_deeds_in.nd rfl (Or.inl rfl)) (fun _ _ _ _ _ => pts_one (pt_cmpR (r := rIn K false) op_in_seq (pv 8) (pv 2) (by rfl))) (fun _ _ _ _ _ => pv 8)) pa_nil))))
        (pg_tup rfl (pgs_cons (pg_name (i := 7) sc_deeds_in.nd rfl (Or.inl rfl)) (pgs_cons (pg_name (i := 1) sc_deeds_in.nd rfl (Or.inl rfl)) pgs_nil))))
      (pss_one (ps_expr (pe_bm PySem.F.plainAttrs_list PySem.F.slot_list_append PySem.F.type_list_append mt_append (pv 4) (pa_cons (pv 7) pa_nil)))))))))
    (pss_one (ps_ret (pe_tup (pa_cons (pe_callTy call_tuple_of rfl T.f_tuple (by decide +kernel) (pa_cons (pv 4) pa_nil)) (pa_cons (pv 1) pa_nil))))))), ?_⟩)
  obtain ⟨p, q, ws, ss, i, hb, side, ds, rfl, hw, hz, hss, hside, hsd, hl8, hok, htk, hpt, hat, hnx, hq⟩ := h
  refine Evl.q_when (b := decide (ds = [])) (Evl.et_is (Evl.et_test (Evl.ev_op (ev_g (Evl.ea_cons (Evl.ev_var rfl) (Evl.ea_cons (Evl.ev_var rfl) Evl.ea_nil)) (sv_wordAt hw)) Evl.ev_c (Evl.rv_eq rfl))) ?_) (fun hd H1 e1 => ?_) fun hd H1 e1 => ?_
  · cases ds with
    | nil =>
      rw [wordAt_of (show ws[i]? = some "-" from hat 0 "-" rfl)]
      rfl
    | cons d r =>
      have h0 : wordAt ws i = d.verb := wordAt_of (show ws[i]? = some d.verb from hat 0 d.verb (by rw [deedsW_cons, sepW_true]; rfl))
      rw [h0, decide_eq_false (by simp : ¬ (d :: r = []))]
      exact decide_eq_false fun z => verb_dash d (by injection z)
  · have hd := of_decide_eq_true hd
    subst hd
    refine sp_ret (ep_tup2 (P := fun v H' => ∃ a, v = .ref a ∧ SqT K H' a []) (fun v H H' e ⟨a, h1, h2⟩ => ⟨a, h1, Evl.ex_t e h2⟩) (EvP.imp (ep_tup Evl.ea_nil (by simp)) fun v H2 _ ⟨a, h1, h2⟩ => ⟨a, h1, .inl (.inl h2)⟩) (ev_addN (j := 1) (Evl.ev_var rfl) Evl.ev_c)) fun v H2 e2 ⟨t, x, ev, ht, a, ex, ha⟩ => ?_
    subst ex
    exact hq v H2 (e1.trans e2) ⟨t, a, [], ev, ht, ha, .nil⟩
  have hd := of_decide_eq_false hd
  refine Evl.q_asgL (Evl.el_lst Evl.ea_nil (by simp)) fun pf H2 npf e2 hf => ?_
  have npf0 : H pf = none := Evl.fresh_back e1 npf
  have e12 := e1.trans e2
  have eW : Rw.deedsW ds = sepW true ds := by
    cases ds with
    | nil => exact absurd rfl hd
    | cons d r => rfl
  rw [eW] at hat hnx hq
  refine Evl.q_while (fun m σ' H' => ∃ (done todo : List Dd) (xs : List V) (j : Nat) (s5 s6 s7 : Option V), m = todo.length ∧ ds = done ++ todo ∧ σ' = [some (.ref p), some (.int (j : Int)), some (.ref q), some (.bl hb), some (.ref pf), s5, s6, s7, none] ∧ Ex H H' ∧ H' pf = some (.lst xs) ∧ Deeds K H' xs done ∧
      WordsAt ws j (sepW done.isEmpty todo) ∧ j + (sepW done.isEmpty todo).length = i + (sepW true ds).length) ds.length ⟨[], ds, [], i, none, none, none, rfl, rfl, rfl, e12, hf, .nil, hat, rfl⟩ ?_
  rintro m σ' H' ⟨done, todo, xs, j, s5, s6, s7, rfl, hds, rfl, ex, hpf, hdn, hwj, hj⟩
  have lxs := hdn.len
  have ldn : done.length + todo.length = ds.length := by rw [hds, List.length_append]
  have evLen : ∀ {s5 s6 s7 s8 : Option V} H3, Ex H' H3 → Ev (tCB (Evl.rLenS K) (tCons (tVar 4) tNil)) [some (.ref p), some (.int (j : Int)), some (.ref q), some (.bl hb), some (.ref pf), s5, s6, s7, s8] H3 (.int (xs.length : Int)) := fun H3 e3 => ev_lenT (Evl.ev_var rfl) (.inl (Evl.sq_of (e3 _ _ hpf)))
  have e0 : decide (V.int (xs.length : Int) = V.int 0) = done.isEmpty := by
    rw [lxs]
    cases done with
    | nil => rfl
    | cons d r => exact decide_eq_false fun z => by injection z with z; simp at z; omega
  refine ⟨decide (todo ≠ []), Evl.et_is (Evl.et_or (a := done.isEmpty) (b := decide (todo ≠ [])) (Evl.et_is (Evl.et_test (Evl.ev_op (evLen H' (Ex.refl _)) Evl.ev_c (Evl.rv_eq rfl))) e0) fun hne => Evl.et_is (Evl.et_and (Evl.et_test (Evl.ev_op (evLen H' (Ex.refl _)) Evl.ev_c Evl.rv_I0)) fun _ => Evl.et_test (Evl.ev_op (ev_g (Evl.ea_cons (Evl.ev_var rfl) (Evl.ea_cons (Evl.ev_var rfl) Evl.ea_nil)) (sv_wordAt (Evl.ex_l ex hw))) Evl.ev_c (Evl.rv_eq rfl))) ?_) ?_, fun hb1 H3 e3 => ?_, fun hb1 H3 e3 => ?_⟩
  · rw [hne] at hwj hj
    cases todo with
    | nil =>
      have : j = i + (sepW true ds).length := by simpa [sepW] using hj
      rw [this]
      have : decide (V.str (wordAt ws (i + (sepW true ds).length)) = V.str ",") = false := decide_eq_false fun z => hnx (by injection z)
      rw [this]
      simp
    | cons d r =>
      rw [sepW_false] at hwj
      rw [wordAt_of hwj.head, decide_eq_true (show (xs.length : Int) < 8 by rw [lxs]; simp at ldn; omega)]
      rfl
  · cases done with
    | nil =>
      have : todo ≠ [] := by rw [hds] at hd; exact hd
      simp [this]
    | cons d r => rfl
  · have hne := of_decide_eq_true hb1
    cases todo with
    | nil => exact absurd rfl hne
    | cons d r =>
    have ex3 := ex.trans e3
    have hmem : d ∈ ds := by rw [hds]; simp
    have okd := hok d hmem
    have hst : WordsAt ws (if done.isEmpty then j else j + 1) (d.words ++ sepW false r) ∧ (if done.isEmpty then j else j + 1) + (d.words ++ sepW false r).length = i + (sepW true ds).length := by
      cases h : done.isEmpty with
      | true =>
        rw [h, sepW_true] at hwj hj
        exact ⟨hwj, hj⟩
      | false =>
        rw [h, sepW_false] at hwj hj
        refine ⟨hwj.tail, ?_⟩
        rw [List.length_cons] at hj
        show j + 1 + _ = _
        omega
    generalize hstv : (if done.isEmpty then j else j + 1) = st at hst
    obtain ⟨hwst, hlst⟩ := hst
    have emp : (done ++ [d]).isEmpty = false := by cases done <;> rfl
    refine ⟨fun σ2 H2 => ∃ (xs2 : List V) (j2 : Nat) (s5 s6 s7 : Option V), σ2 = [some (.ref p), some (.int (j2 : Int)), some (.ref q), some (.bl hb), some (.ref pf), s5, s6, s7, none] ∧ Ex H H2 ∧ H2 pf = some (.lst xs2) ∧ Deeds K H2 xs2 (done ++ [d]) ∧ WordsAt ws j2 (sepW false r) ∧ j2 + (sepW false r).length = i + (sepW true ds).length,
      fun σ2 H2 ⟨xs2, j2, s5, s6, s7, a1, a2, a3, a4, a5, a6⟩ => ⟨r.length, Nat.lt_succ_self _, done ++ [d], r, xs2, j2, s5, s6, s7, rfl, by rw [hds, List.append_assoc]; rfl, a1, a2, a3, a4, by rw [emp]; exact a5, by rw [emp]; exact a6⟩, ?_⟩
    refine Evl.q_asg (v := .int (st : Int)) (Evl.ev_if (b := done.isEmpty) (Evl.et_is (Evl.et_test (Evl.ev_op (evLen H3 e3) Evl.ev_c (Evl.rv_eq rfl))) e0) (fun hb2 => ?_) fun hb2 => ?_) fun H4 e4 => ?_
    · rw [hb2, if_pos rfl] at hstv
      subst hstv
      exact Evl.ev_var rfl
    · rw [hb2, if_neg (by simp)] at hstv
      subst hstv
      exact ev_addN (j := 1) (Evl.ev_var rfl) Evl.ev_c
    have ex4 := ex3.trans e4
    have hv0 : wordAt ws st = d.verb := wordAt_of (show ws[st]? = some d.verb from hwst 0 d.verb rfl)
    refine Evl.q_asg (v := .str d.verb) (Evl.ev_is (ev_g (Evl.ea_cons (Evl.ev_var rfl) (Evl.ea_cons (Evl.ev_var rfl) Evl.ea_nil)) (sv_wordAt (Evl.ex_l ex4 hw))) (congrArg V.str hv0)) fun H5 e5 => ?_
    have ex5 := ex4.trans e5
    have e35 := (e3.trans e4).trans e5
    refine Evl.q_when (b := false) (Evl.et_is (Evl.et_or (a := false) (b := false) (Evl.et_is (Evl.et_and (b := !hb) (Evl.et_test (Evl.ev_op (Evl.ev_var rfl) Evl.ev_c (Evl.rv_eq rfl))) fun _ => Evl.et_not (Evl.et_B (Evl.ev_var rfl))) ?_) fun _ => Evl.et_is (Evl.et_and (Evl.et_test (Evl.ev_op (Evl.ev_var rfl) Evl.ev_c (Evl.rv_eq rfl))) fun hv => Evl.et_B (ev_any (bs := ((List.range xs.length).filter fun _ => true).map fun k => (done.getD k (.answer 0)).isTake) ?_)) ?_) rfl) (fun h => by cases h) fun _ H6 e6 => ?_
    · cases hb with
      | true => simp
      | false =>
        rw [decide_eq_false (fun z => verb_put (hpt rfl d hmem) (by injection z))]
        rfl
    · rw [← given_bools]
      refine Evl.el_lcL (K := K) (j := 7) (vs := [7]) (xs := xs) (fun _ => true) _ (Evl.ev_var rfl) (Evl.sq_of (e35 _ _ hpf)) (by omega) (fun _ => rfl) (fun k v H4 e4 hv => fun H5 e5 Q q => q H5 (Ex.refl H5)) fun k v H6 e6 hv _ => ?_
      obtain ⟨d2, hdk, isd⟩ := hdn.get hv
      have hg2 : done.getD k (.answer 0) = d2 := by rw [List.getD_eq_getElem?_getD, hdk]; rfl
      rw [hg2]
      exact ev_isiTake T (Evl.ev_var rfl) (isd.ex (e35.trans e6))
    · rw [any_given, lxs, range_any done Dd.isTake _ (fun k x e => by rw [List.getD_eq_getElem?_getD, e]; rfl)]
      by_cases hv : d.verb = "take"
      · have ht := verb_take hv
        have : done.any Dd.isTake = false := by
          rw [Bool.eq_false_iff]
          intro z
          obtain ⟨x, hx, hxt⟩ := List.any_eq_true.mp z
          rw [hds, List.filter_append, List.filter_cons_of_pos ht, List.length_append, List.length_cons] at htk
          have : 0 < (done.filter Dd.isTake).length := List.length_pos_of_mem (List.mem_filter.mpr ⟨hx, hxt⟩)
          omega
        rw [this, Bool.and_false]
      · rw [decide_eq_false (fun z => hv (by injection z))]
        rfl
    have ex6 := ex5.trans e6
    have e36 := e35.trans e6
    have sidefit : side ∈ fitS done := by
      refine List.mem_filter.mpr ⟨by rcases hsd with rfl | rfl <;> simp, List.all_eq_true.mpr fun x hx => (hok x (by rw [hds]; exact List.mem_append_left _ hx)).2⟩
    refine q_asgG (ep_g3L (K := K) (ys := (((List.range ((fitS done).map V.str).length).filter fun k => ss.contains ((fitS done).getD k "")).map fun k => (fitS done).getD k "").map V.str) (Evl.ev_var rfl) (Evl.ev_var rfl) ?_ fun qq H7 e7 hqq => sp_deedIn (i := st) (d := d) (Evl.ex_l (ex6.trans e7) hw) hz hwst.left okd.1 (.inl hqq) ?_) fun v H7 e7 ⟨t, x, ev, ht, isd⟩ => ?_
    · rw [List.map_map]
      refine el_lcTP (K := K) (j := 8) (vs := [8]) (xs := (fitS done).map V.str) (fun k => ss.contains ((fitS done).getD k "")) _ ?_ ?_ (fun _ => rfl) fun k x H8 e8 hk => ?_
      · refine EvP.imp (ep_g (Evl.ea_cons (Evl.ev_var rfl) Evl.ea_nil) (sp_fit (.inl (Evl.sq_of (e36 _ _ hpf))) (hdn.ex e36) (by omega))) fun v H8 _ z => ?_
        obtain ⟨p', ev, hp'⟩ := z
        exact ⟨p', ev, hp'⟩
      · rw [List.length_map]
        have : (fitS done).length ≤ 2 := List.length_filter_le _ _
        omega
      · rw [List.getElem?_map] at hk
        obtain ⟨z, hz', rfl⟩ := Option.map_eq_some_iff.mp hk
        have hg : (fitS done).getD k "" = z := by rw [List.getD_eq_getElem?_getD, hz']; rfl
        rw [hg, ← inV_str]
        refine ⟨Evl.et_test (Evl.ev_op (Evl.ev_var rfl) (Evl.ev_var rfl) (Evl.rv_isT (Evl.ex_t (ex6.trans e8) hss) rfl (flat_strs _))), fun _ => ?_⟩
        show Ev _ _ _ (V.str ((fitS done).getD k ""))
        rw [hg]
        exact Evl.ev_var rfl
    · obtain ⟨k, hk, ek⟩ := List.mem_iff_getElem.mp sidefit
      have hg : (fitS done).getD k "" = side := by rw [List.getD_eq_getElem?_getD, List.getElem?_eq_getElem hk]; exact ek
      refine List.any_eq_true.mpr ⟨side, by simpa [Dd.forS] using okd.2, ?_⟩
      have hm : side ∈ (((List.range ((fitS done).map V.str).length).filter fun k => ss.contains ((fitS done).getD k "")).map fun k => (fitS done).getD k "") := by
        refine List.mem_map.mpr ⟨k, List.mem_filter.mpr ⟨by simpa using hk, ?_⟩, hg⟩
        rw [hg]
        simpa using hside
      simpa using hm
    refine ⟨t, _, ev, .inl (.inl ht), rfl, _, _, rfl, _, _, rfl, rfl, ?_⟩
    have ex7 := ex6.trans e7
    have e37 := e36.trans e7
    refine Evl.s_app (v := x) (xs := xs) (e37 _ _ hpf) (Evl.ev_var rfl) (Evl.ev_var rfl) (by omega) fun H8 e8 => ?_
    have ex8 := ex7.trans e8
    have e38 := e37.trans e8
    have hpf8 := e38 _ _ hpf
    have eb : ExB pf H8 (upd H8 pf (.lst (xs ++ [x]))) := (ExB.of (Ex.refl H8)).upd
    refine ⟨xs ++ [x], st + d.words.length, _, _, _, rfl, Ex.mut ex8 npf0, upd_same, PySem.Paired.snoc (L2.Paired.mapP (hdn.ex e38) fun v d z => IsDeed.mono v pf xs H8 _ hpf8 eb z) (IsDeed.mono x pf xs H8 _ hpf8 eb (isd.ex e8)), hwst.right, ?_⟩
    rw [List.length_append] at hlst
    omega
  · have htd : todo = [] := by
      have := of_decide_eq_false hb1
      simpa using this
    subst htd
    have hj2 : j = i + (sepW true ds).length := by
      have : (sepW done.isEmpty []).length = 0 := by cases done.isEmpty <;> rfl
      omega
    have hds2 : done = ds := by rw [hds, List.append_nil]
    subst hds2
    refine sp_ret (ep_tup2 (P := fun v H' => ∃ a, v = .ref a ∧ SqT K H' a xs ∧ Deeds K H' xs done) (fun v H H' e ⟨a, h1, h2, h3⟩ => ⟨a, h1, Evl.ex_t e h2, h3.ex e⟩) (EvP.imp (ep_tupOf (Evl.ev_var rfl) (.inl (Evl.sq_of (e3 _ _ hpf)))) fun v H4 e4 ⟨t, ev, ht⟩ => ⟨t, ev, ht, hdn.ex (e3.trans e4)⟩) (Evl.ev_var rfl)) fun v H4 e4 ⟨t, x, ev, ht, a, ex', ha, hda⟩ => ?_
    subst ex'
    rw [hj2] at ht
    exact hq v H4 ((ex.trans e3).trans e4) ⟨t, a, xs, ev, ht, ha, hda⟩
end
end Mp
set_option maxHeartbeats 4000000
/-! Def: row_in. -/
namespace Mp
open PySem PySem.Spec PyProof.Rows L2
open Evl (Ex Ev EvL EvU EvT EvA RV SpV given)

def IsRowAt (K : PySem.W.Frag) (r : Rw) (j : Nat) (v : V) (H : Hp) : Prop := ∃ t x, v = .ref t ∧ H t = some (.tup [x, .int (j : Int)]) ∧ IsRow K H x r
def spRowIn (K : PySem.W.Frag) : Sp := fun vs H Q _ => ∃ (p q : Addr) (ws ss : List Str) (i : Nat) (side : Str) (r : Rw), vs = [.ref p, .int (i : Int), .ref q] ∧ SqL K H p (ws.map V.str) ∧ ws.length ≤ 40000 ∧ SqT K H q (ss.map V.str) ∧ side ∈ ss ∧ IsSide side ∧ r.Ok side ∧
  WordsAt ws i r.words ∧ ∀ v H', Ex H H' → IsRowAt K r (i + r.words.length) v H' → Q v H'
theorem sp_rowIn {K : PySem.W.Frag} {H : Hp} {p q : Addr} {ws ss : List Str} {i : Nat} {side : Str} {r : Rw} (h : SqL K H p (ws.map V.str)) (hz : ws.length ≤ 40000) (hs : SqT K H q (ss.map V.str)) (h1 : side ∈ ss) (h2 : IsSide side) (ok : r.Ok side) (hw : WordsAt ws i r.words) :
    SpP (spRowIn K) [.ref p, .int (i : Int), .ref q] H (IsRowAt K r (i + r.words.length)) := fun H1 e Q k E => ⟨p, q, ws, ss, i, side, r, rfl, Evl.ex_l e h, hz, Evl.ex_t e hs, h1, h2, ok, hw, fun v H2 e2 z => k v H2 e2 z⟩
def Rw.w3 (r : Rw) : List Str := (":" : Str) :: (Rw.deedsW r.deeds ++ [(">" : Str), nS r.thn])
def Rw.w2 (r : Rw) : List Str := Rw.boxW "full" r.full ++ r.w3
def Rw.w1 (r : Rw) : List Str := Rw.boxW "empty" r.empty ++ r.w2
theorem Rw.words_w (r : Rw) : r.words = nS r.state :: (r.hearW ++ r.w1) := rfl
theorem nS_words : ∀ b, b ≤ 2 → ("full" : Str) ≠ nS b ∧ (":" : Str) ≠ nS b := by
  intro b hb
  exact (by decide +kernel : ∀ b ∈ List.range 3, ("full" : Str) ≠ nS b ∧ (":" : Str) ≠ nS b) b (by simp; omega)
theorem Rw.w2_head {r : Rw} : ∃ x l, r.w2 = x :: l ∧ x ≠ "hear" ∧ x ≠ "empty" ∧ ∀ b, b ≤ 2 → x ≠ nS b := by
  unfold Rw.w2
  cases r.full with
  | nil => exact ⟨":", _, rfl, by decide +kernel, by decide +kernel, fun b hb => (nS_words b hb).2⟩
  | cons b bs => exact ⟨"full", _, rfl, by decide +kernel, by decide +kernel, fun b hb => (nS_words b hb).1⟩
theorem Rw.w1_head {r : Rw} : ∃ x l, r.w1 = x :: l ∧ x ≠ "hear" := by
  unfold Rw.w1
  cases r.empty with
  | nil => obtain ⟨x, l, e, h, _⟩ := r.w2_head; exact ⟨x, l, e, h⟩
  | cons b bs => exact ⟨"empty", _, rfl, by decide +kernel⟩
theorem ep_tup4 {ta tb tc td : TE} {σ : L2.St} {H : Hp} {x y : V} {P : V → Hp → Prop} (hP : ∀ v H H', Ex H H' → P v H → P v H') (h0 : Ev ta σ H x) (h1 : Ev tb σ H y) (h2 : EvP tc σ H P) (h3 : EvP td σ H P) :
    EvP (tTup (tCons ta (tCons tb (tCons tc (tCons td tNil))))) σ H fun v H' => ∃ t a b, v = .ref t ∧ H' t = some (.tup [x, y, a, b]) ∧ P a H' ∧ P b H' := fun H1 e Q q =>
  h0 H1 e _ fun H2 e2 => h1 H2 (e.trans e2) _ fun H3 e3 => h2 H3 ((e.trans e2).trans e3) _ fun a H4 e4 pa => h3 H4 (((e.trans e2).trans e3).trans e4) _ fun b H5 e5 pb =>
    ⟨by show 4 ≤ sizeLine; decide, fun t ht => q _ _ ((((e2.trans e3).trans e4).trans e5).trans (Ex.new ht)) ⟨t, a, b, rfl, upd_same, hP _ _ _ (Ex.new ht) (hP _ _ _ e5 pa), hP _ _ _ (Ex.new ht) pb⟩⟩
theorem q_augN {i a b : Nat} {te : TE} {tz : TS} {D : Ends} {σ : L2.St} {H : Hp} (hx : σ[i]? = some (some (.int (a : Int)))) (h : Ev te σ H (.int (b : Int))) (k : ∀ H1, Ex H H1 → tz D (σ.set i (some (.int ((a + b : Nat) : Int)))) H1) : tSeq (tAug i te (ipI fun i j => i + j)) tz D σ H :=
  Evl.q_aug hx h fun H1 e => by rw [← Int.natCast_add]; exact k H1 e
theorem s_augN {i a b : Nat} {te : TE} {D : Ends} {σ : L2.St} {H : Hp} (hx : σ[i]? = some (some (.int (a : Int)))) (h : Ev te σ H (.int (b : Int))) (k : ∀ H1, Ex H H1 → D.nx (σ.set i (some (.int ((a + b : Nat) : Int)))) H1) : tAug i te (ipI fun i j => i + j) D σ H :=
  Evl.s_aug hx h fun H1 e => by rw [← Int.natCast_add]; exact k H1 e
theorem ep_g3P {t0 t1 tl : TE} {σ : L2.St} {H : Hp} {a b : V} {sp : Sp} {E : XK} {P P' : V → Hp → Prop} (hP : ∀ v H H', Ex H H' → P v H → P v H') (h0 : Ev t0 σ H a) (h1 : Ev t1 σ H b) (hl : EvP tl σ H P) (hs : ∀ v H1, Ex H H1 → P v H1 → SpP sp [a, b, v] H1 P') :
    EvP (fun σ H Q => tCons t0 (tCons t1 (tCons tl tNil)) σ H fun vs H1 => sp vs H1 Q E) σ H P' := fun H1 e Q q => h0 H1 e _ fun H2 e2 => h1 H2 (e.trans e2) _ fun H3 e3 => hl H3 ((e.trans e2).trans e3) _ fun v H4 e4 hv =>
  hs v H4 (((e.trans e2).trans e3).trans e4) hv H4 (Ex.refl _) Q (fun v H5 e5 z => q v H5 (((e2.trans e3).trans e4).trans e5) z) E
/-- a tuple of these -/
def TupV (K : PySem.W.Frag) (xs : List V) (v : V) (H : Hp) : Prop := ∃ p, v = .ref p ∧ SqT K H p xs
theorem TupV.ex {K : PySem.W.Frag} {xs : List V} {v : V} {H H' : Hp} (e : Ex H H') (h : TupV K xs v H) : TupV K xs v H' := by
  obtain ⟨p, rfl, h⟩ := h
  exact ⟨p, rfl, Evl.ex_t e h⟩
theorem sp_deedsIn {K : PySem.W.Frag} {H : Hp} {p q : Addr} {ws ss : List Str} {i : Nat} {hb : Bool} {side : Str} {ds : List Dd} (h : SqL K H p (ws.map V.str)) (hz : ws.length ≤ 40000) (hs : SqT K H q (ss.map V.str)) (h1 : side ∈ ss) (h2 : IsSide side) (h3 : ds.length ≤ 8) (h4 : ∀ d ∈ ds, d.ok = true ∧ d.forS side = true)
    (h5 : (ds.filter Dd.isTake).length ≤ 1) (h6 : hb = false → ∀ d ∈ ds, d.isPut = false) (h7 : WordsAt ws i (Rw.deedsW ds)) (h8 : wordAt ws (i + (Rw.deedsW ds).length) ≠ ",") :
    SpP (spDeedsIn K) [.ref p, .int (i : Int), .ref q, .bl hb] H (IsDeedsAt K ds (i + (Rw.deedsW ds).length)) := fun H1 e Q k E => ⟨p, q, ws, ss, i, hb, side, ds, rfl, Evl.ex_l e h, hz, Evl.ex_t e hs, h1, h2, h3, h4, h5, h6, h7, h8, fun v H2 e2 z => k v H2 e2 z⟩
theorem ep_row {K : PySem.W.Frag} {t tk : TA} {σ : L2.St} {H : Hp} {r : Rw} {ad pe pf : Addr} {xs : List V} {side : Str} {E : XK} (ht : EvA t σ H (iV r.state :: xs)) (hk : EvA tk σ H [iV r.thn, hearV r.hear, .ref pe, .ref pf]) (hp : RowParts K H r ad pe pf xs) (hsd : IsSide side) (ok : r.Ok side) :
    EvP (tMakeFK (He.ga K "Row") ksRow (fun vs zs H Q E => ∃ ws rest, vs = ws ++ rest ∧ ws.length = 2 ∧ rest.length ≤ sizeLine ∧ ∀ p, H p = Option.none → spRowI K (ws ++ zs ++ [V.ref p]) (upd H p (.tup rest)) Q E) E t tk) σ H fun v H' => IsRow K H' v r := fun H1 e Q q =>
  ht H1 e _ fun H2 e2 => hk H2 (e.trans e2) _ fun H3 e3 => ⟨rfl, fun x dx nx ndx ne => by
    have hl := hp.each.len
    have := ok.len
    refine ⟨[.ref x, iV r.state], xs, rfl, rfl, Nat.le_trans (by omega : xs.length ≤ 8) (by decide), fun p hpn => ?_⟩
    have ex1 : Ex H3 (upd (upd H3 dx (.own x)) x (.ins (He.ga K "Row") dx [])) := (Ex.new ndx).trans (Ex.new (by rw [upd_ne (Ne.symm ne)]; exact nx))
    have ex2 := ex1.trans (Ex.new (o := .tup xs) hpn)
    have exH := ((e.trans e2).trans e3).trans ex2
    have xp : x ≠ p := fun z => by
      rw [← z, upd_same] at hpn
      cases hpn
    have hx : (upd (upd (upd H3 dx (.own x)) x (.ins (He.ga K "Row") dx [])) p (.tup xs)) x = some (.ins (He.ga K "Row") dx []) := by rw [upd_ne xp, upd_same]
    have hp4 : RowParts K (upd (upd (upd H3 dx (.own x)) x (.ins (He.ga K "Row") dx [])) p (.tup xs)) r p pe pf xs := ⟨.inl (.inl upd_same), hp.each.ex exH, Evl.ex_t exH hp.empty, Evl.ex_t exH hp.full⟩
    refine ⟨x, dx, p, pe, pf, xs, r, rfl, hx, hp4, ⟨side, hsd, ok⟩, fun H' pk eb hx' hk' => ⟨rfl, q _ H' ?_ ⟨x, dx, p, pe, pf, pk, xs, rfl, hx', hk', hp4.exb hx eb, side, hsd, ok⟩⟩⟩
    exact (e2.trans e3).trans fun b o hb => eb b o (fun z => by rw [z, nx] at hb; cases hb) (ex2 b o hb)⟩
section
variable {w : World} {K : PySem.W.Frag} {mg : Str → Option Value} {base : Heap}
theorem mk_Row (T : TX K mg base) : Mk K (He.ga K "Row") (He.ma K (He.ga K "Row") "__init__") := ⟨T.mk_Row, T.at_Row_init, T.fn_Row_init, T.kp_Row⟩
abbrev nRn : List Str := ["words", "at", "sides", "state", "hear", "empty", "full", "deeds", "then"]
theorem sc_row_in : FnScope nRn ["words", "at", "sides"] (defScope s_row_in) := ⟨rfl, rfl, rfl, by decide +kernel, rfl, by decide +kernel, by decide +kernel⟩
theorem k_row_in (T : TX K mg base) : FG RP w K mg base 10 "row_in" (spRowIn K) := by
  refine fg_of T.g_row_in T.kf_row_in (fr_of T.d_row_in sc_row_in (fun vs H Q E h => by obtain ⟨p, q, ws, ss, i, side, r, rfl, _⟩ := h; rfl) (fun _ _ _ _ _ _ us hl => match us, hl with | [_, _, _], _ => rfl) fun cdv A outer s H vs Q E hr h => ⟨_,
    pss_cons (ps_asg (pe_tup (pa_cons (pe_g (k_integer_in T) (hr.mono (by decide)) (pa_cons (pv 0) (pa_cons (pv 1) (pa_cons (pe_gI T.i_MOST_STATE) pa_nil)))) (pa_cons pe_non (pa_cons (pe_tup pa_nil) (pa_cons (pe_tup pa_nil) pa_nil)))))
      (pg_tup rfl (pgs_cons (pg_name (i := 3) sc_row_in.nd rfl (Or.inl rfl)) (pgs_cons (pg_name (i := 4) sc_row_in.nd rfl (Or.inl rfl)) (pgs_cons (pg_name (i := 5) sc_row_in.nd rfl (Or.inl rfl)) (pgs_cons (pg_name (i := 6) sc_row_in.nd rfl (Or.inl rfl)) pgs_nil))))))
    (pss_cons (ps_aug (i := 1) sc_row_in.nd rfl (Or.inl rfl) pe_int ip_add)
    (Evl.pss_cut (ps_if (pt_cmpR op_eq (pe_g (k_word_at T) (hr.mono (by decide)) (pa_cons (pv 0) (pa_cons (pv 1) pa_nil))) pe_str (nomark _))
      (pss_cons (ps_set (i := 4) sc_row_in.nd rfl (Or.inl rfl) (pe_ifExp (pt_cmpR op_eq (pe_g (k_word_at T) (hr.mono (by decide)) (pa_cons (pv 0) (pa_cons (pe_op op_add (pv 1) pe_int) pa_nil))) (pe_gS T.s_OTHER) (nomark _)) (pe_gS T.s_OTHER)
        (pe_g (k_integer_in T) (hr.mono (by decide)) (pa_cons (pv 0) (pa_cons (pe_op op_add (pv 1) pe_int) (pa_cons (pe_gI T.i_MOST_NUMBER) pa_nil))))))
      (pss_one (ps_aug (i := 1) sc_row_in.nd rfl (Or.inl rfl) pe_int ip_add))) pss_nil)
    (Evl.pss_cut (ps_if (pt_cmpR op_eq (pe_g (k_word_at T) (hr.mono (by decide)) (pa_cons (pv 0) (pa_cons (pv 1) pa_nil))) pe_str (nomark _))
      (pss_cons (ps_set (i := 5) sc_row_in.nd rfl (Or.inl rfl) (pe_g (k_boxes_in T) (hr.mono (by decide)) (pa_cons (pv 0) (pa_cons (pe_op op_add (pv 1) pe_int) (pa_cons (pe_tup pa_nil) pa_nil)))))
      (pss_one (ps_aug (i := 1) sc_row_in.nd rfl (Or.inl rfl) (pe_op op_add pe_int (pe_callB (r := Evl.rLenS K) call_len_seq rfl T.f_len PySem.boot_len (pa_cons (pv 5) pa_nil))) ip_add))) pss_nil)
    (Evl.pss_cut (ps_if (PW.pt (pw_and (pt_cmpR op_eq (pe_g (k_word_at T) (hr.mono (by decide)) (pa_cons (pv 0) (pa_cons (pv 1) pa_nil))) pe_str (nomark _)) (pw_and1 (pt_cmpR op_le (pe_callB (r := Evl.rLenS K) call_len_seq rfl T.f_len PySem.boot_len (pa_cons (pv 5) pa_nil)) (pe_gI T.i_MOST_BOX) (nomark _)))))
      (pss_cons (ps_set (i := 6) sc_row_in.nd rfl (Or.inl rfl) (pe_g (k_boxes_in T) (hr.mono (by decide)) (pa_cons (pv 0) (pa_cons (pe_op op_add (pv 1) pe_int) (pa_cons (pv 5) pa_nil)))))
      (pss_one (ps_aug (i := 1) sc_row_in.nd rfl (Or.inl rfl) (pe_op op_add pe_int (pe_callB (r := Evl.rLenS K) call_len_seq rfl T.f_len PySem.boot_len (pa_cons (pv 6) pa_nil))) ip_add))) pss_nil)
    (pss_cons (ps_if (pt_cmpR op_ne (pe_g (k_word_at T) (hr.mono (by decide)) (pa_cons (pv 0) (pa_cons (pv 1) pa_nil))) pe_str (nomark _)) (pss_one ps_never) pss_nil)
    (pss_cons (ps_asg (pe_g (k_deeds_in T) (hr.mono (by decide)) (pa_cons (pv 0) (pa_cons (pe_op op_add (pv 1) pe_int) (pa_cons (pv 2) (pa_cons (pe_cmpR op_notN1 (pv 4) pe_non (nomark _)) pa_nil)))))
      (pg_tup rfl (pgs_cons (pg_name (i := 7) sc_row_in.nd rfl (Or.inl rfl)) (pgs_cons (pg_name (i := 1) sc_row_in.nd rfl (Or.inl rfl)) pgs_nil))))
    (pss_cons (ps_if (pt_cmpR op_ne (pe_g (k_word_at T) (hr.mono (by decide)) (pa_cons (pv 0) (pa_cons (pv 1) pa_nil))) pe_str (nomark _)) (pss_one ps_never) pss_nil)
    (pss_cons (ps_set (i := 8) sc_row_in.nd rfl (Or.inl rfl) (pe_g (k_integer_in T) (hr.mono (by decide)) (pa_cons (pv 0) (pa_cons (pe_op op_add (pv 1) pe_int) (pa_cons (pe_gI T.i_MOST_STATE) pa_nil)))))
    (pss_one (ps_ret (pe_tup (pa_cons (pe_makeFK (mk_Row T) (k_Row_init T) (hr.mono (by decide)) rfl T.g_Row pass00 (pa_cons (pv 3) (StX.pa_star (pv 7) pa_nil)) (pk_cons (pv 8) (pk_cons (pv 4) (pk_cons (pv 5) (pk_cons (pv 6) pk_nil))))) (pa_cons (pe_op op_add (pv 1) pe_int) pa_nil))))))))))))), ?_⟩)
  obtain ⟨p, q, ws, ss, i, side, r, rfl, hw, hz, hss, hside, hsd, ok, hat, hq⟩ := h
  rw [Rw.words_w] at hat hq
  have hat1 := hat.tail
  have okS := ok.state
  refine q_asgG (ep_tup4 (P := TupV K []) (fun v H H' e h => h.ex e) (ev_g (Evl.ea_cons (Evl.ev_var rfl) (Evl.ea_cons (Evl.ev_var rfl) (Evl.ea_cons Evl.ev_c Evl.ea_nil))) (sv_intIn (m := 23) hw hat.head ok.state (by omega) hz)) Evl.ev_c
    (EvP.imp (ep_tup Evl.ea_nil (by simp)) fun v H2 _ ⟨a, h1, h2⟩ => ⟨a, h1, .inl (.inl h2)⟩) (EvP.imp (ep_tup Evl.ea_nil (by simp)) fun v H2 _ ⟨a, h1, h2⟩ => ⟨a, h1, .inl (.inl h2)⟩)) fun v H1 e1 ⟨t, va, vb, ev, ht, ⟨a, ea, ha⟩, ⟨b, eb, hb⟩⟩ => ?_
  subst ea eb
  refine ⟨t, _, ev, .inl (.inl ht), rfl, _, _, rfl, _, _, rfl, _, _, rfl, _, _, rfl, rfl, ?_⟩
  refine q_augN (a := i) (b := 1) rfl Evl.ev_c fun H2 e2 => ?_
  have e12 := e1.trans e2
  -- hear
  refine Evl.q_cut (M := fun σ' H' => ∃ j : Nat, σ' = [some (.ref p), some (.int (j : Int)), some (.ref q), some (iV r.state), some (hearV r.hear), some (.ref a), some (.ref b), none, none] ∧ Ex H H' ∧ SqT K H' a [] ∧ SqT K H' b [] ∧ j = i + 1 + r.hearW.length ∧ WordsAt ws j r.w1) ?_ ?_
  · refine Evl.s_if (b := decide (r.hear ≠ none)) (Evl.et_is (Evl.et_test (Evl.ev_op (ev_g (Evl.ea_cons (Evl.ev_var rfl) (Evl.ea_cons (Evl.ev_var rfl) Evl.ea_nil)) (sv_wordAt (i := i + 1) (Evl.ex_l e12 hw))) Evl.ev_c (Evl.rv_eq rfl))) ?_) (fun hh H3 e3 => ?_) fun hh H3 e3 => ?_
    · cases hr : r.hear with
      | none =>
        have ew : r.hearW = [] := by unfold Rw.hearW; rw [hr]
        obtain ⟨x, l, ex, nx⟩ := r.w1_head
        rw [ew, List.nil_append, ex] at hat1
        rw [wordAt_of hat1.head]
        exact decide_eq_false fun z => nx (by injection z)
      | some h =>
        have ew : r.hearW = [("hear" : Str), Rw.hearS h] := by unfold Rw.hearW; rw [hr]
        rw [ew] at hat1
        rw [wordAt_of (x := "hear") hat1.head]
        rfl
    · have e13 := e12.trans e3
      cases hr : r.hear with
      | none => rw [hr] at hh; cases hh
      | some h =>
        have ew : r.hearW = [("hear" : Str), Rw.hearS h] := by unfold Rw.hearW; rw [hr]
        rw [ew] at hat1
        have h2 : ws[i + 1 + 1]? = some (Rw.hearS h) := hat1.tail.head
        refine Evl.q_asg (v := hearV (some h)) (Evl.ev_if (b := decide (h = none)) (Evl.et_is (Evl.et_test (Evl.ev_op (ev_g (Evl.ea_cons (Evl.ev_var rfl) (Evl.ea_cons (ev_addN (j := 1) (Evl.ev_var rfl) Evl.ev_c) Evl.ea_nil)) (sv_wordAt (i := i + 1 + 1) (Evl.ex_l e13 hw))) Evl.ev_c (Evl.rv_eq rfl))) ?_) (fun hn => ?_) fun hn => ?_) fun H4 e4 => ?_
        · rw [wordAt_of h2]
          cases h with
          | none => rfl
          | some n =>
            have := ok.hear n hr
            have : nS n ≠ "other" := (by decide +kernel : ∀ n ∈ List.range 6, nS n ≠ "other") n (by simp; omega)
            exact decide_eq_false fun z => this (by injection z)
        · rw [of_decide_eq_true hn]
          exact Evl.ev_c
        · cases h with
          | none => cases hn
          | some n => exact ev_g (Evl.ea_cons (Evl.ev_var rfl) (Evl.ea_cons (ev_addN (j := 1) (Evl.ev_var rfl) Evl.ev_c) (Evl.ea_cons Evl.ev_c Evl.ea_nil))) (sv_intIn (m := 5) (Evl.ex_l e13 hw) h2 (ok.hear n hr) (by omega) hz)
        · refine s_augN (a := i + 1) (b := 2) rfl Evl.ev_c fun H5 e5 => ?_
          have e15 := (e13.trans e4).trans e5
          exact ⟨i + 1 + 2, rfl, e15, Evl.ex_t (((e2.trans e3).trans e4).trans e5) ha, Evl.ex_t (((e2.trans e3).trans e4).trans e5) hb, by rw [ew]; rfl, hat1.tail.tail⟩
    · cases hr : r.hear with
      | some h => rw [hr] at hh; cases hh
      | none =>
        have ew : r.hearW = [] := by unfold Rw.hearW; rw [hr]
        rw [ew] at hat1
        exact ⟨i + 1, rfl, e12.trans e3, Evl.ex_t (e2.trans e3) ha, Evl.ex_t (e2.trans e3) hb, by rw [ew]; rfl, hat1⟩
  rintro σ' H3 ⟨j1, rfl, e3, ha3, hb3, ej1, hat2⟩
  -- empty
  refine Evl.q_cut (M := fun σ' H' => ∃ (j : Nat) (pe : Addr), σ' = [some (.ref p), some (.int (j : Int)), some (.ref q), some (iV r.state), some (hearV r.hear), some (.ref pe), some (.ref b), none, none] ∧ Ex H H' ∧ SqT K H' pe (r.empty.map iV) ∧ SqT K H' b [] ∧ j = j1 + (Rw.boxW "empty" r.empty).length ∧ WordsAt ws j r.w2) ?_ ?_
  · refine Evl.s_if (b := decide (r.empty ≠ [])) (Evl.et_is (Evl.et_test (Evl.ev_op (ev_g (Evl.ea_cons (Evl.ev_var rfl) (Evl.ea_cons (Evl.ev_var rfl) Evl.ea_nil)) (sv_wordAt (i := j1) (Evl.ex_l e3 hw))) Evl.ev_c (Evl.rv_eq rfl))) ?_) (fun hh H4 e4 => ?_) fun hh H4 e4 => ?_
    · unfold Rw.w1 at hat2
      cases he : r.empty with
      | nil =>
        obtain ⟨x, l, ex, _, nx, _⟩ := r.w2_head
        rw [he] at hat2
        rw [show Rw.boxW "empty" [] ++ r.w2 = r.w2 from rfl, ex] at hat2
        rw [wordAt_of hat2.head]
        exact decide_eq_false fun z => nx (by injection z)
      | cons c cs =>
        rw [he] at hat2
        rw [wordAt_of (x := "empty") hat2.head]
        rfl
    · have hne : r.empty ≠ [] := of_decide_eq_true hh
      have hbw : Rw.boxW "empty" r.empty = ("empty" : Str) :: r.empty.map nS := by
        cases he : r.empty with
        | nil => exact absurd he hne
        | cons c cs => rfl
      unfold Rw.w1 at hat2
      rw [hbw, List.cons_append] at hat2
      have h2 := hat2.tail
      have h3 := h2.right
      rw [List.length_map] at h3
      obtain ⟨x, l, ex, _, _, nx⟩ := r.w2_head
      have e14 := e3.trans e4
      refine q_asgG (P := TupV K (r.empty.map iV)) (ep_g3P (P := TupV K []) (fun v H H' e h => h.ex e) (Evl.ev_var rfl) (ev_addN (j := 1) (Evl.ev_var rfl) Evl.ev_c) (EvP.imp (ep_tup Evl.ea_nil (by simp)) fun v H2 _ ⟨a, h1, h2⟩ => ⟨a, h1, .inl (.inl h2)⟩) fun v H5 e5 ⟨t, ev, ht⟩ => by
        subst ev
        exact sp_boxesIn (bar := []) (Evl.ex_l (e14.trans e5) hw) ht hz ok.empty hne (fun _ _ => by simp) h2.left (fun b hb => by
          rw [ex] at h3
          rw [wordAt_of h3.head]
          exact nx b hb)) fun v H5 e5 ⟨pe, ev, hpe⟩ => ?_
      subst ev
      refine s_augN (a := j1) (b := 1 + r.empty.length) rfl (ev_addN Evl.ev_c (Evl.ev_is (ev_lenT (Evl.ev_var rfl) (.inr hpe)) (by rw [List.length_map]))) fun H6 e6 => ?_
      refine ⟨j1 + (1 + r.empty.length), pe, rfl, (e14.trans e5).trans e6, Evl.ex_t e6 hpe, Evl.ex_t ((e4.trans e5).trans e6) hb3, by rw [hbw, List.length_cons, List.length_map]; omega, ?_⟩
      rw [show j1 + (1 + r.empty.length) = j1 + 1 + r.empty.length by omega]
      exact h3
    · have hne : r.empty = [] := by simpa using of_decide_eq_false hh
      unfold Rw.w1 at hat2
      rw [hne] at hat2 ⊢
      exact ⟨j1, a, rfl, e3.trans e4, Evl.ex_t e4 ha3, Evl.ex_t e4 hb3, rfl, hat2⟩
  rintro σ' H4 ⟨j2, pe, rfl, e4, hpe, hb4, ej2, hat3⟩
  -- full
  refine Evl.q_cut (M := fun σ' H' => ∃ (j : Nat) (pf : Addr), σ' = [some (.ref p), some (.int (j : Int)), some (.ref q), some (iV r.state), some (hearV r.hear), some (.ref pe), some (.ref pf), none, none] ∧ Ex H H' ∧ SqT K H' pe (r.empty.map iV) ∧ SqT K H' pf (r.full.map iV) ∧ j = j2 + (Rw.boxW "full" r.full).length ∧ WordsAt ws j r.w3) ?_ ?_
  · refine Evl.s_if (b := decide (r.full ≠ [])) (Evl.et_is (Evl.et_and (a := decide (r.full ≠ [])) (b := true) (Evl.et_is (Evl.et_test (Evl.ev_op (ev_g (Evl.ea_cons (Evl.ev_var rfl) (Evl.ea_cons (Evl.ev_var rfl) Evl.ea_nil)) (sv_wordAt (i := j2) (Evl.ex_l e4 hw))) Evl.ev_c (Evl.rv_eq rfl))) ?_) fun hh => Evl.et_is (Evl.et_test (Evl.ev_op (ev_lenT (Evl.ev_var rfl) (.inr hpe)) Evl.ev_c rv_le)) ?_) (Bool.and_true _)) (fun hh H5 e5 => ?_) fun hh H5 e5 => ?_
    · unfold Rw.w2 at hat3
      cases he : r.full with
      | nil =>
        rw [he] at hat3
        rw [wordAt_of (x := ":") (show ws[j2]? = some ":" from hat3.head)]
        rfl
      | cons c cs =>
        rw [he] at hat3
        rw [wordAt_of (x := "full") hat3.head]
        rfl
    · have hne : r.full ≠ [] := of_decide_eq_true hh
      refine decide_eq_true ?_
      have hl : r.empty.length ≤ 2 := by
        obtain ⟨c, cs, hc⟩ := List.exists_cons_of_ne_nil hne
        have h1 := ok.apart c (by rw [hc]; simp)
        have h2 := (box_asc _ ok.full).2.1 c (by rw [hc]; simp)
        exact (by decide +kernel : ∀ bs ∈ boxSets, ∀ c ∈ List.range 3, c ∉ bs → bs.length ≤ 2) _ ok.empty c (by simp; omega) h1
      rw [List.length_map]
      omega
    · have hne : r.full ≠ [] := of_decide_eq_true hh
      have hbw : Rw.boxW "full" r.full = ("full" : Str) :: r.full.map nS := by
        cases he : r.full with
        | nil => exact absurd he hne
        | cons c cs => rfl
      unfold Rw.w2 at hat3
      rw [hbw, List.cons_append] at hat3
      have h2 := hat3.tail
      have h3 := h2.right
      rw [List.length_map] at h3
      have e15 := e4.trans e5
      refine q_asgG (P := TupV K (r.full.map iV)) (ep_g (Evl.ea_cons (Evl.ev_var rfl) (Evl.ea_cons (ev_addN (j := 1) (Evl.ev_var rfl) Evl.ev_c) (Evl.ea_cons (Evl.ev_var rfl) Evl.ea_nil))) (sp_boxesIn (bar := r.empty) (Evl.ex_l e15 hw) (Evl.ex_t e5 hpe) hz ok.full hne ok.apart h2.left (fun b hb => by
          rw [wordAt_of (show ws[j2 + 1 + r.full.length]? = some ":" from h3.head)]
          exact (nS_words b hb).2))) fun v H6 e6 ⟨pf, ev, hpf⟩ => ?_
      subst ev
      refine s_augN (a := j2) (b := 1 + r.full.length) rfl (ev_addN Evl.ev_c (Evl.ev_is (ev_lenT (Evl.ev_var rfl) (.inr hpf)) (by rw [List.length_map]))) fun H7 e7 => ?_
      refine ⟨j2 + (1 + r.full.length), pf, rfl, (e15.trans e6).trans e7, Evl.ex_t ((e5.trans e6).trans e7) hpe, Evl.ex_t e7 hpf, by rw [hbw, List.length_cons, List.length_map]; omega, ?_⟩
      rw [show j2 + (1 + r.full.length) = j2 + 1 + r.full.length by omega]
      exact h3
    · have hne : r.full = [] := by simpa using of_decide_eq_false hh
      unfold Rw.w2 at hat3
      rw [hne] at hat3 ⊢
      exact ⟨j2, b, rfl, e4.trans e5, Evl.ex_t e5 hpe, Evl.ex_t e5 hb4, rfl, hat3⟩
  rintro σ' H5 ⟨j3, pf, rfl, e5, hpe5, hpf5, ej3, hat4⟩
  -- ':'
  unfold Rw.w3 at hat4
  refine Evl.q_when (b := false) (Evl.et_is (Evl.et_test (Evl.ev_op (ev_g (Evl.ea_cons (Evl.ev_var rfl) (Evl.ea_cons (Evl.ev_var rfl) Evl.ea_nil)) (sv_wordAt (i := j3) (Evl.ex_l e5 hw))) Evl.ev_c (Evl.rv_ne rfl))) ?_) (fun h => by cases h) fun _ H6 e6 => ?_
  · rw [wordAt_of hat4.head]
    rfl
  have e06 := e5.trans e6
  have h5 := hat4.tail
  have h6 := h5.right
  refine q_asgG (ep_g (Evl.ea_cons (Evl.ev_var rfl) (Evl.ea_cons (ev_addN (j := 1) (Evl.ev_var rfl) Evl.ev_c) (Evl.ea_cons (Evl.ev_var rfl) (Evl.ea_cons (Evl.ev_op (Evl.ev_var rfl) Evl.ev_c rv_notN) Evl.ea_nil))))
    (sp_deedsIn (i := j3 + 1) (ds := r.deeds) (Evl.ex_l e06 hw) hz (Evl.ex_t e06 hss) hside hsd ok.len ok.deeds ok.takes (fun hh => ok.puts ?_) h5.left (by rw [wordAt_of h6.head]; decide +kernel))) fun v H7 e7 ⟨t, ad, xs, ev, ht, hxs, hds⟩ => ?_
  · cases hr : r.hear with
    | none => rfl
    | some h => rw [hr] at hh; cases h <;> cases hh
  refine ⟨t, _, ev, .inl (.inl ht), rfl, _, _, rfl, _, _, rfl, rfl, ?_⟩
  have e07 := e06.trans e7
  generalize hj4 : j3 + 1 + (Rw.deedsW r.deeds).length = j4 at h6 ⊢
  refine Evl.q_when (b := false) (Evl.et_is (Evl.et_test (Evl.ev_op (ev_g (Evl.ea_cons (Evl.ev_var rfl) (Evl.ea_cons (Evl.ev_var rfl) Evl.ea_nil)) (sv_wordAt (i := j4) (Evl.ex_l e07 hw))) Evl.ev_c (Evl.rv_ne rfl))) ?_) (fun h => by cases h) fun _ H8 e8 => ?_
  · rw [wordAt_of h6.head]
    rfl
  have e08 := e07.trans e8
  refine Evl.q_asg (v := iV r.thn) (ev_g (Evl.ea_cons (Evl.ev_var rfl) (Evl.ea_cons (ev_addN (j := 1) (Evl.ev_var rfl) Evl.ev_c) (Evl.ea_cons Evl.ev_c Evl.ea_nil))) (sv_intIn (m := 23) (Evl.ex_l e08 hw) h6.tail.head ok.thn (by omega) hz)) fun H9 e9 => ?_
  have e09 := e08.trans e9
  have e69 := ((e6.trans e7).trans e8).trans e9
  have e79 := e8.trans e9
  have parts : RowParts K H9 r ad pe pf xs := ⟨Evl.ex_t e79 hxs, hds.ex e79, Evl.ex_t e69 hpe5, Evl.ex_t e69 hpf5⟩
  have tot : j4 + 2 = i + (nS r.state :: (r.hearW ++ r.w1)).length := by
    unfold Rw.w1 Rw.w2 Rw.w3
    simp only [List.length_cons, List.length_append, List.length_nil]
    omega
  refine sp_ret (ep_tup2 (P := fun v H' => IsRow K H' v r) (fun v H H' e h => h.ex e) ?_ (ev_addN (j := 2) (Evl.ev_var rfl) Evl.ev_c)) fun v H10 e10 ⟨t, x, ev, ht, hx⟩ => ?_
  · exact ep_row (Evl.ea_cons (Evl.ev_var rfl) (by have z := ea_star (K := K) (σ := [some (.ref p), some (.int (j4 : Int)), some (.ref q), some (iV r.state), some (hearV r.hear), some (.ref pe), some (.ref pf), some (.ref ad), some (iV r.thn)]) (H := H9) (te := tVar 7) (ys := []) (Evl.ev_var rfl) (.inr (Evl.ex_t e79 hxs)) Evl.ea_nil; rw [List.append_nil] at z; exact z))
      (Evl.ea_cons (Evl.ev_var rfl) (Evl.ea_cons (Evl.ev_var rfl) (Evl.ea_cons (Evl.ev_var rfl) (Evl.ea_cons (Evl.ev_var rfl) Evl.ea_nil)))) parts hsd ok
  · rw [tot] at ht
    exact hq v H10 (e09.trans e10) ⟨t, x, ev, ht, hx⟩
end
end Mp
set_option maxHeartbeats 4000000
/-! Def: Row.read. -/
namespace Mp
open PySem PySem.Spec PyProof.Rows L2
open Evl (Ex Ev EvL EvU EvT EvA RV SpV given)

def rSplitS : V → List V → Hp → VK → Prop := fun x xs H Q => ∃ a b, x = .str a ∧ xs = [.str b] ∧ (b.length == 0) = false ∧ a.length + 2 ≤ sizeLine ∧ rNewStrs (Txt.split a b) H Q
def spRowRead (K : PySem.W.Frag) : Sp := fun vs H Q _ => ∃ (c : V) (side : Str) (r : Rw), vs = [c, .str r.txt] ∧ IsSide side ∧ r.Ok side ∧ ∀ v H', Ex H H' → IsRow K H' v r → Q v H'
theorem sp_rowRead {K : PySem.W.Frag} {H : Hp} {c : V} {side : Str} {r : Rw} (h2 : IsSide side) (ok : r.Ok side) : SpP (spRowRead K) [c, .str r.txt] H (fun v H' => IsRow K H' v r) := fun H1 e Q k E => ⟨c, side, r, rfl, h2, ok, fun v H2 e2 z => k v H2 e2 z⟩
theorem row_txt_len {r : Rw} {side : Str} (ok : r.Ok side) : r.txt.length ≤ 1000 := by
  rw [← txt_parts]
  have be := (box_asc _ ok.empty).2
  have bf := (box_asc _ ok.full).2
  have h1 := boxT_len (z := "empty") (by decide +kernel) be.2 be.1
  have h2 := boxT_len (z := "full") (by decide +kernel) bf.2 bf.1
  have h3 := deedsT_len (fun d hd => (ok.deeds d hd).1) ok.len
  have h4 := nS_len r.state (by have := ok.state; omega)
  have h5 := nS_len r.thn (by have := ok.thn; omega)
  have e1 : (" : " : Str).length = 3 := by decide +kernel
  have e2 : (" > " : Str).length = 3 := by decide +kernel
  have e3 : (" hear " : Str).length = 6 := by decide +kernel
  have hl : (hearT r.hear).length ≤ 16 := by
    unfold hearT
    cases h : r.hear with
    | none => show Str.empty.length ≤ 16; exact Nat.zero_le _
    | some q =>
      show (" hear " ++ Rw.hearS q).length ≤ 16
      rw [Str.length_append, e3]
      cases q with
      | none => show 6 + Str.length "other" ≤ 16; decide +kernel
      | some n => have := nS_len n (by have := ok.hear n h; omega); show 6 + (nS n).length ≤ 16; omega
  show (Str.empty ++ nS r.state ++ hearT r.hear ++ boxT "empty" r.empty ++ boxT "full" r.full ++ " : " ++ Rw.deedsT r.deeds ++ " > " ++ nS r.thn).length ≤ 1000
  simp only [Str.length_append, e1, e2]
  have : Str.empty.length = 0 := rfl
  omega
theorem el_ifT {t : TT} {ta tb : TE} {σ : L2.St} {H : Hp} {xs : List V} (h : EvT t σ H true) (h1 : EvL ta σ H xs) : EvL (tIf t ta tb) σ H xs := fun H1 e Q q => h H1 e _ fun H2 e2 => by
  show ta σ H2 Q
  exact h1 H2 (e.trans e2) Q fun p H3 n e3 hp => q p H3 (Evl.fresh_back e2 n) (e2.trans e3) hp
theorem el_split {to te : TE} {σ : L2.St} {H : Hp} {a b : Str} (ho : Ev to σ H (.str a)) (he : Ev te σ H (.str b)) (hb : (b.length == 0) = false) (hz : a.length + 2 ≤ 100000) : EvL (tM1 rSplitS to te) σ H ((Txt.split a b).map V.str) := fun H1 e Q q =>
  ho H1 e _ fun H2 e2 => ⟨⟨_, rfl⟩, he H2 (e.trans e2) _ fun H3 e3 => ⟨a, b, rfl, rfl, hb, Nat.le_trans hz (by decide), fun p hp => q p _ (Evl.fresh_back (e2.trans e3) hp) ((e2.trans e3).trans (Ex.new hp)) upd_same⟩⟩
/-- a text's words are no more than its letters and one -/
theorem split_len {ws : List Str} (h : ws ≠ []) : ws.length ≤ (Str.join " " ws).length + 1 := by
  induction ws with
  | nil => exact absurd rfl h
  | cons x r ih =>
    cases r with
    | nil => simp
    | cons y r =>
      have := ih (by simp)
      have e : (" " : Str).length = 1 := by decide +kernel
      rw [join_cons " " x (by simp), Str.length_append, Str.length_append, e]
      simp only [List.length_cons] at this ⊢
      omega
theorem row_words_len {r : Rw} {side : Str} (ok : r.Ok side) : r.words.length ≤ 1001 := by
  have := split_len r.words_ne
  have h2 := row_txt_len ok
  unfold Rw.txt at h2
  omega
section
variable {w : World} {K : PySem.W.Frag} {mg : Str → Option Value} {base : Heap}
abbrev nRr : List Str := ["cls", "text", "words", "found", "at"]
theorem sc_Row_read : FnScope nRr ["cls", "text"] (defScope s_Row_read) := ⟨rfl, rfl, rfl, by decide +kernel, rfl, by decide +kernel, by decide +kernel⟩
theorem k_Row_read (T : TX K mg base) : FnR RP w K mg base CX0 11 (cmA K (He.ga K "Row") "read") (spRowRead K) := by
  refine fr_of T.d_Row_read sc_Row_read (fun vs H Q E h => by obtain ⟨c, side, r, rfl, _⟩ := h; rfl) (fun _ _ _ _ _ _ us hl => match us, hl with | [_, _], _ => rfl) fun cdv A outer s H vs Q E hr h => ⟨_,
    pss_cons (ps_set (i := 2) sc_Row_read.nd rfl (Or.inl rfl) (pe_ifExp (pt_val (pe_callB (r := rIsi K) call_isi rfl T.f_isinstance (by decide +kernel) (pa_cons (pv 1) (pa_cons (pe_bt (n := "str") T.f_str) pa_nil)))) (pe_m1 (r := rSplitS) PySem.F.slot_str_split PySem.F.type_str_split mt_split (pv 1) pe_str) (pe_lst (pa_cons pe_str pa_nil))))
    (pss_cons (ps_asg (pe_g (k_row_in T) (hr.mono (by decide)) (pa_cons (pv 2) (pa_cons pe_int (pa_cons (pe_gR T.g_SIDES) pa_nil)))) (pg_tup rfl (pgs_cons (pg_name (i := 3) sc_Row_read.nd rfl (Or.inl rfl)) (pgs_cons (pg_name (i := 4) sc_Row_read.nd rfl (Or.inl rfl)) pgs_nil))))
    (pss_cons (ps_if (pt_cmpR op_lt (pv 4) (pe_callB (r := Evl.rLenS K) call_len_seq rfl T.f_len PySem.boot_len (pa_cons (pv 2) pa_nil)) (nomark _)) (pss_one ps_never) pss_nil)
    (pss_one (ps_ret (pv 3))))), ?_⟩
  obtain ⟨c, side, r, rfl, hsd, ok, hq⟩ := h
  have hl : r.words.length ≤ 1001 := row_words_len ok
  have ht : r.txt.length ≤ 1000 := row_txt_len ok
  have hsp : Txt.split r.txt " " = r.words := split_row ok
  refine Evl.q_asgL (xs := r.words.map V.str) (el_ifT (Evl.et_B (ev_isiB (Evl.ev_var rfl) (.str _) (.inr (.inr (.inl rfl))))) (by have z := el_split (σ := start nRr [c, .str r.txt]) (H := H) (to := tVar 1) (te := tC (.str " ")) (Evl.ev_var rfl) Evl.ev_c (by decide +kernel) (by omega); rw [hsp] at z; exact z)) fun p H1 np e1 hp => ?_
  refine q_asgG (ep_g (Evl.ea_cons (Evl.ev_var rfl) (Evl.ea_cons Evl.ev_c (Evl.ea_cons Evl.ev_c Evl.ea_nil))) (sp_rowIn (i := 0) (ss := ["sender", "receiver"]) (Evl.sq_of hp) (by omega) (He.tupB_ok T.tupSides H1) (by rcases hsd with rfl | rfl <;> simp) hsd ok fun k x hx => by rw [Nat.zero_add]; exact hx)) fun v H2 e2 ⟨t, x, ev, ht, hx⟩ => ?_
  refine ⟨t, _, ev, .inl (.inl ht), rfl, _, _, rfl, _, _, rfl, rfl, ?_⟩
  refine Evl.q_when (b := false) (Evl.et_is (Evl.et_test (Evl.ev_op (Evl.ev_var rfl) (ev_lenT (Evl.ev_var rfl) (.inl (Evl.sq_of (e2 _ _ hp)))) Evl.rv_I0)) ?_) (fun h => by cases h) fun _ H3 e3 => ?_
  · rw [List.length_map]
    exact decide_eq_false (by omega)
  · exact sp_ret (EvP.of (Evl.ev_var rfl) fun H4 e4 => hx.ex (e3.trans e4)) fun v H4 e4 hv => hq v H4 (((e1.trans e2).trans e3).trans e4) hv
end
end Mp
set_option maxHeartbeats 4000000
/-! Def: need_rows. -/
namespace Mp
open PySem PySem.Spec PyProof.Rows L2
open Evl (Ex Ev EvL EvU EvT EvA RV SpV given)

mutual
theorem NkV.ex {K : PySem.W.Frag} {H H' : Hp} (e : Ex H H') : ∀ {k : NestedKey} {v : V}, NkV K H k v → NkV K H' k v
  | _, _, .non => .non
  | _, _, .int i => .int i
  | _, _, .str x => .str x
  | _, _, .tup h ha => .tup (Evl.ex_t e h) (NkA.ex e ha)
theorem NkA.ex {K : PySem.W.Frag} {H H' : Hp} (e : Ex H H') : ∀ {ks : List NestedKey} {vs : List V}, NkA K H ks vs → NkA K H' ks vs
  | _, _, .nil => .nil
  | _, _, .cons a b => .cons (NkV.ex e a) (NkA.ex e b)
end
def numsN (l : List Nat) : List NestedKey := l.map fun (n : Nat) => .num (n : Int)
def keyN (r : Rw) : NestedKey := .tup [.num (r.state : Int), .num (rankOf r.hear), .tup (numsN r.empty), .tup (numsN r.full), .text (Rw.deedsT r.deeds), .num (r.thn : Int)]
theorem nka_nums {K : PySem.W.Frag} {H : Hp} : ∀ l : List Nat, NkA K H (numsN l) (l.map iV)
  | [] => .nil
  | n :: l => .cons (.int _) (nka_nums l)
theorem nk_key {K : PySem.W.Frag} {H : Hp} {r : Rw} {pe pf pk : Addr} (hk : H pk = some (.tup (keyV r pe pf))) (he : SqT K H pe (r.empty.map iV)) (hf : SqT K H pf (r.full.map iV)) : NkV K H (keyN r) (.ref pk) :=
  .tup (.inl (.inl hk)) (.cons (.int _) (.cons (.int _) (.cons (.tup he (nka_nums _)) (.cons (.tup hf (nka_nums _)) (.cons (.str _) (.cons (.int _) .nil))))))
theorem numsN_depth : ∀ l : List Nat, NestedKey.depthAll (numsN l) = 0
  | [] => rfl
  | n :: l => by
    show max (NestedKey.depth _) (NestedKey.depthAll (numsN l)) = 0
    rw [numsN_depth l]; rfl
theorem keyN_depth (r : Rw) : (keyN r).depth ≤ 8 := by
  unfold keyN
  simp only [NestedKey.depth, NestedKey.depthAll, numsN_depth]
  decide
theorem numsN_inj : ∀ {l m : List Nat}, numsN l = numsN m → l = m
  | [], [], _ => rfl
  | [], _ :: _, h => by simp [numsN] at h
  | _ :: _, [], h => by simp [numsN] at h
  | a :: l, b :: m, h => by
    injection h with h1 h2
    injection h1 with h1
    rw [Int.ofNat.inj h1, numsN_inj h2]
theorem keyN_inj {r q : Rw} {side side' : Str} (h : r.Ok side) (k : q.Ok side') (e : keyN r = keyN q) : r = q := by
  unfold keyN at e
  injection e with e
  injection e with a e
  injection e with b e
  injection e with c e
  injection e with d e
  injection e with x e
  injection e with f e
  injection a with a
  injection b with b
  injection c with c
  injection d with d
  injection x with x
  injection f with f
  have a' := Int.ofNat.inj a
  have b' := rank_inj h.hear k.hear b
  have c' := numsN_inj c
  have d' := numsN_inj d
  have x' := deedsT_inj (fun d hd => (h.deeds d hd).1) (fun d hd => (k.deeds d hd).1) x
  have f' := Int.ofNat.inj f
  cases r
  cases q
  simp only at a' b' c' d' x' f'
  subst a' b' c' d' x' f'
  rfl
/-- values that are these rows -/
def Rows (K : PySem.W.Frag) (H : Hp) (xs : List V) (rs : List Rw) : Prop := Paired (IsRow K H) xs rs
theorem Rows.ex {K : PySem.W.Frag} {H H' : Hp} {xs : List V} {rs : List Rw} (h : Rows K H xs rs) (e : Ex H H') : Rows K H' xs rs := L2.Paired.mapP h fun _ _ z => z.ex e
theorem Rows.len {K : PySem.W.Frag} {H : Hp} {xs : List V} {rs : List Rw} (h : Rows K H xs rs) : xs.length = rs.length := PySem.Paired.length h
theorem Rows.get {K : PySem.W.Frag} {H : Hp} {xs : List V} {rs : List Rw} (h : Rows K H xs rs) {i : Nat} {v : V} (e : xs[i]? = some v) : ∃ r, rs[i]? = some r ∧ IsRow K H v r := by
  induction h generalizing i with
  | nil => simp at e
  | cons z _ ih =>
    cases i with
    | zero => exact ⟨_, rfl, by simp at e; rw [← e]; exact z⟩
    | succ i => exact ih (by simpa using e)
theorem s_forG {wi : TI} {g : TG} {tu : TS} {D : Ends} {σ : L2.St} {H : Hp} {J : It} (n : Nat) (Pv : Nat → L2.St → Hp → Prop) (hwi : ∀ R : It → Hp → Prop, (∀ H1, Ex H H1 → R J H1) → wi σ H R) (h0 : ∀ H1, Ex H H1 → Pv 0 σ H1)
    (go : ∀ i σ' H', i < n → Pv i σ' H' → J.go i H') (stop : ∀ σ' H', Pv n σ' H' → J.stop n H')
    (hs : ∀ i σ' H', i < n → Pv i σ' H' → ∀ x H1, J.yld i H' x H1 → g x σ' H1 fun σ2 H2 => tu { D with nx := Pv (i + 1), ct := Pv (i + 1), bk := D.nx } σ2 H2) (hd : ∀ σ' H', Pv n σ' H' → D.nx σ' H') : tFor wi g tu D σ H := by
  refine hwi _ fun H1 e => ⟨fun i m σ' H' => m = n - i ∧ i ≤ n ∧ Pv i σ' H', ⟨n, rfl, Nat.zero_le _, h0 H1 e⟩, ?_⟩
  rintro i m σ' H' ⟨rfl, hi, p⟩
  by_cases hlt : i < n
  · refine .inr ⟨go i σ' H' hlt p, Pv (i + 1), fun σ2 H2 q => ⟨n - (i + 1), by omega, rfl, hlt, q⟩, fun x H2 hy => hs i σ' H' hlt p x H2 hy⟩
  · have e : i = n := by omega
    subst e
    exact .inl ⟨stop σ' H' p, hd σ' H' p⟩
theorem q_forG {wi : TI} {g : TG} {tu tz : TS} {D : Ends} {σ : L2.St} {H : Hp} {J : It} (n : Nat) (Pv : Nat → L2.St → Hp → Prop) (hwi : ∀ R : It → Hp → Prop, (∀ H1, Ex H H1 → R J H1) → wi σ H R) (h0 : ∀ H1, Ex H H1 → Pv 0 σ H1)
    (go : ∀ i σ' H', i < n → Pv i σ' H' → J.go i H') (stop : ∀ σ' H', Pv n σ' H' → J.stop n H')
    (hs : ∀ i σ' H', i < n → Pv i σ' H' → ∀ x H1, J.yld i H' x H1 → g x σ' H1 fun σ2 H2 => tu { D with nx := Pv (i + 1), ct := Pv (i + 1), bk := tz D } σ2 H2) (hd : ∀ σ' H', Pv n σ' H' → tz D σ' H') : tSeq (tFor wi g tu) tz D σ H :=
  s_forG (D := { D with nx := tz D }) n Pv hwi h0 go stop hs hd
theorem ev_opP {r : R2} {ta tb : TE} {σ : L2.St} {H : Hp} {x z : V} {P : V → Hp → Prop} (ha : Ev ta σ H x) (hb : EvP tb σ H P) (hr : ∀ y H1, Ex H H1 → P y H1 → RV r x y H1 z) : Ev (tOp r ta tb) σ H z := fun H1 e Q q =>
  ha H1 e _ fun H2 e2 => hb H2 (e.trans e2) _ fun y H3 e3 p => hr y H3 ((e.trans e2).trans e3) p H3 (Ex.refl H3) Q fun H4 e4 => q H4 ((e2.trans e3).trans e4)
def KeyOf (K : PySem.W.Frag) (H : Hp) (r : Rw) (p : NestedKey × Addr) : Prop := p.1 = keyN r ∧ NkV K H (keyN r) (.ref p.2)
theorem keys_map {K : PySem.W.Frag} {H : Hp} {rs : List Rw} {ks : List (NestedKey × Addr)} (h : Paired (KeyOf K H) rs ks) : ks.map (·.1) = rs.map keyN := by
  induction h with
  | nil => rfl
  | cons e _ ih => rw [List.map_cons, List.map_cons, e.1, ih]
theorem keys_all {K : PySem.W.Frag} {H : Hp} {rs : List Rw} {ks : List (NestedKey × Addr)} (h : Paired (KeyOf K H) rs ks) : ∀ p ∈ ks, NkV K H p.1 (.ref p.2) ∧ p.1.depth ≤ 8 := by
  induction h with
  | nil => simp
  | cons e _ ih =>
    intro p hp
    rcases List.mem_cons.mp hp with rfl | hp
    · rw [e.1]
      exact ⟨e.2, keyN_depth _⟩
    · exact ih p hp
theorem keyN_nodup {side : Str} : ∀ {rs : List Rw}, (∀ r ∈ rs, r.Ok side) → rs.Nodup → (rs.map keyN).Nodup
  | [], _, _ => List.nodup_nil
  | r :: rs, h, nd => by
    rw [List.map_cons, List.nodup_cons]
    refine ⟨fun hm => ?_, keyN_nodup (fun q hq => h q (List.mem_cons_of_mem _ hq)) (List.nodup_cons.mp nd).2⟩
    obtain ⟨q, hq, e⟩ := List.mem_map.mp hm
    have := keyN_inj (h q (List.mem_cons_of_mem _ hq)) (h r List.mem_cons_self) e
    subst this
    exact (List.nodup_cons.mp nd).1 hq
theorem take_nodup {i : Nat} {rs : List Rw} {r : Rw} (nd : rs.Nodup) (h : rs[i]? = some r) : r ∉ rs.take i := by
  intro hm
  obtain ⟨j, hj⟩ := List.mem_iff_getElem?.mp hm
  have hji : j < i := by
    have := (List.getElem?_eq_some_iff.mp hj).1
    rw [List.length_take] at this
    omega
  rw [List.getElem?_take_of_lt hji] at hj
  have l1 := (List.getElem?_eq_some_iff.mp hj)
  have l2 := (List.getElem?_eq_some_iff.mp h)
  have := (List.getElem_inj nd (i := j) (j := i) (h₀ := l1.1) (h₁ := l2.1)).mp (by rw [l1.2, l2.2])
  omega
def spNeedRows (K : PySem.W.Frag) : Sp := fun vs H Q _ => ∃ (p : Addr) (xs : List V) (side : Str) (rs : List Rw), vs = [.str side, .ref p] ∧ SqT K H p xs ∧ Rows K H xs rs ∧ IsSide side ∧ (∀ r ∈ rs, r.Ok side) ∧ rs.Nodup ∧ rs.length ≤ 120 ∧ ∀ H', Ex H H' → Q .non H'
theorem sv_needRows {K : PySem.W.Frag} {H : Hp} {p : Addr} {xs : List V} {side : Str} {rs : List Rw} (h : SqT K H p xs) (hx : Rows K H xs rs) (hs : IsSide side) (ok : ∀ r ∈ rs, r.Ok side) (nd : rs.Nodup) (hl : rs.length ≤ 120) : SpV (spNeedRows K) [.str side, .ref p] H .non :=
  fun H1 e Q k E => ⟨p, xs, side, rs, rfl, Evl.ex_t e h, hx.ex e, hs, ok, nd, hl, fun H2 e2 => k H2 e2⟩
theorem KdK.ex {K : PySem.W.Frag} {H H' : Hp} {ks : List (NestedKey × Addr)} (h : KdK K H ks) (e : Ex H H') : KdK K H' ks := ⟨fun p hp => ⟨NkV.ex e (h.1 p hp).1, (h.1 p hp).2⟩, h.2⟩
theorem rv_inN {X : Cx} {H : Hp} {pk d : Addr} {ks : List (NestedKey × Addr)} {k : NestedKey} (hd : H d = some (KdO X.prog X.w d ks)) (hk : KdK X.K H ks) (h : NkV X.K H k (.ref pk)) (hdp : k.depth ≤ 8) (hs : (d == sysModules) = false) (hr : Room 0 X.A) :
    RV (rInN X) (.ref pk) (.ref d) H (.bl (decide (k ∈ ks.map (·.1)))) := fun H1 e Q q => ⟨pk, d, ks, k, rfl, rfl, e _ _ hd, hk.ex e, NkV.ex e h, hdp, hs, hr, q H1 (Ex.refl H1)⟩
theorem s_setN {X : Cx} {te to ti : TE} {D : Ends} {σ : L2.St} {H : Hp} {pk d : Addr} {ks : List (NestedKey × Addr)} {k : NestedKey} (hv : Ev te σ H (.bl true)) (ho : Ev to σ H (.ref d)) (hi : Ev ti σ H (.ref pk)) (hd : H d = some (KdO X.prog X.w d ks)) (hk : KdK X.K H ks) (h : NkV X.K H k (.ref pk)) (hdp : k.depth ≤ 8)
    (hn : k ∉ ks.map (·.1)) (hl : ks.length ≤ 1000) (hr : Room 0 X.A) (kk : ∀ H1, Ex H H1 → D.nx σ (upd H1 d (KdO X.prog X.w d (ks ++ [(k, pk)])))) : tAsg te (gSub to ti (tSetN X)) D σ H :=
  hv H (Ex.refl H) _ fun H1 e1 => ho H1 e1 _ fun H2 e2 => hi H2 (e1.trans e2) _ fun H3 e3 => by
    have e := (e1.trans e2).trans e3
    exact ⟨pk, d, ks, k, rfl, rfl, rfl, e _ _ hd, hk.ex e, NkV.ex e h, hdp, hn, hl, hr, kk H3 e⟩
theorem q_asgN {P : Program} {w : World} {i : Nat} {tz : TS} {D : Ends} {σ : L2.St} {H : Hp} (h : ∀ d, H d = none → (d == sysModules) = false → tz D (σ.set i (some (.ref d))) (upd H d (KdO P w d []))) :
    tSeq (tAsg (fun _ H Q => ∀ d, H d = none → (d == sysModules) = false → Q (.ref d) (upd H d (KdO P w d []))) (gName i)) tz D σ H := h
section
variable {w : World} {K : PySem.W.Frag} {mg : Str → Option Value} {base : Heap}
abbrev nNr : List Str := ["side", "rows", "known", "at", "row"]
theorem sc_need_rows : FnScope nNr ["side", "rows"] (defScope s_need_rows) := ⟨rfl, rfl, rfl, by decide +kernel, rfl, by decide +kernel, by decide +kernel⟩
theorem k_need_rows (T : TX K mg base) : FG RP w K mg base 5 "need_rows" (spNeedRows K) := by
  refine fg_of T.g_need_rows T.kf_need_rows (fr_of T.d_need_rows sc_need_rows (fun vs H Q E h => by obtain ⟨p, xs, side, rs, rfl, _⟩ := h; rfl) (fun _ _ _ _ _ _ us hl => match us, hl with | [_, _], _ => rfl) fun cdv A outer s H vs Q E hr h => ⟨_,
    pss_cons (ps_set (i := 2) sc_need_rows.nd rfl (Or.inl rfl) pe_dnewN)
    (pss_cons (ps_for PassesOwn.never rfl (pi_enumT rfl T.f_enumerate (pa_cons (pv 1) pa_nil)) (pg_tup rfl (pgs_cons (pg_name (i := 3) sc_need_rows.nd rfl (Or.inl rfl)) (pgs_cons (pg_name (i := 4) sc_need_rows.nd rfl (Or.inl rfl)) pgs_nil)))
      (pss_cons (ps_if (PW.pt (pw_or (pt_not (pt_val (pe_callB (r := rIsi K) call_isi rfl T.f_isinstance (by decide +kernel) (pa_cons (pv 4) (pa_cons (pe_gR T.g_Row) pa_nil))))) (pw_or (pt_cmpR (r := rIn K true) op_notIn_seq (pv 0) (pe_mv0 (pv 4)) (by rfl)) (pw_or1 (pt_cmpR op_inN (pe_fld (pv 4) rfl) (pv 2) (by rfl)))))) (pss_one ps_never) pss_nil)
      (pss_one (ps_asg pe_bl (pg_sub (pv 2) (pe_fld (pv 4) rfl) pset_N)))))
    (pss_one (ps_if (pt_cmpR op_gt (pe_callB (r := Evl.rLenS K) call_len_seq rfl T.f_len PySem.boot_len (pa_cons (pv 1) pa_nil)) (pe_gI T.i_MOST_ROWS) (nomark _)) (pss_one ps_never) pss_nil))), ?_⟩)
  obtain ⟨p, xs, side, rs, rfl, hp, hx, hsd, ok, nd, hl, hq⟩ := h
  have hlx := hx.len
  refine q_asgN fun d nd0 hsys => ?_
  refine q_forG (J := IteT K p) xs.length (fun i σ' H' => ∃ (s3 s4 : Option V) (ks : List (NestedKey × Addr)), σ' = [some (.str side), some (.ref p), some (.ref d), s3, s4] ∧ Ex H H' ∧ H' d = some (KdO RP w d ks) ∧ Paired (KeyOf K H) (rs.take i) ks)
    (fun R r => (Evl.ea_cons (Evl.ev_var rfl) Evl.ea_nil) _ (Ex.refl _) _ fun H2 e2 => ⟨p, xs, rfl, Evl.ex_t ((Ex.new nd0).trans e2) hp, r H2 e2⟩)
    (fun H1 e1 => ⟨none, none, [], rfl, (Ex.new nd0).trans e1, e1 _ _ upd_same, .nil⟩)
    (fun i σ' H' hi ⟨_, _, _, _, e, _⟩ => ⟨xs, xs[i], Evl.ex_t e hp, List.getElem?_eq_getElem hi⟩) (fun σ' H' ⟨_, _, _, _, e, _⟩ => ⟨xs, Evl.ex_t e hp, Nat.le_refl _⟩) ?_ ?_
  · rintro i σ' H' hi ⟨s3, s4, ks, rfl, ex, hd, hks⟩ v H1 ⟨t, x, rfl, nt, rfl, hy⟩
    have hxi := hy xs (Evl.ex_t ex hp)
    obtain ⟨r, hri, hrow⟩ := hx.get hxi
    have okr := ok r (List.mem_of_getElem? hri)
    have ex1 : Ex H' (upd H' t (.tup [.int (i : Nat), x])) := Ex.new nt
    refine ⟨t, _, rfl, .inl (.inl upd_same), rfl, _, _, rfl, _, _, rfl, rfl, ?_⟩
    generalize upd H' t (.tup [.int (i : Nat), x]) = H1 at ex1 ⊢
    have exH1 := ex.trans ex1
    obtain ⟨a, dx, pd, pe, pf, pk, ys, rfl, ha, hk, hpp, side', hsd', ok'⟩ := id hrow
    have nk := nk_key (K := K) hk hpp.empty hpp.full
    have hm := keys_map hks
    have kk : KdK K H ks := ⟨keys_all hks, by rw [hm]; exact keyN_nodup (fun q hq => ok q (List.mem_of_mem_take hq)) (nd.sublist (List.take_sublist _ _))⟩
    have hnk : keyN r ∉ ks.map (·.1) := by
      rw [hm]
      intro hmem
      obtain ⟨q, hq, e⟩ := List.mem_map.mp hmem
      have := keyN_inj (ok q (List.mem_of_mem_take hq)) okr e
      subst this
      exact take_nodup nd hri hq
    have hl : ks.length ≤ 1000 := by
      have := PySem.Paired.length hks
      rw [List.length_take] at this
      omega
    refine Evl.q_when (b := false) (Evl.et_is (Evl.et_or (a := false) (b := false) (Evl.et_is (Evl.et_not (Evl.et_B (ev_isiC (Evl.ev_var rfl) (fun H2 e => tyx_row T (hrow.ex (exH1.trans e))) T.kit_Row_Row))) rfl) fun _ =>
      Evl.et_is (Evl.et_or (a := false) (b := false) (Evl.et_is (Evl.et_test (ev_opP (Evl.ev_var rfl) (ep_mv0 (Evl.ev_var rfl) (exH1 _ _ ha) rfl (mg_sides T) (hr.mono (by decide)) (sp_rowSides (hrow.ex exH1))) fun y H2 e2 ⟨q, ey, hq⟩ => by subst ey; exact Evl.rv_niT hq rfl (by simp [flatV]))) ?_) fun _ =>
        Evl.et_is (Evl.et_test (Evl.ev_op (ev_fld (Evl.ev_var rfl) (exH1 _ _ ha) (cls_Row T) T.no_Row_key rfl) (Evl.ev_var rfl) (rv_inN (ex1 _ _ hd) (kk.ex exH1) (NkV.ex exH1 nk) (keyN_depth r) hsys (hr.mono (by decide))))) (decide_eq_false hnk)) rfl) rfl) (fun h => by cases h) fun _ H2 e2 => ?_
    · have hm2 : inV (.str side) ((fitS r.deeds).map V.str) = true := by rw [inV_str]; exact List.contains_iff_mem.mpr (okr.side_fit hsd)
      simp only [hm2]; rfl
    · have ex2 := ex1.trans e2
      have exH2 := ex.trans ex2
      refine s_setN Evl.ev_c (Evl.ev_var rfl) (ev_fld (Evl.ev_var rfl) (exH2 _ _ ha) (cls_Row T) T.no_Row_key rfl) (ex2 _ _ hd) (kk.ex exH2) (NkV.ex exH2 nk) (keyN_depth r) hnk hl (hr.mono (by decide)) fun H3 e3 => ?_
      refine ⟨_, _, ks ++ [(keyN r, pk)], rfl, Ex.mut (exH2.trans e3) nd0, upd_same, ?_⟩
      rw [List.take_add_one, hri]
      exact PySem.Paired.snoc hks ⟨rfl, nk⟩
  · rintro σ' H' ⟨s3, s4, ks, rfl, ex, hd, hks⟩
    refine Evl.s_when (b := false) (Evl.et_is (Evl.et_test (Evl.ev_op (ev_lenT (Evl.ev_var rfl) (.inr (Evl.ex_t ex hp))) Evl.ev_c Evl.rv_I0)) ?_) (fun h => by cases h) fun _ H3 e3 => hq H3 (ex.trans e3)
    exact decide_eq_false (by omega)
end
end Mp
set_option maxHeartbeats 4000000
/-! Words: all are texts that can be laid; rows stay while a list changes. -/
namespace Mp
open PySem PySem.Spec PyProof.Rows L2
open Evl (Ex Ev EvL EvU EvT EvA RV SpV given)

theorem Rw.words_all {P : Str → Prop} (hn : ∀ n, n < 24 → P (nS n)) (hw : ∀ w ∈ [("hear" : Str), "other", "empty", "full", ":", "-", ",", ">"], P w) (hd : ∀ d ∈ Dd.all, ∀ w ∈ d.words, P w) {r : Rw} {side : Str} (h : r.Ok side) : ∀ w ∈ r.words, P w := by
  have box : ∀ (z : Str) (s : List Nat), P z → s ∈ boxSets → ∀ w ∈ Rw.boxW z s, P w := fun z s hz hs w hw => by
    cases s with
    | nil => simp [Rw.boxW] at hw
    | cons b bs =>
      rcases List.mem_cons.mp hw with rfl | hw
      · exact hz
      · obtain ⟨n, hnn, rfl⟩ := List.mem_map.mp hw
        exact hn n (by have := boxSets_le _ hs n hnn; omega)
  intro w hww
  rcases List.mem_cons.mp hww with rfl | hww
  · exact hn _ (by have := h.state; omega)
  rcases List.mem_append.mp hww with hww | hww
  · unfold Rw.hearW at hww
    cases e : r.hear with
    | none => rw [e] at hww; cases hww
    | some x =>
      rw [e] at hww
      simp only [List.mem_cons, List.not_mem_nil, or_false] at hww
      rcases hww with rfl | rfl
      · exact hw _ (by simp)
      · cases x with
        | none => exact hw _ (by show ("other" : Str) ∈ _; simp)
        | some n => exact hn n (by have := h.hear n e; omega)
  rcases List.mem_append.mp hww with hww | hww
  · exact box _ _ (hw _ (by simp)) h.empty w hww
  rcases List.mem_append.mp hww with hww | hww
  · exact box _ _ (hw _ (by simp)) h.full w hww
  rcases List.mem_cons.mp hww with rfl | hww
  · exact hw _ (by simp)
  rcases List.mem_append.mp hww with hww | hww
  · unfold Rw.deedsW at hww
    split at hww
    · simp only [List.mem_cons, List.not_mem_nil, or_false] at hww
      subst hww
      exact hw _ (by simp)
    · refine gluedW_all (P := P) (hw _ (by simp)) (fun x hx y hy => ?_) w hww
      obtain ⟨d, hdd, rfl⟩ := List.mem_map.mp hx
      exact hd d (Dd.mem_all (h.deeds d hdd).1) y hy
  · simp only [List.mem_cons, List.not_mem_nil, or_false] at hww
    rcases hww with rfl | rfl
    · exact hw _ (by simp)
    · exact hn _ (by have := h.thn; omega)
theorem Rw.words_ok {r : Rw} {side : Str} (h : r.Ok side) : ∀ w ∈ r.words, PyData.strOk w = true :=
  Rw.words_all (P := fun w => PyData.strOk w = true) (by decide +kernel) (by decide +kernel) (by decide +kernel) h
theorem Rw.txt_ok {r : Rw} {side : Str} (h : r.Ok side) : PyData.strOk r.txt = true := strOk_join (z := " ") (by decide +kernel) (Rw.words_ok h)
theorem pageW_ok {rs : List Rw} {side : Str} (h : ∀ r ∈ rs, r.Ok side) : ∀ w ∈ pageW rs, PyData.strOk w = true := by
  intro w hw
  unfold pageW at hw
  split at hw
  · simp only [List.mem_cons, List.not_mem_nil, or_false] at hw
    subst hw
    decide +kernel
  · refine gluedW_all (P := fun w => PyData.strOk w = true) (by decide +kernel) (fun x hx y hy => ?_) w hw
    obtain ⟨d, hd, rfl⟩ := List.mem_map.mp hx
    exact Rw.words_ok (h d hd) y hy
theorem pageW_cons {r : Rw} {rs : List Rw} : pageW (r :: rs) = r.words ++ (match rs with | [] => [] | _ => (";" : Str) :: pageW rs) := by
  show gluedW ";" (r.words :: rs.map Rw.words) = _
  rw [gluedW_cons]
  cases rs <;> rfl
theorem pageT_len {rs : List Rw} {side : Str} (h : ∀ r ∈ rs, r.Ok side) : (pageT rs).length ≤ 1 + rs.length * 1003 := by
  have key : ∀ {l : List Str}, (∀ x ∈ l, x.length ≤ 1000) → (Str.join " ; " l).length ≤ l.length * 1003 := fun {l} hl => by
    induction l with
    | nil => show Str.empty.length ≤ _; exact Nat.zero_le _
    | cons x r ih =>
      cases r with
      | nil =>
        have := hl x (by simp)
        show x.length ≤ _
        simp; omega
      | cons y r =>
        have := ih fun z hz => hl z (List.mem_cons_of_mem _ hz)
        have h1 := hl x (by simp)
        have e : (" ; " : Str).length = 3 := by decide +kernel
        rw [join_cons " ; " x (by simp), Str.length_append, Str.length_append, e]
        simp only [List.length_cons] at this ⊢
        omega
  cases rs with
  | nil => show Str.length "-" ≤ _; decide +kernel
  | cons d r =>
    have := key (l := (d :: r).map Rw.txt) fun x hx => by
      obtain ⟨e, he, rfl⟩ := List.mem_map.mp hx
      exact row_txt_len (h e he)
    rw [List.length_map] at this
    show (Str.join " ; " ((d :: r).map Rw.txt)).length ≤ _
    omega
theorem pageW_len {rs : List Rw} {side : Str} (h : ∀ r ∈ rs, r.Ok side) : (pageW rs).length ≤ 2 + rs.length * 1003 := by
  have := split_len (pageW_ne rs)
  rw [← pageT_eq] at this
  have := pageT_len h
  omega
def strsD (l : List Str) : List PyData := l.map .str
theorem strsD_lay : ∀ {l : List Str}, (∀ w ∈ l, PyData.strOk w = true) → PyData.canLayAll0 (strsD l) = true
  | [], _ => rfl
  | x :: l, h => by
    show (PyData.strOk x && PyData.canLayAll0 (strsD l)) = true
    rw [h x (by simp), strsD_lay fun w hw => h w (List.mem_cons_of_mem _ hw)]
    rfl
theorem strsD_depth : ∀ l : List Str, PyData.depthAll (strsD l) = 0
  | [] => rfl
  | x :: l => by
    show max 0 (PyData.depthAll (strsD l)) = 0
    rw [strsD_depth l]
    rfl
theorem strsD_eqv : ∀ l m : List Str, PyData.eqvAll (strsD l) (strsD m) = decide (l = m)
  | [], [] => rfl
  | [], _ :: _ => rfl
  | _ :: _, [] => rfl
  | a :: l, b :: m => by
    show ((a == b) && PyData.eqvAll (strsD l) (strsD m)) = _
    rw [strsD_eqv l m, Bool.eq_iff_iff]
    simp
theorem dpAll_strs {K : PySem.W.Frag} {H : Hp} : ∀ l : List Str, DpAll K H (l.map V.str) (strsD l)
  | [] => .nil
  | n :: l => .cons (.str _) (dpAll_strs l)
theorem dp_strsL {K : PySem.W.Frag} {H : Hp} {p : Addr} {l : List Str} (h : SqL K H p (l.map V.str)) : Dp K H (.ref p) (.list (strsD l)) := .lst h (dpAll_strs l)
theorem strsL_shaped {l : List Str} (h : ∀ w ∈ l, PyData.strOk w = true) : SeqAt.shaped (.list (strsD l)) = true := by
  unfold SeqAt.shaped
  simp only [PyData.canLay0, PyData.depth, strsD_lay h, strsD_depth]
  decide
/-! ### what stays while a list changes -/
section
variable {K : PySem.W.Frag} {H H' : Hp} {D a : Addr} {ys xs : List V}
theorem rd_mono {u : HO} (hD : H D = some (.lst ys)) (hu : ∀ xs, u ≠ .lst xs) (e : ExB D H H') (h : Rd H a u) : Rd H' a u := by
  rcases h with h | ⟨o, h⟩
  · refine .inl (e a _ (fun z => ?_) h)
    rw [z, hD] at h
    injection h with h
    exact hu _ h.symm
  · refine .inr ⟨o, e a _ (fun z => ?_) h⟩
    rw [z, hD] at h
    injection h with h
    cases h
theorem sqT_mono (hD : H D = some (.lst ys)) (e : ExB D H H') (h : SqT K H a xs) : SqT K H' a xs := by
  rcases h with h | h
  · exact .inl (rd_mono hD (fun _ z => by cases z) e h)
  · exact .inr h
theorem ins_mono {C dx : Addr} {fs : List (Str × V)} (hD : H D = some (.lst ys)) (e : ExB D H H') (h : H a = some (.ins C dx fs)) : H' a = some (.ins C dx fs) := e a _ (fun z => by rw [z, hD] at h; cases h) h
theorem tup_mono (hD : H D = some (.lst ys)) (e : ExB D H H') (h : H a = some (.tup xs)) : H' a = some (.tup xs) := e a _ (fun z => by rw [z, hD] at h; cases h) h
theorem IsRow.mono {r : Rw} : MonoV fun v H => IsRow K H v r := fun y D ys H H' hD e h => by
  obtain ⟨a, dx, pd, pe, pf, pk, xs, rfl, ha, hk, hp, ok⟩ := h
  exact ⟨a, dx, pd, pe, pf, pk, xs, rfl, ins_mono hD e ha, tup_mono hD e hk, ⟨sqT_mono hD e hp.deeds, L2.Paired.mapP hp.each fun v d z => IsDeed.mono v D ys H H' hD e z, sqT_mono hD e hp.empty, sqT_mono hD e hp.full⟩, ok⟩
theorem Rows.mono {rs : List Rw} (hD : H D = some (.lst ys)) (e : ExB D H H') (h : Rows K H xs rs) : Rows K H' xs rs := L2.Paired.mapP h fun v r z => IsRow.mono v D ys H H' hD e z
end
end Mp
set_option maxHeartbeats 4000000
/-! Def: rows_in. -/
namespace Mp
open PySem PySem.Spec PyProof.Rows L2
open Evl (Ex Ev EvL EvU EvT EvA RV SpV given)

theorem q_parL1 {i j : Nat} {ta tb : TE} {tz : TS} {D : Ends} {σ : L2.St} {H : Hp} {xs : List V} {v : V} (ha : EvL ta σ H xs) (hb : Ev tb σ H v)
    (k : ∀ a H1, H a = none → Ex H H1 → H1 a = some (.lst xs) → tz D ((σ.set i (some (.ref a))).set j (some v)) H1) : tSeq (tPar i j (tCons ta (tCons tb tNil))) tz D σ H :=
  ha H (Ex.refl H) _ fun a H1 na e1 h1 => hb H1 e1 _ fun H2 e2 => ⟨.ref a, v, rfl, k a H2 na (e1.trans e2) (e2 _ _ h1)⟩
theorem ep_tupV {K : PySem.W.Frag} {ta : TA} {σ : L2.St} {H : Hp} {vs : List V} (h : EvA ta σ H vs) (hl : vs.length ≤ 1000) : EvP (tTup ta) σ H (TupV K vs) := EvP.imp (ep_tup h hl) fun v H2 _ ⟨p, e, hp⟩ => ⟨p, e, .inl (.inl hp)⟩
theorem nS_dash : ∀ n, n < 24 → nS n ≠ "-" := by decide +kernel
def spRowsIn (K : PySem.W.Frag) : Sp := fun vs H Q _ => ∃ (side : Str) (rs : List Rw), vs = [.str (pageT rs), .str side] ∧ IsSide side ∧ (∀ r ∈ rs, r.Ok side) ∧ rs.length ≤ 30 ∧ ∀ p xs H', Ex H H' → H' p = some (.lst xs) → Rows K H' xs rs → Q (.ref p) H'
theorem sp_rowsIn {K : PySem.W.Frag} {H : Hp} {side : Str} {rs : List Rw} (hs : IsSide side) (ok : ∀ r ∈ rs, r.Ok side) (hl : rs.length ≤ 30) : SpP (spRowsIn K) [.str (pageT rs), .str side] H (fun v H' => ∃ p xs, v = .ref p ∧ H' p = some (.lst xs) ∧ Rows K H' xs rs) :=
  fun H1 e Q k E => ⟨side, rs, rfl, hs, ok, hl, fun p xs H2 e2 h1 h2 => k _ H2 e2 ⟨p, xs, rfl, h1, h2⟩⟩
section
variable {w : World} {K : PySem.W.Frag} {mg : Str → Option Value} {base : Heap}
abbrev nRws : List Str := ["text", "side", "words", "found", "at", "row"]
theorem sc_rows_in : FnScope nRws ["text", "side"] (defScope s_rows_in) := ⟨rfl, rfl, rfl, by decide +kernel, rfl, by decide +kernel, by decide +kernel⟩
theorem k_rows_in (T : TX K mg base) : FG RP w K mg base 11 "rows_in" (spRowsIn K) := by
  refine fg_of T.g_rows_in T.kf_rows_in (fr_of T.d_rows_in sc_rows_in (fun vs H Q E h => by obtain ⟨side, rs, rfl, _⟩ := h; rfl) (fun _ _ _ _ _ _ us hl => match us, hl with | [_, _], _ => rfl) fun cdv A outer s H vs Q E hr h => ⟨_,
    pss_cons (ps_if (pt_not (pt_val (pe_callB (r := rIsi K) call_isi rfl T.f_isinstance (by decide +kernel) (pa_cons (pv 0) (pa_cons (pe_bt (n := "str") T.f_str) pa_nil))))) (pss_one ps_never) pss_nil)
    (pss_cons (ps_set (i := 2) sc_rows_in.nd rfl (Or.inl rfl) (pe_m1 (r := rSplitS) PySem.F.slot_str_split PySem.F.type_str_split mt_split (pv 0) pe_str))
    (pss_cons (ps_if (pt_cmpR (r := rEqD K) (op_eqD hr.units) (pv 2) (pe_lst (pa_cons pe_str pa_nil)) (nomark _)) (pss_one (ps_ret (pe_lst pa_nil))) pss_nil)
    (pss_cons (ps_if (pt_cmpR op_eq (pe_ix ix_list (pv 2) pe_int (fun _ _ => rfl)) pe_str (nomark _)) (pss_one ps_never) pss_nil)
    (pss_cons (ps_par (i := 3) (j := 4) rfl sc_rows_in.nd rfl rfl (by decide) rfl rfl (pa_cons (pe_lst pa_nil) (pa_cons pe_int pa_nil)) rfl)
    (pss_one (ps_while PassesOwn.never (pt_val pe_bl)
      (pss_cons (ps_asg (pe_g (k_row_in T) (hr.mono (by decide)) (pa_cons (pv 2) (pa_cons (pv 4) (pa_cons (pe_tup (pa_cons (pv 1) pa_nil)) pa_nil)))) (pg_tup rfl (pgs_cons (pg_name (i := 5) sc_rows_in.nd rfl (Or.inl rfl)) (pgs_cons (pg_name (i := 4) sc_rows_in.nd rfl (Or.inl rfl)) pgs_nil))))
      (pss_cons (ps_expr (pe_bm PySem.F.plainAttrs_list PySem.F.slot_list_append PySem.F.type_list_append mt_append (pv 3) (pa_cons (pv 5) pa_nil)))
      (pss_cons (ps_if (pt_cmpR op_eq (pv 4) (pe_callB (r := Evl.rLenS K) call_len_seq rfl T.f_len PySem.boot_len (pa_cons (pv 2) pa_nil)) (nomark _)) (pss_one (ps_ret (pv 3))) pss_nil)
      (pss_cons (ps_if (pt_cmpR op_ne (pe_ix ix_list (pv 2) (pv 4) (fun _ _ => rfl)) pe_str (nomark _)) (pss_one ps_never) pss_nil)
      (pss_one (ps_aug (i := 4) sc_rows_in.nd rfl (Or.inl rfl) pe_int ip_add))))))))))))
    , ?_⟩)
  obtain ⟨side, rs, rfl, hsd, ok, hl, hq⟩ := h
  have hpl := pageT_len ok
  have hwl := pageW_len ok
  have hsp : Txt.split (pageT rs) " " = pageW rs := split_page ok
  have hok := pageW_ok ok
  refine Evl.q_when (b := false) (Evl.et_is (Evl.et_not (Evl.et_B (ev_isiB (Evl.ev_var rfl) (.str _) (.inr (.inr (.inl rfl)))))) rfl) (fun h => by cases h) fun _ H1 e1 => ?_
  refine Evl.q_asgL (xs := (pageW rs).map V.str) (by have z := el_split (σ := start nRws [.str (pageT rs), .str side]) (H := H1) (to := tVar 0) (te := tC (.str " ")) (Evl.ev_var rfl) Evl.ev_c (by decide +kernel) (by omega); rw [hsp] at z; exact z) fun pw H2 npw e2 hpw => ?_
  have e12 := e1.trans e2
  refine Evl.q_when (b := decide (rs = [])) (Evl.et_is (Evl.et_test (Evl.ev_opL (Evl.ev_var rfl) (Evl.el_lst (Evl.ea_cons Evl.ev_c Evl.ea_nil) (by simp)) fun q H3 hq3 e3 => rv_eqD (fun H4 e4 => dp_strsL (Evl.sq_of ((e3.trans e4) _ _ hpw))) (fun H4 e4 => dp_strsL (l := ["-"]) (Evl.sq_of (e4 _ _ hq3))) (strsL_shaped hok) (strsL_shaped (by decide +kernel)))) ?_) (fun hd H3 e3 => ?_) fun hd H3 e3 => ?_
  · show (PyData.eqvAll (strsD (pageW rs)) (strsD ["-"])) = _
    rw [strsD_eqv]
    cases rs with
    | nil => rfl
    | cons r rest =>
      rw [decide_eq_false (by simp : ¬ (r :: rest = []))]
      refine decide_eq_false fun z => ?_
      rw [pageW_cons, Rw.words_w] at z
      injection z with z _
      exact nS_dash _ (by have := (ok r (by simp)).state; omega) z
  · have hd := of_decide_eq_true hd
    subst hd
    exact Evl.el_lst Evl.ea_nil (by simp) H3 (Ex.refl _) _ fun p H4 np e4 hp => hq p [] H4 ((e12.trans e3).trans e4) hp .nil
  have hd := of_decide_eq_false hd
  have e13 := e12.trans e3
  refine Evl.q_when (b := false) (Evl.et_is (Evl.et_test (Evl.ev_op (Evl.ev_op (Evl.ev_var rfl) Evl.ev_c (Evl.rv_ixL (v := .str ((pageW rs).getD 0 "")) (Evl.sq_of (e3 _ _ hpw)) ?_)) Evl.ev_c (Evl.rv_eq rfl))) ?_) (fun h => by cases h) fun _ H4 e4 => ?_
  · obtain ⟨r, rest, rfl⟩ := List.exists_cons_of_ne_nil hd
    rw [pageW_cons, Rw.words_w]
    exact atI_nat rfl
  · obtain ⟨r, rest, rfl⟩ := List.exists_cons_of_ne_nil hd
    rw [pageW_cons, Rw.words_w]
    exact decide_eq_false fun z => nS_dash r.state (by have := (ok r (by simp)).state; omega) (by injection z)
  have e14 := e13.trans e4
  refine q_parL1 (Evl.el_lst Evl.ea_nil (by simp)) Evl.ev_c fun pf H5 npf e5 hpf => ?_
  have npf0 : H pf = none := Evl.fresh_back e14 npf
  have e15 := e14.trans e5
  have e25 := (e3.trans e4).trans e5
  refine Evl.s_while (fun m σ' H' => ∃ (done todo : List Rw) (xs : List V) (j : Nat) (s5 : Option V), m = todo.length ∧ rs = done ++ todo ∧ todo ≠ [] ∧ σ' = [some (.str (pageT rs)), some (.str side), some (.ref pw), some (.ref pf), some (.int (j : Int)), s5] ∧ Ex H H' ∧ H' pw = some (.lst ((pageW rs).map V.str)) ∧ H' pf = some (.lst xs) ∧ Rows K H' xs done ∧
      WordsAt (pageW rs) j (pageW todo) ∧ j + (pageW todo).length = (pageW rs).length) rs.length ⟨[], rs, [], 0, none, rfl, rfl, hd, rfl, e15, e25 _ _ hpw, hpf, .nil, fun k x hx => by rw [Nat.zero_add]; exact hx, by rw [Nat.zero_add]⟩ ?_
  rintro m σ' H' ⟨done, todo, xs, j, s5, rfl, hrs, htd, rfl, ex, hpw', hpf', hdn, hwj, hj⟩
  refine ⟨true, Evl.et_B Evl.ev_c, fun _ H6 e6 => ?_, fun h => by cases h⟩
  obtain ⟨r, rest, rfl⟩ := List.exists_cons_of_ne_nil htd
  have lxs := hdn.len
  have ldn : done.length + rest.length + 1 = rs.length := by rw [hrs, List.length_append, List.length_cons]; omega
  have okr := ok r (by rw [hrs]; simp)
  rw [pageW_cons] at hwj hj
  refine ⟨fun σ2 H2 => rest ≠ [] ∧ ∃ (xs2 : List V) (j2 : Nat) (s5 : Option V), σ2 = [some (.str (pageT rs)), some (.str side), some (.ref pw), some (.ref pf), some (.int (j2 : Int)), s5] ∧ Ex H H2 ∧ H2 pw = some (.lst ((pageW rs).map V.str)) ∧ H2 pf = some (.lst xs2) ∧ Rows K H2 xs2 (done ++ [r]) ∧ WordsAt (pageW rs) j2 (pageW rest) ∧ j2 + (pageW rest).length = (pageW rs).length,
    fun σ2 H2 ⟨a0, xs2, j2, s5, a1, a2, a3, a4, a5, a6, a7⟩ => ⟨rest.length, Nat.lt_succ_self _, done ++ [r], rest, xs2, j2, s5, rfl, by rw [hrs, List.append_assoc]; rfl, a0, a1, a2, a3, a4, a5, a6, a7⟩, ?_⟩
  have ex6 := ex.trans e6
  refine q_asgG (P := IsRowAt K r (j + r.words.length)) (ep_g3P (P := TupV K [.str side]) (fun v H H' e h => h.ex e) (Evl.ev_var rfl) (Evl.ev_var rfl) (ep_tupV (Evl.ea_cons (Evl.ev_var rfl) Evl.ea_nil) (by simp)) fun v H7 e7 ⟨q, ev, hqs⟩ => by
    subst ev
    exact sp_rowIn (i := j) (ss := [side]) (r := r) (Evl.sq_of ((e6.trans e7) _ _ hpw')) (by omega) hqs (by simp) hsd okr hwj.left) fun v H7 e7 ⟨t, x, ev, ht, hx⟩ => ?_
  refine ⟨t, _, ev, .inl (.inl ht), rfl, _, _, rfl, _, _, rfl, rfl, ?_⟩
  have e67 := e6.trans e7
  refine Evl.q_app (v := x) (xs := xs) (e67 _ _ hpf') (Evl.ev_var rfl) (Evl.ev_var rfl) (by omega) fun H8 e8 => ?_
  have e68 := e67.trans e8
  have hpf8 := e68 _ _ hpf'
  have eb : ExB pf H8 (upd H8 pf (.lst (xs ++ [x]))) := (ExB.of (Ex.refl H8)).upd
  have hne : pw ≠ pf := fun z => by
    have h1 := (e3.trans e4) _ _ hpw
    rw [z, npf] at h1
    cases h1
  have hpw8 : (upd H8 pf (.lst (xs ++ [x]))) pw = some (.lst ((pageW rs).map V.str)) := by rw [upd_ne hne]; exact e68 _ _ hpw'
  have hpf9 : (upd H8 pf (.lst (xs ++ [x]))) pf = some (.lst (xs ++ [x])) := upd_same
  have hrows : Rows K (upd H8 pf (.lst (xs ++ [x]))) (xs ++ [x]) (done ++ [r]) := PySem.Paired.snoc (Rows.mono hpf8 eb (hdn.ex e68)) (IsRow.mono x pf xs H8 _ hpf8 eb (hx.ex e8))
  have ex8 : Ex H (upd H8 pf (.lst (xs ++ [x]))) := Ex.mut (ex.trans e68) npf0
  generalize upd H8 pf (.lst (xs ++ [x])) = H9 at hpw8 hpf9 hrows ex8 ⊢
  refine Evl.q_when (b := decide (rest = [])) (Evl.et_is (Evl.et_test (Evl.ev_op (Evl.ev_var rfl) (ev_lenT (Evl.ev_var rfl) (.inl (Evl.sq_of hpw8))) (Evl.rv_eq rfl))) ?_) (fun hb H10 e10 => ?_) fun hb H10 e10 => ?_
  · rw [List.length_map]
    cases rest with
    | nil =>
      refine decide_eq_true ?_
      simp only [List.append_nil] at hj
      rw [hj]
    | cons r2 rest2 =>
      rw [decide_eq_false (by simp : ¬ (r2 :: rest2 = []))]
      refine decide_eq_false fun z => ?_
      injection z with z
      have z := Int.ofNat.inj z
      rw [List.length_append, List.length_cons] at hj
      omega
  · have hb := of_decide_eq_true hb
    subst hb
    refine Evl.s_ret (Evl.ev_var rfl) fun H11 e11 => hq pf (xs ++ [x]) H11 (ex8.trans (e10.trans e11)) ((e10.trans e11) _ _ hpf9) ?_
    rw [hrs]
    exact hrows.ex (e10.trans e11)
  · have hb := of_decide_eq_false hb
    obtain ⟨r2, rest2, rfl⟩ := List.exists_cons_of_ne_nil hb
    have h2 : WordsAt (pageW rs) (j + r.words.length) ((";" : Str) :: pageW (r2 :: rest2)) := hwj.right
    refine Evl.q_when (b := false) (Evl.et_is (Evl.et_test (Evl.ev_op (Evl.ev_op (Evl.ev_var rfl) (Evl.ev_var rfl) (Evl.rv_ixL (v := .str ";") (Evl.sq_of (e10 _ _ hpw8)) (atI_str h2.head))) Evl.ev_c (Evl.rv_ne rfl))) rfl) (fun h => by cases h) fun _ H11 e11 => ?_
    refine s_augN (a := j + r.words.length) (b := 1) rfl Evl.ev_c fun H12 e12 => ?_
    have e0 := (e10.trans e11).trans e12
    rw [List.length_append, List.length_cons] at hj
    exact ⟨hb, xs ++ [x], j + r.words.length + 1, _, rfl, ex8.trans e0, e0 _ _ hpw8, e0 _ _ hpf9, hrows.ex e0, h2.tail, by omega⟩
end
end Mp
set_option maxHeartbeats 4000000
/-! Defs: ends made: __init__ of End, Sender, Receiver; read. -/
namespace Mp
open PySem PySem.Spec PyProof.Rows L2
open Evl (Ex Ev EvL EvU EvT EvA RV SpV given)

/-- rows of an end of a side -/
structure RsOk (side : Str) (rs : List Rw) : Prop where
  sd : IsSide side
  ok : ∀ r ∈ rs, r.Ok side
  nd : rs.Nodup
  len : rs.length ≤ 30
def endC (K : PySem.W.Frag) (side : Str) : Addr := if side = "sender" then He.ga K "Sender" else He.ga K "Receiver"
def endF (side : Str) (p : Addr) : List (Str × V) := [("own_side", .str side), ("own_rows", .ref p)]
/-- v is the end of a side with these rows -/
def IsEnd (K : PySem.W.Frag) (H : Hp) (v : V) (side : Str) (rs : List Rw) : Prop := ∃ a dx p xs, v = .ref a ∧ H a = some (.ins (endC K side) dx (endF side p)) ∧ SqT K H p xs ∧ Rows K H xs rs ∧ RsOk side rs
theorem IsEnd.ex {K : PySem.W.Frag} {H H' : Hp} {v : V} {side : Str} {rs : List Rw} (h : IsEnd K H v side rs) (e : Ex H H') : IsEnd K H' v side rs := by
  obtain ⟨a, dx, p, xs, rfl, ha, hp, hx, ok⟩ := h
  exact ⟨a, dx, p, xs, rfl, e _ _ ha, Evl.ex_t e hp, hx.ex e, ok⟩
theorem IsEnd.mono {K : PySem.W.Frag} {side : Str} {rs : List Rw} : MonoV fun v H => IsEnd K H v side rs := fun y D ys H H' hD e h => by
  obtain ⟨a, dx, p, xs, rfl, ha, hp, hx, ok⟩ := h
  exact ⟨a, dx, p, xs, rfl, ins_mono hD e ha, sqT_mono hD e hp, Rows.mono hD e hx, ok⟩
def spEndI (K : PySem.W.Frag) (side : Str) : Sp := fun vs H Q _ => ∃ (x dx p : Addr) (xs : List V) (rs : List Rw), vs = [.ref x, .str side, .ref p] ∧ H x = some (.ins (endC K side) dx []) ∧ SqT K H p xs ∧ Rows K H xs rs ∧ RsOk side rs ∧
  ∀ H', ExB x H H' → H' x = some (.ins (endC K side) dx (endF side p)) → Q .non H'
/-- Sender.__init__, the rows in a tuple -/
def spEndJ (K : PySem.W.Frag) (side : Str) : Sp := fun vs H Q _ => ∃ (x dx p : Addr) (xs : List V) (rs : List Rw), vs = [.ref x, .ref p] ∧ H x = some (.ins (endC K side) dx []) ∧ SqT K H p xs ∧ Rows K H xs rs ∧ RsOk side rs ∧
  ∀ H', ExB x H H' → H' x = some (.ins (endC K side) dx (endF side p)) → Q .non H'
def spEndS (K : PySem.W.Frag) (side : Str) : Sp := fun vs H Q E => ∃ ws rest, vs = ws ++ rest ∧ ws.length = 1 ∧ rest.length ≤ sizeLine ∧ ∀ p, H p = Option.none → spEndJ K side (ws ++ [V.ref p]) (upd H p (.tup rest)) Q E
theorem endS_make {K : PySem.W.Frag} {H : Hp} {side : Str} {rs : List Rw} {xs : List V} {Q : VK} {E : XK} (hx : Rows K H xs rs) (ok : RsOk side rs) (q : ∀ v H2, Ex H H2 → IsEnd K H2 v side rs → Q v H2) :
    ∀ x dx, H x = none → H dx = none → dx ≠ x → spEndS K side (.ref x :: xs) (upd (upd H dx (.own x)) x (.ins (endC K side) dx [])) (fun v H2 => v = .non ∧ Q (.ref x) H2) E := fun x dx nx ndx ne => by
  have hl := hx.len
  have := ok.len
  refine ⟨[.ref x], xs, rfl, rfl, Nat.le_trans (by omega : xs.length ≤ 30) (by decide), fun p hpn => ?_⟩
  have ex1 : Ex H (upd (upd H dx (.own x)) x (.ins (endC K side) dx [])) := (Ex.new ndx).trans (Ex.new (by rw [upd_ne (Ne.symm ne)]; exact nx))
  have ex2 := ex1.trans (Ex.new (o := .tup xs) hpn)
  have xp : x ≠ p := fun z => by
    rw [← z, upd_same] at hpn
    cases hpn
  have hx0 : (upd (upd (upd H dx (.own x)) x (.ins (endC K side) dx [])) p (.tup xs)) x = some (.ins (endC K side) dx []) := by rw [upd_ne xp, upd_same]
  refine ⟨x, dx, p, xs, rs, rfl, hx0, .inl (.inl upd_same), hx.ex ex2, ok, fun H' eb hx' => ⟨rfl, q _ H' ?_ ⟨x, dx, p, xs, rfl, hx', .inl (.inl (eb p _ (Ne.symm xp) upd_same)), hx.ex ?_, ok⟩⟩⟩
  · exact fun b o hb => eb b o (fun z => by rw [z, nx] at hb; cases hb) (ex2 b o hb)
  · exact fun b o hb => eb b o (fun z => by rw [z, nx] at hb; cases hb) (ex2 b o hb)
section
variable {w : World} {K : PySem.W.Frag} {mg : Str → Option Value} {base : Heap}
theorem side_cases {side : Str} {P : Str → Prop} (h : IsSide side) (h1 : P "sender") (h2 : P "receiver") : P side := by
  rcases h with rfl | rfl
  · exact h1
  · exact h2
theorem endC_s : endC K "sender" = He.ga K "Sender" := if_pos rfl
theorem endC_r : endC K "receiver" = He.ga K "Receiver" := if_neg (by decide +kernel)
theorem cls_End (T : TX K mg base) {side : Str} (h : IsSide side) : Cls K (endC K side) := side_cases (P := fun s => Cls K (endC K s)) h (by rw [endC_s]; exact ⟨T.pg_Sender, T.hd_Sender, T.po_Sender, T.sa_Sender⟩) (by rw [endC_r]; exact ⟨T.pg_Receiver, T.hd_Receiver, T.po_Receiver, T.sa_Receiver⟩)
theorem no_own_side (T : TX K mg base) {side : Str} (h : IsSide side) : NoAttr K (endC K side) "own_side" := side_cases (P := fun s => NoAttr K (endC K s) "own_side") h (by rw [endC_s]; exact T.no_Sender_own_side) (by rw [endC_r]; exact T.no_Receiver_own_side)
theorem no_own_rows (T : TX K mg base) {side : Str} (h : IsSide side) : NoAttr K (endC K side) "own_rows" := side_cases (P := fun s => NoAttr K (endC K s) "own_rows") h (by rw [endC_s]; exact T.no_Sender_own_rows) (by rw [endC_r]; exact T.no_Receiver_own_rows)
theorem k_End_init (T : TX K mg base) {side : Str} : FnR RP w K mg base CX0 6 (He.ma K (He.ga K "End") "__init__") (spEndI K side) := by
  refine fr_of (N := ["self", "side", "rows"]) (ps := ["self", "side", "rows"]) T.d_End_init ⟨rfl, rfl, rfl, by decide +kernel, rfl, by decide +kernel, by decide +kernel⟩ (fun vs H Q E h => by obtain ⟨x, dx, p, xs, rs, rfl, _⟩ := h; rfl) (fun _ _ _ _ _ _ us hl => match us, hl with | [_, _, _], _ => rfl) fun cdv A outer s H vs Q E hr h => ⟨_,
    pss_cons (ps_expr (pe_g (k_need_rows T) hr (pa_cons (pv 1) (pa_cons (pv 2) pa_nil)))) (pss_cons (ps_fld (pv 0) (pv 1) rfl) (pss_one (ps_fld (pv 0) (pv 2) rfl))), ?_⟩
  obtain ⟨x, dx, p, xs, rs, rfl, hx, hp, hrs, ok, hq⟩ := h
  have := ok.len
  refine Evl.q_drop (ev_g (Evl.ea_cons (Evl.ev_var rfl) (Evl.ea_cons (Evl.ev_var rfl) Evl.ea_nil)) (sv_needRows hp hrs ok.sd ok.ok ok.nd (by omega))) fun H1 e1 => ?_
  refine s_fldQ (Evl.ev_var rfl) (Evl.ev_var rfl) (e1 _ _ hx) (cls_End T ok.sd) (no_own_side T ok.sd) (by decide : ([] : List (Str × V)).length < 1000) fun H2 e2 => ?_
  refine s_fld (Evl.ev_var rfl) (Evl.ev_var rfl) upd_same (cls_End T ok.sd) (no_own_rows T ok.sd) (putF_lt (by decide : ([] : List (Str × V)).length < 999)) fun H3 e3 => ?_
  exact hq _ ((ExB.of (e1.trans e2)).upd.trans (ExB.of e3)).upd upd_same
theorem k_Sender_init (T : TX K mg base) : FnR RP w K mg base CX0 7 (He.ma K (He.ga K "Sender") "__init__") (spEndS K "sender") := by
  obtain ⟨kp, oc, od, kV, doc, pm, an, cdv, ct, cc, osl, cl, cld, csl, lk, hcd, hcc⟩ := T.d_Sender_init
  refine fn_suStar (N := ["self", "rows"]) (ps := ["self"]) (pv := "rows") (sp := spEndJ K "sender") lk hcd hcc (suScope_by (by decide +kernel)) StX.cxUp_none (fun us rest hl => ?_) fun A outer s H vs Q E hr h => ⟨_,
    psu_super (su_def lk hcc T.file_Sender T.ic_Sender T.f_super rfl rfl rfl rfl) rfl rfl (Or.inl rfl) rfl (pa_cons pe_str (pa_cons (pv 1) pa_nil)) pss_nil, ?_⟩
  · match us, hl, rest with
    | [_], _, [] => rfl
    | [_], _, _ :: _ => rfl
  obtain ⟨x, dx, p, xs, rs, rfl, hx, hp, hrs, ok, hq⟩ := h
  rw [endC_s] at hx
  refine ⟨x, He.ga K "Sender", dx, [], 6, spEndI K "sender", rfl, hx, ⟨T.sub_Sender, _, T.sup_Sender, T.tf_End, T.fi_End_init, k_End_init T⟩, hr, T.tpAny, ?_⟩
  refine ⟨_, rfl, x, dx, p, xs, rs, rfl, by rw [endC_s]; exact hx, hp, hrs, ok, hq⟩
theorem k_Receiver_init (T : TX K mg base) : FnR RP w K mg base CX0 7 (He.ma K (He.ga K "Receiver") "__init__") (spEndS K "receiver") := by
  obtain ⟨kp, oc, od, kV, doc, pm, an, cdv, ct, cc, osl, cl, cld, csl, lk, hcd, hcc⟩ := T.d_Receiver_init
  refine fn_suStar (N := ["self", "rows"]) (ps := ["self"]) (pv := "rows") (sp := spEndJ K "receiver") lk hcd hcc (suScope_by (by decide +kernel)) StX.cxUp_none (fun us rest hl => ?_) fun A outer s H vs Q E hr h => ⟨_,
    psu_super (su_def lk hcc T.file_Receiver T.ic_Receiver T.f_super rfl rfl rfl rfl) rfl rfl (Or.inl rfl) rfl (pa_cons pe_str (pa_cons (pv 1) pa_nil)) pss_nil, ?_⟩
  · match us, hl, rest with
    | [_], _, [] => rfl
    | [_], _, _ :: _ => rfl
  obtain ⟨x, dx, p, xs, rs, rfl, hx, hp, hrs, ok, hq⟩ := h
  rw [endC_r] at hx
  refine ⟨x, He.ga K "Receiver", dx, [], 6, spEndI K "receiver", rfl, hx, ⟨T.sub_Receiver, _, T.sup_Receiver, T.tf_End, T.fi_End_init, k_End_init T⟩, hr, T.tpAny, ?_⟩
  refine ⟨_, rfl, x, dx, p, xs, rs, rfl, by rw [endC_r]; exact hx, hp, hrs, ok, hq⟩
theorem mk_Sender (T : TX K mg base) : Mk K (endC K "sender") (He.ma K (He.ga K "Sender") "__init__") := by rw [endC_s]; exact ⟨T.mk_Sender, T.at_Sender_init, T.fn_Sender_init, T.kp_Sender⟩
theorem mk_Receiver (T : TX K mg base) : Mk K (endC K "receiver") (He.ma K (He.ga K "Receiver") "__init__") := by rw [endC_r]; exact ⟨T.mk_Receiver, T.at_Receiver_init, T.fn_Receiver_init, T.kp_Receiver⟩
def spEndRead (K : PySem.W.Frag) (side : Str) : Sp := fun vs H Q _ => ∃ (rs : List Rw), vs = [.ref (endC K side), .str (pageT rs)] ∧ RsOk side rs ∧ ∀ v H', Ex H H' → IsEnd K H' v side rs → Q v H'
theorem sp_endRead {K : PySem.W.Frag} {H : Hp} {side : Str} {rs : List Rw} (ok : RsOk side rs) : SpP (spEndRead K side) [.ref (endC K side), .str (pageT rs)] H (fun v H' => IsEnd K H' v side rs) := fun H1 e Q k E => ⟨rs, rfl, ok, fun v H2 e2 z => k v H2 e2 z⟩
theorem sc_Sender_read : FnScope ["cls", "text", "rows"] ["cls", "text"] (defScope s_Sender_read) := ⟨rfl, rfl, rfl, by decide +kernel, rfl, by decide +kernel, by decide +kernel⟩
theorem sc_Receiver_read : FnScope ["cls", "text", "rows"] ["cls", "text"] (defScope s_Receiver_read) := ⟨rfl, rfl, rfl, by decide +kernel, rfl, by decide +kernel, by decide +kernel⟩
theorem k_Sender_read (T : TX K mg base) : FnR RP w K mg base CX0 12 (cmA K (He.ga K "Sender") "read") (spEndRead K "sender") := by
  refine fr_of T.d_Sender_read sc_Sender_read (fun vs H Q E h => by obtain ⟨rs, rfl, _⟩ := h; rfl) (fun _ _ _ _ _ _ us hl => match us, hl with | [_, _], _ => rfl) fun cdv A outer s H vs Q E hr h => ⟨_,
    pss_cons (ps_set (i := 2) sc_Sender_read.nd rfl (Or.inl rfl) (pe_g (k_rows_in T) (hr.mono (by decide)) (pa_cons (pv 1) (pa_cons pe_str pa_nil))))
    (pss_one (ps_ret (pe_lmakeS (i := 0) rfl (Or.inl rfl) (pv 2)))), ?_⟩
  obtain ⟨rs, rfl, ok, hq⟩ := h
  refine q_asgG (ep_g (Evl.ea_cons (Evl.ev_var rfl) (Evl.ea_cons Evl.ev_c Evl.ea_nil)) (sp_rowsIn ok.sd ok.ok ok.len)) fun v H1 e1 ⟨p, xs, ev, hp, hx⟩ => ?_
  subst ev
  refine ⟨endC K "sender", _, 7, spEndS K "sender", rfl, mk_Sender T, k_Sender_init T, hr.mono (by decide), ?_⟩
  refine Evl.ev_var rfl H1 (Ex.refl _) _ fun H2 e2 => ⟨p, xs, rfl, .inr (Evl.sq_of (e2 _ _ hp)), endS_make (hx.ex e2) ok fun v H3 e3 z => hq v H3 ((e1.trans e2).trans e3) z⟩
theorem k_Receiver_read (T : TX K mg base) : FnR RP w K mg base CX0 12 (cmA K (He.ga K "Receiver") "read") (spEndRead K "receiver") := by
  refine fr_of T.d_Receiver_read sc_Receiver_read (fun vs H Q E h => by obtain ⟨rs, rfl, _⟩ := h; rfl) (fun _ _ _ _ _ _ us hl => match us, hl with | [_, _], _ => rfl) fun cdv A outer s H vs Q E hr h => ⟨_,
    pss_cons (ps_set (i := 2) sc_Receiver_read.nd rfl (Or.inl rfl) (pe_g (k_rows_in T) (hr.mono (by decide)) (pa_cons (pv 1) (pa_cons pe_str pa_nil))))
    (pss_one (ps_ret (pe_lmakeS (i := 0) rfl (Or.inl rfl) (pv 2)))), ?_⟩
  obtain ⟨rs, rfl, ok, hq⟩ := h
  refine q_asgG (ep_g (Evl.ea_cons (Evl.ev_var rfl) (Evl.ea_cons Evl.ev_c Evl.ea_nil)) (sp_rowsIn ok.sd ok.ok ok.len)) fun v H1 e1 ⟨p, xs, ev, hp, hx⟩ => ?_
  subst ev
  refine ⟨endC K "receiver", _, 7, spEndS K "receiver", rfl, mk_Receiver T, k_Receiver_init T, hr.mono (by decide), ?_⟩
  refine Evl.ev_var rfl H1 (Ex.refl _) _ fun H2 e2 => ⟨p, xs, rfl, .inr (Evl.sq_of (e2 _ _ hp)), endS_make (hx.ex e2) ok fun v H3 e3 z => hq v H3 ((e1.trans e2).trans e3) z⟩
end
end Mp
set_option maxHeartbeats 4000000
/-! Defs: End.__iter__, __len__, __contains__. -/
namespace Mp
open PySem PySem.Spec PyProof.Rows L2
open Evl (Ex Ev EvL EvU EvT EvA RV SpV given)

section
variable {P : Program} {w : World} {K : PySem.W.Frag} {mg : Str → Option Value} {base : Heap} {k : Nat} {f : Addr} {x qual : Str} {st : Stmt} {N ps : List Str}
/-- one call of a def, its promise of this very heap -/
theorem call_sh {fd : FuncData} {A : Around} {outer : List Env} {s : Shared} {H : Hp} {us : List Value} {vs : List V} {Q : VK} (F : FunD K x qual (defArgs st) (defBody st) (defScope st) [] [] f fd) (S : FnScope N ps (defScope st)) (hr : Room (k + 1) A) (e0 : Env0 P w K mg base A outer s H) (r : Vals vs us) (hl : vs.length = ps.length)
    (hb : bindArgs fd ⟨us, []⟩ = pure (ps.zip us)) (body : ∀ cdv : Value, Room k (A.deeper (envOfC qual (defScope st) s.heap.objs.size f cdv)) → ∃ t, PSs (cxOf CX0 P w K mg base N qual (defScope st) f cdv A outer s H E0) (defBody st) t ∧ t { nx := fun _ H' => Q .non H', rt := Q } (start N vs) H) :
    codeAny (model P w) A (.call (.ref f) ⟨us, []⟩) (CR CX0 outer P w H s Q E0) s := by
  obtain ⟨oc, od, dV, kV, doc, pm, an, cdv, ct, osl, rfl, lk, hcd, _, _⟩ := F.ex
  have inK : K.In s.heap := PySem.W.Frag.In.keeps e0.mod.kin fun b o z => (e0.bs b o z).1
  have nl : s.heap.NoLimit := e0.mod.nolimit.keeps fun b o z => (e0.bs b o z).1
  refine codeAny_call_function hr.depth (inK _ _ lk) rfl S.co S.gen rfl (PySem.W.codeRec_of inK hcd) ?_
  rw [hb]
  refine wpAny_pure ?_
  refine wpAny_newFunctionEnv_cells S.kind (fun y hy => (S.par y.1 (List.of_mem_zip hy).1).imp id fun q => ⟨q, PySem.W.cellsFrom_some _ _ _ (.inl q)⟩) fun env he s1 z => ?_
  subst he
  obtain ⟨t, ht, hq⟩ := body cdv (hr.deeper _)
  refine ⟨nl.keeps z.toInCall.keep, codeAny_func (wpAny_mono (ht.run [] s1 _ _ _ (inv_start S hr.hd e0 hl r z) hq) (fun fl s' hs => ?_) fun e s' hs => hs)⟩
  have done : ∀ {τ : L2.St} {G : Hp} {y : V} {u : Value}, Inv (cxOf CX0 P w K mg base N qual (defScope st) f cdv A outer s H E0) [] τ G s' → RelV y u → Q y G → CE outer P w H s Q u s' := fun {τ G y u} J a b => ⟨y, G, J.os, J.bare, J.base, J.hok, a, b⟩
  match fl, hs with
  | .ret u, ⟨y, τ, G, J, a, b⟩ => exact done J a b
  | .next, ⟨τ, G, J, b⟩ => exact done (y := .non) (u := .none) J rfl b
  | .brk, ⟨_, _, _, b⟩ => exact b.elim
  | .cont, ⟨_, _, _, b⟩ => exact b.elim
end
section
variable {w : World} {K : PySem.W.Frag} {mg : Str → Option Value} {base : Heap} {side : Str}
theorem at_end {m : Str} {g : Addr} (h : IsSide side) (h1 : PySem.W.findIn K (.ref (He.ga K "Sender")) m = some (some (.ref g))) (h2 : PySem.W.findIn K (.ref (He.ga K "Receiver")) m = some (some (.ref g))) : PySem.W.findIn K (.ref (endC K side)) m = some (some (.ref g)) :=
  side_cases (P := fun s => PySem.W.findIn K (.ref (endC K s)) m = some (some (.ref g))) h (by rw [endC_s]; exact h1) (by rw [endC_r]; exact h2)
theorem itf_End (T : TX K mg base) (h : IsSide side) : ItF RP w K mg base 1 (endC K side) "own_rows" := by
  refine ⟨_, at_end h T.at_Sender_iter T.at_Receiver_iter, T.fn_End_iter, fun A outer s H a dx t fs xs hr e0 ha hf hx => ?_⟩
  obtain ⟨fd, F⟩ := T.d_End_iter
  refine call_sh (N := ["self"]) (ps := ["self"]) (vs := [.ref a]) F ⟨rfl, rfl, rfl, by decide +kernel, rfl, by decide +kernel, by decide +kernel⟩ hr e0 (.cons rfl .nil) rfl ?_ fun cdv hr' => ⟨_, pss_one (ps_ret (pe_callB call_iterT rfl T.f_iter (by decide +kernel) (pa_cons (pe_fld (pv 0) rfl) pa_nil))), ?_⟩
  · obtain ⟨oc, od, dV, kV, doc, pm, an, cdv, ct, osl, rfl, lk, hcd, hd, hk⟩ := F.ex
    rcases hd with ⟨_, rfl⟩ | ⟨e, _⟩
    · rfl
    · exact absurd rfl e
  · exact ⟨.ref a, rfl, a, endC K side, dx, fs, .ref t, rfl, ha, cls_End T h, no_own_rows T h, hf, t, xs, rfl, hx, fun it hn hle => ⟨it, rfl, rfl, hn, hle⟩⟩
def spEndLen (K : PySem.W.Frag) : Sp := fun vs H Q _ => ∃ (v : V) (side : Str) (rs : List Rw), vs = [v] ∧ IsEnd K H v side rs ∧ ∀ H', Ex H H' → Q (.int (rs.length : Int)) H'
theorem sv_endLen {H : Hp} {v : V} {rs : List Rw} (h : IsEnd K H v side rs) : SpV (spEndLen K) [v] H (.int (rs.length : Int)) := fun H1 e Q k E => ⟨v, side, rs, rfl, h.ex e, fun H2 e2 => k H2 e2⟩
theorem og_endLen (T : TX K mg base) (h : IsSide side) : OG RP w K mg base 1 (endC K side) "__len__" (spEndLen K) := by
  refine ⟨_, at_end h T.at_Sender_len T.at_Receiver_len, T.fn_End_len, T.fi_End_len, fr_of (N := ["self"]) (ps := ["self"]) T.d_End_len ⟨rfl, rfl, rfl, by decide +kernel, rfl, by decide +kernel, by decide +kernel⟩ (fun vs H Q E h => by obtain ⟨v, side, rs, rfl, _⟩ := h; rfl) (fun _ _ _ _ _ _ us hl => match us, hl with | [_], _ => rfl) fun cdv A outer s H vs Q E hr h => ⟨_,
    pss_one (ps_ret (pe_callB (r := Evl.rLenS K) call_len_seq rfl T.f_len PySem.boot_len (pa_cons (pe_fld (pv 0) rfl) pa_nil))), ?_⟩⟩
  obtain ⟨v, side, rs, rfl, hv, hq⟩ := h
  obtain ⟨a, dx, p, xs, rfl, ha, hp, hx, ok⟩ := hv
  refine Evl.s_ret (Evl.ev_is (ev_lenT (ev_fld (Evl.ev_var rfl) ha (cls_End T ok.sd) (no_own_rows T ok.sd) rfl) (.inr hp)) ?_) hq
  rw [hx.len]
/-- what may be asked for in an end: a row, or a value that is none -/
def InOk (K : PySem.W.Frag) (H : Hp) (v : V) (o : Option Rw) : Prop := match o with
  | some r => IsRow K H v r
  | none => ∃ t, TyX K H v t ∧ PySem.W.kitOne K t (.ref (He.ga K "Row")) = some false
def spEndIn (K : PySem.W.Frag) : Sp := fun vs H Q _ => ∃ (v u : V) (side : Str) (rs : List Rw) (o : Option Rw), vs = [v, u] ∧ IsEnd K H v side rs ∧ (∀ H', Ex H H' → InOk K H' u o) ∧ ∀ H', Ex H H' → Q (.bl (o.any fun r => rs.contains r)) H'
theorem sv_endIn {H : Hp} {v u : V} {rs : List Rw} {o : Option Rw} (h : IsEnd K H v side rs) (hu : ∀ H', Ex H H' → InOk K H' u o) : SpV (spEndIn K) [v, u] H (.bl (o.any fun r => rs.contains r)) := fun H1 e Q k E => ⟨v, u, side, rs, o, rfl, h.ex e, fun H' e' => hu H' (e.trans e'), fun H2 e2 => k H2 e2⟩
theorem rv_eqO {X : Cx} {H : Hp} {n : Nat} {sp : Sp} {C dx a : Addr} {fs : List (Str × V)} {t : Value} {y : V} {b : Bool} (ha : H a = some (.ins C dx fs)) (ty : ∀ H1, Ex H H1 → TyL X.K H1 y t) (nf : PySem.W.notFirst X.K C t = true) (G : OG X.prog X.w X.K X.mg X.base n C "__eq__" sp) (hr : Room n X.A) (hs : SpV sp [.ref a, y] H (.bl b)) :
    RV (rEqO X) (.ref a) y H (.bl b) := fun H1 e Q q => ⟨a, C, dx, fs, n, sp, t, rfl, e _ _ ha, ty H1 e, nf, G, hr, hs H1 e _ (fun H2 e2 => ⟨b, rfl, q H2 e2⟩) E0⟩
theorem sc_End_contains : FnScope ["self", "row", "other"] ["self", "row"] (defScope s_End_contains) := ⟨rfl, rfl, rfl, by decide +kernel, rfl, by decide +kernel, by decide +kernel⟩
theorem og_endIn (T : TX K mg base) (h : IsSide side) : OG RP w K mg base 3 (endC K side) "__contains__" (spEndIn K) := by
  refine ⟨_, at_end h T.at_Sender_contains T.at_Receiver_contains, T.fn_End_contains, T.fi_End_contains, fr_of T.d_End_contains sc_End_contains (fun vs H Q E h => by obtain ⟨v, u, side, rs, o, rfl, _⟩ := h; rfl) (fun _ _ _ _ _ _ us hl => match us, hl with | [_, _], _ => rfl) fun cdv A outer s H vs Q E hr h => ⟨_,
    pss_one (ps_ret (pe_and (pe_callB (r := rIsi K) call_isi rfl T.f_isinstance (by decide +kernel) (pa_cons (pv 1) (pa_cons (pe_gR T.g_Row) pa_nil))) (pe_one (pe_callB (cr_any rfl) rfl T.f_any (by decide +kernel) (pa_cons (pe_lc (own := [("other", 2)]) (g := gName 2) (tt := tYes) rfl sc_End_contains.nd (pi_tup (pe_fld (pv 0) rfl)) (blkOk_by (own := [("other", 2)]) (N := ["self", "row", "other"]) (sc := defScope s_End_contains) (by decide +kernel))
        (fun _ _ _ _ _ => pg_name (i := 2) sc_End_contains.nd rfl (Or.inl rfl)) (fun _ _ _ _ _ => pts_nil) (fun _ _ _ _ _ => pe_cmpR (r := rEqO (cxOf CX0 RP w K mg base ["self", "row", "other"] "End.__contains__" (defScope s_End_contains) (He.ma K (He.ga K "End") "__contains__") cdv A outer s H E).nox) op_eqO (pv 1) (pv 2) (nomark _))) pa_nil))))), ?_⟩⟩
  obtain ⟨v, u, side, rs, o, rfl, hv, hu, hq⟩ := h
  obtain ⟨a, dx, p, xs, rfl, ha, hp, hx, ok⟩ := hv
  have hl := hx.len
  have := ok.len
  cases o with
  | none =>
    refine Evl.s_ret (Evl.ev_is (Evl.ev_andV (a := false) (b := false) (fun H1 e1 Q q => ?_) fun z => by cases z) rfl) hq
    obtain ⟨t, ty, hk⟩ := hu H1 e1
    exact ⟨u, rfl, u, .ref (He.ga K "Row"), t, .ref (He.ga K "Row"), false, rfl, .own _, ty, hk, q H1 (Ex.refl H1)⟩
  | some r =>
    have hr0 := hu H (Ex.refl H)
    refine Evl.s_ret (Evl.ev_is (Evl.ev_andV (a := true) (b := rs.contains r) (ev_isiC (Evl.ev_var rfl) (fun H1 e => tyx_row T (hu H1 e)) T.kit_Row_Row) fun _ => Evl.ev_is (ev_any (bs := ((List.range xs.length).filter fun _ => true).map fun k => decide (r = rs.getD k r)) ?_) (congrArg V.bl ?_)) rfl) hq
    · rw [← given_bools]
      refine el_lcT (K := K) (j := 2) (vs := [2]) (xs := xs) (fun _ => true) _ (ev_fld (Evl.ev_var rfl) ha (cls_End T ok.sd) (no_own_rows T ok.sd) rfl) hp (by omega) (fun _ => rfl) fun k v H4 e4 hv => ⟨fun H5 e5 Q q => q H5 (Ex.refl H5), fun _ => ?_⟩
      obtain ⟨q, hq2, isr⟩ := hx.get hv
      have hg2 : rs.getD k r = q := by rw [List.getD_eq_getElem?_getD, hq2]; rfl
      rw [hg2]
      obtain ⟨b, dxb, _, _, _, _, _, rfl, hb, _⟩ := id hr0
      exact Evl.ev_op (Evl.ev_var rfl) (Evl.ev_var rfl) (rv_eqO (e4 _ _ hb) (fun H1 e => .inl (tyx_row T (isr.ex (e4.trans e)))) T.nf_Row_Row (og_rowEq T) (hr.mono (by decide)) (sv_rowEq (hr0.ex e4) (isr.ex e4)))
    · rw [any_given, hl, range_any rs (fun q => decide (r = q)) _ (fun k x e => by rw [List.getD_eq_getElem?_getD, e]; rfl)]
      rw [Bool.eq_iff_iff, List.any_eq_true, List.contains_iff_mem]
      exact ⟨fun ⟨q, hq, e⟩ => by rw [of_decide_eq_true e]; exact hq, fun hm => ⟨r, hm, decide_eq_true rfl⟩⟩
end
end Mp
set_option maxHeartbeats 4000000
/-! Def: End.__eq__. -/
namespace Mp
open PySem PySem.Spec PyProof.Rows L2
open Evl (Ex Ev EvL EvU EvT EvA RV SpV given)

/-- .. what holds where both are one object is asked of the run -/
def DInsI (X : Cx) (n : Nat) (C : Addr) : EqvB := fun x y b H => ∃ (p q dp dq : Addr) (fs gs : List (Str × V)) (sp : Sp), x = .ref p ∧ y = .ref q ∧ H p = some (.ins C dp fs) ∧ H q = some (.ins C dq gs) ∧
  OG X.prog X.w X.K X.mg X.base n C "__eq__" sp ∧ (p = q → ∀ H', Ex H H' → ∀ pins s σ, Inv X pins σ H' s → b = true) ∧ Evl.SpV sp [.ref p, .ref q] H (.bl b)
section
variable {X : Cx} {n : Nat}
theorem mon_insI {C : Addr} : MonB (DInsI X n C) := fun x y b H H' e ⟨p, q, dp, dq, fs, gs, sp, h1, h2, h3, h4, h5, h6, h7⟩ =>
  ⟨p, q, dp, dq, fs, gs, sp, h1, h2, e _ _ h3, e _ _ h4, h5, fun z H1 e1 => h6 z H1 (Evl.Ex.trans e e1), fun H1 e1 => h7 H1 (Evl.Ex.trans e e1)⟩
theorem eqB_insI {C : Addr} : EqB X n (DInsI X n C) := by
  intro A pins s σ H x y b u v sb I rx ry d
  obtain ⟨p, q, dp, dq, fs, gs, sp, rfl, rfl, hp, hq, G, hpq, hs⟩ := d
  obtain rfl : u = Value.ref p := rx
  obtain rfl : v = Value.ref q := ry
  by_cases e : p = q
  · have hb := hpq e H (Ex.refl H) pins s σ I
    subst e
    subst hb
    exact SeqAt.EqAt.same (A := A) (s := s) (.ref p) X.prog X.w X.xe _ ⟨rfl, H, I, Ext.rfl'⟩
  · refine eqB_ins A pins s σ H (.ref p) (.ref q) b _ _ sb I rfl rfl ⟨p, q, dp, dq, fs, gs, sp, rfl, rfl, hp, hq, G, fun z => absurd z e, hs⟩
theorem iV_inj {a b : Nat} (h : iV a = iV b) : a = b := by
  injection h with h
  exact Int.ofNat.inj h
theorem iVs_inj : ∀ {l m : List Nat}, l.map iV = m.map iV → l = m
  | [], [], _ => rfl
  | [], _ :: _, h => by simp at h
  | _ :: _, [], h => by simp at h
  | a :: l, b :: m, h => by
    injection h with h1 h2
    rw [iV_inj h1, iVs_inj h2]
/-- one object is one row -/
theorem IsRow.uni {pins : List (Addr × Obj)} {σ : L2.St} {H : Hp} {s : Shared} (I : Inv X pins σ H s) {v : V} {r q : Rw} (h : IsRow X.K H v r) (k : IsRow X.K H v q) : r = q := by
  obtain ⟨a, dx, pd, pe, pf, pk, xs, rfl, ha, hk, hp, side, hsd, ok⟩ := h
  obtain ⟨a', dx', pd', pe', pf', pk', xs', ea, ha', hk', hp', side', hsd', ok'⟩ := k
  obtain rfl := V.ref.inj ea
  have e := Option.some.inj (ha.symm.trans ha')
  injection e with _ _ e
  unfold rowF at e
  simp only [List.cons.injEq, Prod.mk.injEq, true_and, and_true] at e
  obtain ⟨e1, e2, e3, e4, e5, e6, e7⟩ := e
  obtain rfl := V.ref.inj e5
  obtain rfl := V.ref.inj e6
  obtain rfl := V.ref.inj e7
  have ek := Option.some.inj (hk.symm.trans hk')
  injection ek with ek
  unfold keyV at ek
  simp only [List.cons.injEq, true_and, and_true] at ek
  obtain ⟨_, b, d, _⟩ := ek
  injection b with b
  injection d with d
  have h1 := iV_inj e1
  have h3 := iV_inj e3
  have h4 := rank_inj ok.hear ok'.hear b
  have h5 := iVs_inj (I.tuple_inj hp.empty hp'.empty)
  have h6 := iVs_inj (I.tuple_inj hp.full hp'.full)
  have h7 := deedsT_inj (fun d hd => (ok.deeds d hd).1) (fun d hd => (ok'.deeds d hd).1) d
  cases r
  cases q
  simp only at h1 h3 h4 h5 h6 h7
  subst h1 h3 h4 h5 h6 h7
  rfl
end
def r0 : Rw := ⟨0, none, [], [], [], 0⟩
theorem all_eqs {rs qs : List Rw} (r0 : Rw) : ((List.range (min rs.length qs.length)).all (fun i => decide (rs.getD i r0 = qs.getD i r0)) && rs.length == qs.length) = decide (rs = qs) := by
  rw [Bool.eq_iff_iff, Bool.and_eq_true, List.all_eq_true, beq_iff_eq, decide_eq_true_eq]
  constructor
  · rintro ⟨h, hl⟩
    refine List.ext_getElem? fun i => ?_
    by_cases hi : i < rs.length
    · have z := of_decide_eq_true (h i (by simp; omega))
      rw [List.getD_eq_getElem?_getD, List.getD_eq_getElem?_getD, List.getElem?_eq_getElem hi, List.getElem?_eq_getElem (by omega : i < qs.length)] at z
      rw [List.getElem?_eq_getElem hi, List.getElem?_eq_getElem (by omega : i < qs.length)]
      exact congrArg some z
    · rw [List.getElem?_eq_none (by omega), List.getElem?_eq_none (by omega)]
  · rintro rfl
    exact ⟨fun i _ => decide_eq_true rfl, rfl⟩
/-- what an end is compared with: an end, or a value that is none -/
def EqOk (K : PySem.W.Frag) (H : Hp) (v : V) (o : Option (Str × List Rw)) : Prop := match o with
  | some p => IsEnd K H v p.1 p.2
  | none => ∃ t, TyX K H v t ∧ PySem.W.kitOne K t (.ref (He.ga K "End")) = some false
def spEndEq (K : PySem.W.Frag) : Sp := fun vs H Q _ => ∃ (v u : V) (side : Str) (rs : List Rw) (o : Option (Str × List Rw)), vs = [v, u] ∧ IsEnd K H v side rs ∧ (∀ H', Ex H H' → EqOk K H' u o) ∧ ∀ H', Ex H H' → Q (.bl (decide (o = some (side, rs)))) H'
theorem sv_endEq {K : PySem.W.Frag} {H : Hp} {v u : V} {side : Str} {rs : List Rw} {o : Option (Str × List Rw)} (h : IsEnd K H v side rs) (hu : ∀ H', Ex H H' → EqOk K H' u o) : SpV (spEndEq K) [v, u] H (.bl (decide (o = some (side, rs)))) := fun H1 e Q k E => ⟨v, u, side, rs, o, rfl, h.ex e, fun H' e' => hu H' (e.trans e'), fun H2 e2 => k H2 e2⟩
section
variable {w : World} {K : PySem.W.Frag} {mg : Str → Option Value} {base : Heap} {side : Str}
theorem tyx_end (T : TX K mg base) {H : Hp} {v : V} {rs : List Rw} (h : IsEnd K H v side rs) : TyX K H v (.ref (endC K side)) := by
  obtain ⟨a, dx, p, xs, rfl, ha, hp, hx, ok⟩ := h
  rcases ok.sd with rfl | rfl
  · have c := cls_End T (.inl rfl)
    rw [endC_s] at ha c ⊢
    exact .base (.ins ha c T.cl_Sender T.ocGet T.ocTk T.ob_Sender)
  · have c := cls_End T (.inr rfl)
    rw [endC_r] at ha c ⊢
    exact .base (.ins ha c T.cl_Receiver T.ocGet T.ocTk T.ob_Receiver)
theorem kit_end (T : TX K mg base) (h : IsSide side) : PySem.W.kitOne K (.ref (endC K side)) (.ref (He.ga K "End")) = some true := side_cases (P := fun s => PySem.W.kitOne K (.ref (endC K s)) (.ref (He.ga K "End")) = some true) h (by rw [endC_s]; exact T.kit_Sender_End) (by rw [endC_r]; exact T.kit_Receiver_End)
theorem kit_end_row (T : TX K mg base) (h : IsSide side) : PySem.W.kitOne K (.ref (endC K side)) (.ref (He.ga K "Row")) = some false := side_cases (P := fun s => PySem.W.kitOne K (.ref (endC K s)) (.ref (He.ga K "Row")) = some false) h (by rw [endC_s]; exact T.kit_Sender_Row) (by rw [endC_r]; exact T.kit_Receiver_Row)
theorem og_endEq (T : TX K mg base) (h : IsSide side) : OG RP w K mg base 4 (endC K side) "__eq__" (spEndEq K) := by
  refine ⟨_, at_end h T.at_Sender_eq T.at_Receiver_eq, T.fn_End_eq, T.fi_End_eq, fr_of (N := ["self", "other"]) (ps := ["self", "other"]) T.d_End_eq ⟨rfl, rfl, rfl, by decide +kernel, rfl, by decide +kernel, by decide +kernel⟩ (fun vs H Q E h => by obtain ⟨v, u, side, rs, o, rfl, _⟩ := h; rfl) (fun _ _ _ _ _ _ us hl => match us, hl with | [_, _], _ => rfl) fun cdv A outer s H vs Q E hr h => ⟨_,
    pss_cons (ps_if (PW.pt (pw_or (pt_not (pt_val (pe_callB (r := rIsi K) call_isi rfl T.f_isinstance (by decide +kernel) (pa_cons (pv 1) (pa_cons (pe_gR T.g_End) pa_nil))))) (pw_or1 (pt_cmpR op_ne (pe_fld (pv 0) rfl) (pe_fld (pv 1) rfl) (nomark _))))) (pss_one (ps_ret pe_bl)) pss_nil)
    (pss_one (ps_ret (pe_cmpR (op_eqTB (n := 1) (D := DInsI _ 1 (He.ga K "Row")) mon_insI eqB_insI (hr.mono (by decide))) (pe_fld (pv 0) rfl) (pe_fld (pv 1) rfl) (nomark _)))), ?_⟩⟩
  obtain ⟨v, u, side, rs, o, rfl, hv, hu, hq⟩ := h
  obtain ⟨a, dx, p, xs, rfl, ha, hp, hx, ok⟩ := hv
  cases o with
  | none =>
    refine Evl.q_when (b := true) (Evl.et_is (Evl.et_or (a := true) (b := true) (Evl.et_is (Evl.et_not (Evl.et_B (b := false) fun H1 e1 Q q => ?_)) rfl) fun z => by cases z) rfl) (fun _ H1 e1 => Evl.s_ret Evl.ev_c fun H2 e2 => hq H2 (e1.trans e2)) fun z => by cases z
    obtain ⟨t, ty, hk⟩ := hu H1 e1
    exact ⟨u, rfl, u, .ref (He.ga K "End"), t, .ref (He.ga K "End"), false, rfl, .own _, ty, hk, q H1 (Ex.refl H1)⟩
  | some z =>
    obtain ⟨side2, qs⟩ := z
    have hu0 : IsEnd K H u side2 qs := hu H (Ex.refl H)
    obtain ⟨b, dxb, p2, ys, rfl, hb, hp2, hy, ok2⟩ := id hu0
    refine Evl.q_when (b := decide (side ≠ side2)) (Evl.et_is (Evl.et_or (a := false) (b := decide (side ≠ side2)) (Evl.et_is (Evl.et_not (Evl.et_B (ev_isiC (Evl.ev_var rfl) (fun H1 e => tyx_end T (hu0.ex e)) (kit_end T ok2.sd)))) rfl) fun _ => Evl.et_is (Evl.et_test (Evl.ev_op (ev_fld (Evl.ev_var rfl) ha (cls_End T ok.sd) (no_own_side T ok.sd) rfl) (ev_fld (Evl.ev_var rfl) hb (cls_End T ok2.sd) (no_own_side T ok2.sd) rfl) (Evl.rv_ne rfl))) ?_) rfl) (fun hs H1 e1 => ?_) fun hs H1 e1 => ?_
    · simp
    · have hs := of_decide_eq_true hs
      have : decide (some (side2, qs) = some (side, rs)) = false := decide_eq_false fun z => by injection z with z; injection z with z _; exact hs z.symm
      rw [this] at hq
      exact Evl.s_ret Evl.ev_c fun H2 e2 => hq H2 (e1.trans e2)
    · have hs : side = side2 := by simpa using of_decide_eq_false hs
      subst hs
      have hlx := hx.len
      have hly := hy.len
      refine Evl.s_ret (Evl.ev_is (Evl.ev_op (ev_fld (Evl.ev_var rfl) (e1 _ _ ha) (cls_End T ok.sd) (no_own_rows T ok.sd) rfl) (ev_fld (Evl.ev_var rfl) (e1 _ _ hb) (cls_End T ok.sd) (no_own_rows T ok.sd) rfl)
        (fun H2 e2 Q q => ⟨p, p2, xs, ys, fun i => decide (rs.getD i r0 = qs.getD i r0), rfl, rfl, Evl.ex_t (e1.trans e2) hp, Evl.ex_t (e1.trans e2) hp2, fun i x y h1 h2 => ?_, fun H3 e3 => q H3 e3⟩)) (congrArg V.bl ?_)) fun H2 e2 => hq H2 (e1.trans e2)
      · obtain ⟨r, hr1, rr⟩ := hx.get h1
        obtain ⟨q', hr2, qq⟩ := hy.get h2
        have g1 : rs.getD i r0 = r := by rw [List.getD_eq_getElem?_getD, hr1]; rfl
        have g2 : qs.getD i r0 = q' := by rw [List.getD_eq_getElem?_getD, hr2]; rfl
        simp only [g1, g2]
        have rr2 := rr.ex (e1.trans e2)
        have qq2 := qq.ex (e1.trans e2)
        obtain ⟨a1, dx1, _, _, _, _, _, rfl, ha1, _⟩ := id rr2
        obtain ⟨a2, dx2, _, _, _, _, _, rfl, ha2, _⟩ := id qq2
        refine ⟨a1, a2, dx1, dx2, _, _, spRowEq K, rfl, rfl, ha1, ha2, og_rowEq T, fun z H' e' pins s σ I => ?_, sv_rowEq rr2 qq2⟩
        subst z
        exact decide_eq_true (IsRow.uni I (rr2.ex e') (qq2.ex e'))
      · rw [hlx, hly, all_eqs r0, Bool.eq_iff_iff, decide_eq_true_eq, decide_eq_true_eq]
        constructor
        · rintro rfl; rfl
        · intro z
          injection z with z
          injection z with _ z
          exact z.symm
end
end Mp
set_option maxHeartbeats 4000000
/-! Defs: NoRow.__init__, End.__getitem__. -/
namespace Mp
open PySem PySem.Spec PyProof.Rows L2
open Evl (Ex Ev EvL EvU EvT EvA RV SpV given)

section
variable {w : World} {K : PySem.W.Frag} {mg : Str → Option Value} {base : Heap} {k : Nat} {f : Addr} {x qual : Str} {st : Stmt} {N ps : List Str} {sp : Sp}
/-- a def that may raise -/
theorem fr_ofX (hF : ∃ fd, FunD K x qual (defArgs st) (defBody st) (defScope st) [] [] f fd) (S : FnScope N ps (defScope st)) (len : ∀ vs H Q E, sp vs H Q E → vs.length = ps.length)
    (hb : ∀ (kV doc pm : Value) (an : Option Addr) (cdv ct : Value) (us : List Value), us.length = ps.length → bindArgs (PySem.W.fnOf x qual (defArgs st) (defBody st) (defScope st) .none kV doc pm an cdv ct) ⟨us, []⟩ = pure (ps.zip us))
    (hbody : ∀ (cdv : Value) (A : Around) (outer : List Env) (s : Shared) (H : Hp) (vs : List V) (Q : VK) (E : XK), Room k (A.deeper (envOfC qual (defScope st) s.heap.objs.size f cdv)) → sp vs H Q E →
      ∃ t, PSs (cxOf (CX RP w) RP w K mg base N qual (defScope st) f cdv A outer s H E) (defBody st) t ∧ t { nx := fun _ H' => Q .non H', rt := Q } (start N vs) H) : FnR RP w K mg base (CX RP w) (k + 1) f sp := by
  obtain ⟨fd, F⟩ := hF
  refine (FnOk.raw (F.ok S len hbody) (F.bindsN hb) .nil).imp fun vs H Q E h => ?_
  show sp (vs ++ []) H Q E
  rw [List.append_nil]
  exact h
end
section
variable {w : World} {K : PySem.W.Frag} {mg : Str → Option Value} {base : Heap} {side : Str}
theorem oex_NoRow (T : TX K mg base) : OexC K (He.ga K "NoRow") := ⟨excB_ok T.excNoRow, T.ex_sa, T.ex_be, T.ex_ty, T.ex_kp⟩
def spNoRow (C : Addr) : Sp := fun vs H Q _ => ∃ (a : Addr) (u : V), vs = [.ref a, u] ∧ H a = some (exo a C none) ∧ ∀ dx, H dx = none → dx ≠ a → Q .non (upd (upd H dx (exd dx [("at", u)])) a (exo a C (some dx)))
theorem k_NoRow_init (T : TX K mg base) : FnR RP w K mg base CX0 1 (He.ma K (He.ga K "NoRow") "__init__") (spNoRow (He.ga K "NoRow")) := by
  obtain ⟨kp, oc, od, kV, doc, pm, an, cdv, ct, cc, osl, cl, cld, csl, lk, hcd, hcc⟩ := T.d_NoRow_init
  refine fn_su (N := ["self", "at"]) (ps := ["self", "at"]) lk hcd hcc (suScope_by (by decide +kernel)) (fun vs H Q E h => by obtain ⟨a, u, rfl, _⟩ := h; rfl) (fun us hl => match us, hl with | [_, _], _ => rfl) fun A outer s H vs Q E hr h => ⟨_,
    psu_superX (su_def lk hcc T.file_NoRow T.ex_ic T.f_super rfl rfl rfl rfl) rfl rfl (Or.inl rfl) rfl (pa_cons (pv 1) pa_nil) (pss_one (ps_ost (pv 0) (pv 1))), ?_⟩
  obtain ⟨a, u, rfl, ha, hq⟩ := h
  refine ⟨a, He.ga K "NoRow", rfl, ha, oex_NoRow T, T.ex_sub, T.ex_sup, T.ex_ve, T.tpAny, u, rfl, by show 1 ≤ 1000; decide, ha, ?_⟩
  exact ⟨u, rfl, .ref a, rfl, a, He.ga K "NoRow", rfl, oex_NoRow T, T.ex_at, .inl ⟨ha, fun dx hd hne => hq dx hd hne⟩⟩
def spEndGet (K : PySem.W.Frag) : Sp := fun vs H Q E => ∃ (v u : V) (side : Str) (rs : List Rw), vs = [v, u] ∧ IsEnd K H v side rs ∧ Pl H u ∧
  ((∃ (i : Nat) (r : Rw), u = .int (i : Int) ∧ rs[i]? = some r ∧ ∀ x H', Ex H H' → IsRow K H' x r → Q x H') ∨
   (within u 0 ((rs.length : Int) - 1) = false ∧ ∀ d H', Ex H H' → H' d = some (.xd [("at", u)]) → E (.ref (He.ga K "NoRow")) (some d) H'))
theorem sc_End_getitem : FnScope ["self", "at"] ["self", "at"] (defScope s_End_getitem) := ⟨rfl, rfl, rfl, by decide +kernel, rfl, by decide +kernel, by decide +kernel⟩
theorem ox_endGet (T : TX K mg base) (h : IsSide side) : OX RP w K mg base (CX RP w) 4 (endC K side) "__getitem__" (spEndGet K) := by
  refine ⟨_, at_end h T.at_Sender_getitem T.at_Receiver_getitem, T.fn_End_getitem, T.fi_End_getitem, fr_ofX T.d_End_getitem sc_End_getitem (fun vs H Q E h => by obtain ⟨v, u, side, rs, rfl, _⟩ := h; rfl) (fun _ _ _ _ _ _ us hl => match us, hl with | [_, _], _ => rfl) fun cdv A outer s H vs Q E hr h => ⟨_,
    pss_cons (ps_if (pt_not (pt_val (pe_g (k_is_within T) (hr.mono (by decide)) (pa_cons (pv 1) (pa_cons pe_int (pa_cons (pe_op op_sub (pe_callB (r := Evl.rLenS K) call_len_seq rfl T.f_len PySem.boot_len (pa_cons (pe_fld (pv 0) rfl) pa_nil)) pe_int) pa_nil))))))
      (pss_one (ps_raise rfl (takes_of rfl rfl rfl rfl) (pmk_oexR (oex_NoRow T) T.at_NoRow_init T.ex_ti (k_NoRow_init T) (hr.mono (by decide)) rfl T.g_NoRow (pa_cons (pv 1) pa_nil)))) pss_nil)
    (pss_one (ps_ret (pe_ix ix_tup (pe_fld (pv 0) rfl) (pv 1) (fun _ _ => rfl)))), ?_⟩⟩
  obtain ⟨v, u, side, rs, rfl, hv, hu, hq⟩ := h
  obtain ⟨a, dx, p, xs, rfl, ha, hp, hx, ok⟩ := hv
  have hl := hx.len
  have ev0 : EvA (tCons (tVar 1) (tCons (tC (.int 0)) (tCons (tOp (rI0 fun i j => .int (i - j)) (tCB (Evl.rLenS K) (tCons (tFld K (tVar 0) "own_rows") tNil)) (tC (.int 1))) tNil))) (start ["self", "at"] [.ref a, u]) H [u, .int 0, .int ((xs.length : Int) - 1)] :=
    Evl.ea_cons (Evl.ev_var rfl) (Evl.ea_cons Evl.ev_c (Evl.ea_cons (Evl.ev_op (ev_lenT (ev_fld (Evl.ev_var rfl) ha (cls_End T ok.sd) (no_own_rows T ok.sd) rfl) (.inr hp)) Evl.ev_c Evl.rv_I0) Evl.ea_nil))
  rcases hq with ⟨i, r, rfl, hi, hq⟩ | ⟨hw, hq⟩
  · have hlt : i < rs.length := (List.getElem?_eq_some_iff.mp hi).1
    refine Evl.q_when (b := false) (Evl.et_is (Evl.et_not (Evl.et_B (ev_g ev0 (sv_within hu)))) ?_) (fun h => by cases h) fun _ H1 e1 => ?_
    · show (!(decide ((0 : Int) ≤ (i : Int)) && decide ((i : Int) ≤ (xs.length : Int) - 1))) = false
      rw [decide_eq_true (show (0 : Int) ≤ (i : Int) by omega), decide_eq_true (show (i : Int) ≤ (xs.length : Int) - 1 by omega)]
      rfl
    · have hlt2 : i < xs.length := by omega
      have hxi : xs[i]? = some xs[i] := List.getElem?_eq_getElem hlt2
      obtain ⟨r', hr', isr⟩ := hx.get hxi
      rw [hi] at hr'
      obtain rfl := Option.some.inj hr'
      exact Evl.s_ret (Evl.ev_op (ev_fld (Evl.ev_var rfl) (e1 _ _ ha) (cls_End T ok.sd) (no_own_rows T ok.sd) rfl) (Evl.ev_var rfl) (Evl.rv_ixT (v := xs[i]) (Evl.ex_t e1 hp) (atI_nat hxi))) fun H2 e2 => hq _ H2 (e1.trans e2) (isr.ex (e1.trans e2))
  · refine Evl.q_when (b := true) (Evl.et_is (Evl.et_not (Evl.et_B (ev_g ev0 (sv_within hu)))) ?_) (fun _ H1 e1 => ?_) fun h => by cases h
    · rw [hl, hw]
      rfl
    · refine ⟨u, rfl, by show 1 ≤ 1000; decide, fun x hx1 => ?_⟩
      refine ⟨x, u, rfl, upd_same, fun d hd hne => ⟨rfl, d, [("at", u)], upd_same, by rw [upd_ne hne, upd_same], ?_, ?_⟩⟩
      · rw [upd_ne hne] at hd
        exact hd
      · refine hq d _ (e1.trans fun b o hb => ?_) upd_same
        have nb : b ≠ x := fun z => by rw [z, hx1] at hb; cases hb
        have nd : b ≠ d := fun z => by
          rw [upd_ne hne] at hd
          rw [z, hd] at hb; cases hb
        rw [upd_ne nd, del_ne nb, upd_ne nb, upd_ne nd, upd_ne nb]
        exact hb
end
end Mp
set_option maxHeartbeats 4000000
/-! Defs: _law_pen, _law_draw, _law_pick. -/
namespace Mp
open PySem PySem.Spec PyProof.Rows L2
open Evl (Ex Ev EvL EvU EvT EvA RV SpV given)

/-- the pen at p with m draws left, its cells at c -/
def Pen (p c : Addr) (cells : List Int) (m : Nat) (H : Hp) : Prop := ∃ (step : Nat) (left : Int), H p = some (.lst [.ref c, .int (step : Int), .int left]) ∧ H c = some (.lst (cells.map V.int)) ∧ cells.length ≤ 63 ∧ step + m ≤ 100000
theorem Pen.ex {p c : Addr} {cells : List Int} {m : Nat} {H H' : Hp} (h : Pen p c cells m H) (e : Ex H H') : Pen p c cells m H' := by
  obtain ⟨a, b, h1, h2, h3, h4⟩ := h
  exact ⟨a, b, e _ _ h1, e _ _ h2, h3, h4⟩
theorem Pen.le {p c : Addr} {cells : List Int} {m n : Nat} {H : Hp} (h : Pen p c cells m H) (l : n ≤ m) : Pen p c cells n H := by
  obtain ⟨a, b, h1, h2, h3, h4⟩ := h
  exact ⟨a, b, h1, h2, h3, by omega⟩
theorem Pen.lst {p c : Addr} {cells : List Int} {m : Nat} {H : Hp} (h : Pen p c cells m H) : ∃ xs, H p = some (.lst xs) := by
  obtain ⟨a, b, h1, _⟩ := h
  exact ⟨_, h1⟩
theorem pen_ne {p c : Addr} {cells : List Int} {H : Hp} {x y : V} (h1 : H p = some (.lst [.ref c, x, y])) (h2 : H c = some (.lst (cells.map V.int))) : c ≠ p := fun z => by
  rw [z, h1] at h2
  injection h2 with h2
  injection h2 with h2
  cases cells <;> cases h2
def spDraw : Sp := fun vs H Q _ => ∃ (p c : Addr) (cells : List Int) (m n : Nat), vs = [.ref p, .int (n : Int)] ∧ 0 < n ∧ n < 1073741824 ∧ Pen p c cells (m + 1) H ∧ ∀ (d : Nat) H', d < n → ExB p H H' → Pen p c cells m H' → Q (.int (d : Int)) H'
theorem sp_draw {p c : Addr} {cells : List Int} {m n : Nat} {H : Hp} {Q : VK} {E : XK} (h : Pen p c cells (m + 1) H) (h0 : 0 < n) (h1 : n < 1073741824) (k : ∀ (d : Nat) H', d < n → ExB p H H' → Pen p c cells m H' → Q (.int (d : Int)) H') : spDraw [.ref p, .int (n : Int)] H Q E :=
  ⟨p, c, cells, m, n, rfl, h0, h1, h, k⟩
theorem mod_nat (x : Int) {n : Nat} (h : 0 < n) : ∃ d : Nat, d < n ∧ x % (n : Int) = (d : Int) := ⟨(x % (n : Int)).toNat, by have := Int.emod_lt_of_pos x (show (0 : Int) < n by omega); omega, by have := Int.emod_nonneg x (show (n : Int) ≠ 0 by omega); omega⟩
abbrev rInt1 : List V → Hp → VK → Prop := fun xs H Q => (∃ i, xs = [.int i] ∧ Q (.int i) H) ∨ ∃ k, xs = [.bl k] ∧ Q (.int (if k then 1 else 0)) H
abbrev rAbs : List V → Hp → VK → Prop := fun xs H Q => ∃ i, xs = [.int i] ∧ Q (.int (if i < 0 then -i else i)) H
section
variable {te ta tb : TE} {σ : L2.St} {H : Hp} {i j : Int} {K : PySem.W.Frag}
theorem ev_intI (h : Ev te σ H (.int i)) : Ev (tCB rInt1 (tCons te tNil)) σ H (.int i) := Evl.ev_cb (Evl.ea_cons h Evl.ea_nil) fun H1 e Q q => .inl ⟨i, rfl, q H1 (Ex.refl H1)⟩
theorem ev_intB {b : Bool} (h : Ev te σ H (.bl b)) : Ev (tCB rInt1 (tCons te tNil)) σ H (.int (if b then 1 else 0)) := Evl.ev_cb (Evl.ea_cons h Evl.ea_nil) fun H1 e Q q => .inr ⟨b, rfl, q H1 (Ex.refl H1)⟩
theorem ev_abs (h : Ev te σ H (.int i)) : Ev (tCB rAbs (tCons te tNil)) σ H (.int (if i < 0 then -i else i)) := Evl.ev_cb (Evl.ea_cons h Evl.ea_nil) fun H1 e Q q => ⟨i, rfl, q H1 (Ex.refl H1)⟩
theorem ev_ixP {p : Addr} {xs : List V} {v : V} (h : Ev te σ H (.ref p)) (hb : Ev tb σ H (.int i)) (hp : H p = some (.lst xs)) (ha : atI xs i = some v) : Ev (tOp (rIxL K) te tb) σ H v := Evl.ev_op h hb (Evl.rv_ixL (Evl.sq_of hp) ha)
end
def cellsD (l : List Int) : List PyData := l.map .int
theorem cellsD_ok : ∀ l : List Int, PyData.canLayAll0 (cellsD l) = true ∧ PyData.depthAll (cellsD l) = 0
  | [] => ⟨rfl, rfl⟩
  | n :: l => by
    have z := cellsD_ok l
    refine ⟨?_, ?_⟩
    · show (PyData.canLay0 _ && PyData.canLayAll0 (cellsD l)) = true
      rw [z.1]; rfl
    · show max (PyData.depth _) (PyData.depthAll (cellsD l)) = 0
      rw [z.2]; rfl
theorem dpAll_cells {K : PySem.W.Frag} {H : Hp} : ∀ l : List Int, DpAll K H (l.map V.int) (cellsD l)
  | [] => .nil
  | n :: l => .cons (.int _) (dpAll_cells l)
theorem cells_shaped (l : List Int) : SeqAt.shaped (.list (cellsD l)) = true := by
  unfold SeqAt.shaped
  simp only [PyData.canLay0, PyData.depth, (cellsD_ok l).1, (cellsD_ok l).2]
  decide
theorem rv_neD {K : PySem.W.Frag} {H : Hp} {x y : V} {d e : PyData} (hx : ∀ H1, Ex H H1 → Dp K H1 x d) (hy : ∀ H1, Ex H H1 → Dp K H1 y e) (sx : SeqAt.shaped d = true) (sy : SeqAt.shaped e = true) : RV (rNeD K) x y H (.bl (!PyData.eqv d e)) := fun H1 e1 Q q => ⟨d, e, hx H1 e1, hy H1 e1, sx, sy, q H1 (Ex.refl H1)⟩
section
variable {w : World} {K : PySem.W.Frag} {mg : Str → Option Value} {base : Heap}
abbrev nDr : List Str := ["_law_pen_here", "_law_many", "_law_digit", "_law_step", "_law_cell", "_law_great", "_law_mixed"]
theorem sc_draw : FnScope nDr ["_law_pen_here", "_law_many"] (defScope s_law_draw) := ⟨rfl, rfl, rfl, by decide +kernel, rfl, by decide +kernel, by decide +kernel⟩
theorem k_draw (T : TX K mg base) : FG RP w K mg base 1 "_law_draw" spDraw := by
  refine fg_of T.g_law_draw T.kf_law_draw (fr_of T.d_law_draw sc_draw (fun vs H Q E h => by obtain ⟨p, c, cells, m, n, rfl, _⟩ := h; rfl) (fun _ _ _ _ _ _ us hl => match us, hl with | [_, _], _ => rfl) fun cdv A outer s H vs Q E hr h => ⟨_,
    pss_cons (ps_if (pt_cmpR op_gt (pe_ix ix_list (pv 0) pe_int (fun _ _ => rfl)) pe_int (nomark _))
      (pss_cons (ps_set (i := 2) sc_draw.nd rfl (Or.inl rfl) (pe_op op_mod (pe_callTy call_int1 rfl T.f_int (by decide +kernel) (pa_cons (pe_ix ix_list (pv 0) pe_int (fun _ _ => rfl)) pa_nil)) (pv 1)))
      (pss_cons (ps_asg (pe_op op_fdiv (pe_callTy call_int1 rfl T.f_int (by decide +kernel) (pa_cons (pe_ix ix_list (pv 0) pe_int (fun _ _ => rfl)) pa_nil)) (pv 1)) (pg_sub (pv 0) pe_int set_list))
      (pss_one (ps_ret (pv 2))))) pss_nil)
    (pss_cons (ps_set (i := 3) sc_draw.nd rfl (Or.inl rfl) (pe_ix ix_list (pv 0) pe_int (fun _ _ => rfl)))
    (pss_cons (ps_asg (pe_op op_add (pv 3) pe_int) (pg_sub (pv 0) pe_int set_list))
    (pss_cons (ps_set (i := 4) sc_draw.nd rfl (Or.inl rfl) (pe_op op_add (pe_op op_mul pe_int (pv 3)) pe_int))
    (pss_cons (ps_if (pt_cmpR (r := rNeD K) (op_neD hr.units) (pe_ix ix_list (pv 0) pe_int (fun _ _ => rfl)) (pe_lst pa_nil) (nomark _))
      (pss_one (ps_set (i := 4) sc_draw.nd rfl (Or.inl rfl) (pe_ix ix_list (pe_ix ix_list (pv 0) pe_int (fun _ _ => rfl)) (pe_op op_mod (pe_callTy call_int1 rfl T.f_int (by decide +kernel) (pa_cons (pv 3) pa_nil)) (pe_callB (r := Evl.rLenS K) call_len_seq rfl T.f_len PySem.boot_len (pa_cons (pe_ix ix_list (pv 0) pe_int (fun _ _ => rfl)) pa_nil))) (fun _ _ => rfl)))) pss_nil)
    (pss_cons (ps_if (PW.pt (pw_and (pt_cmpR op_lt (pv 3) (pe_callB (r := Evl.rLenS K) call_len_seq rfl T.f_len PySem.boot_len (pa_cons (pe_ix ix_list (pv 0) pe_int (fun _ _ => rfl)) pa_nil)) (nomark _)) (pw_and1 (pt_cmpR op_ge (pe_callB call_abs rfl T.f_abs (by decide +kernel) (pa_cons (pv 4) pa_nil)) (pe_op op_pow pe_int pe_int) (nomark _)))))
      (pss_cons (ps_set (i := 5) sc_draw.nd rfl (Or.inl rfl) (pe_op op_add (pe_op op_mul pe_int (pe_op op_sub (pe_callB call_abs rfl T.f_abs (by decide +kernel) (pa_cons (pv 4) pa_nil)) (pe_op op_pow pe_int pe_int))) (pe_callTy call_int1 rfl T.f_int (by decide +kernel) (pa_cons (pe_cmpR op_lt (pv 4) pe_int (nomark _)) pa_nil))))
      (pss_cons (ps_asg (pe_op op_fdiv (pe_callTy call_int1 rfl T.f_int (by decide +kernel) (pa_cons (pv 5) pa_nil)) (pv 1)) (pg_sub (pv 0) pe_int set_list))
      (pss_one (ps_ret (pe_op op_mod (pe_callTy call_int1 rfl T.f_int (by decide +kernel) (pa_cons (pv 5) pa_nil)) (pv 1)))))) pss_nil)
    (pss_cons (ps_set (i := 6) sc_draw.nd rfl (Or.inl rfl) (pe_op op_mod (pe_callTy call_int1 rfl T.f_int (by decide +kernel) (pa_cons (pe_op op_pow (pe_op op_add (pe_op op_add (pe_op op_mod (pe_callTy call_int1 rfl T.f_int (by decide +kernel) (pa_cons (pv 4) pa_nil)) pe_int) (pe_op op_mul pe_int (pv 3))) pe_int) pe_int) pa_nil)) pe_int))
    (pss_cons (ps_set (i := 6) sc_draw.nd rfl (Or.inl rfl) (pe_op op_mod (pe_callTy call_int1 rfl T.f_int (by decide +kernel) (pa_cons (pe_op op_pow (pe_op op_add (pe_op op_add (pe_op op_mul (pv 6) (pe_op op_add (pe_op op_mul pe_int (pv 3)) pe_int)) (pe_op op_mul (pe_op op_mul pe_int (pv 3)) (pv 3))) pe_int) pe_int) pa_nil)) pe_int))
    (pss_one (ps_ret (pe_op op_mod (pe_callTy call_int1 rfl T.f_int (by decide +kernel) (pa_cons (pe_op op_fdiv (pv 6) pe_int) pa_nil)) (pv 1))))))))))), ?_⟩)
  obtain ⟨p, c, cells, m, n, rfl, n0, n1, ⟨step, left, hp, hc, hcl, hm⟩, hq⟩ := h
  have hcp := pen_ne hp hc
  refine Evl.q_when (b := decide (left > 0)) (Evl.et_test (Evl.ev_op (ev_ixP (v := .int left) (Evl.ev_var rfl) Evl.ev_c hp rfl) Evl.ev_c Evl.rv_I0)) (fun _ H1 e1 => ?_) fun _ H1 e1 => ?_
  · refine Evl.q_asg (v := .int (left % (n : Int))) (Evl.ev_op (ev_intI (ev_ixP (v := .int left) (Evl.ev_var rfl) Evl.ev_c (e1 _ _ hp) rfl)) (Evl.ev_var rfl) (Evl.rv_I (by omega))) fun H2 e2 => ?_
    have e12 := e1.trans e2
    refine Evl.q_setL (j := 2) (v := .int (left / (n : Int))) (e12 _ _ hp) (Evl.ev_op (ev_intI (ev_ixP (v := .int left) (Evl.ev_var rfl) Evl.ev_c (e12 _ _ hp) rfl)) (Evl.ev_var rfl) (Evl.rv_I ⟨by omega, by omega⟩)) (Evl.ev_var rfl) Evl.ev_c (by show 2 < 3; decide) fun H3 e3 => ?_
    obtain ⟨d, hd, ed⟩ := mod_nat left n0
    refine Evl.s_ret (Evl.ev_is (Evl.ev_var rfl) (congrArg V.int ed)) fun H4 e4 => hq d H4 hd ((ExB.of (e12.trans e3)).upd.trans (ExB.of e4)) ⟨step, left / (n : Int), e4 _ _ upd_same, e4 _ _ (by rw [upd_ne hcp]; exact (e12.trans e3) _ _ hc), hcl, by omega⟩
  refine Evl.q_asg (v := .int (step : Int)) (ev_ixP (Evl.ev_var rfl) Evl.ev_c (e1 _ _ hp) rfl) fun H2 e2 => ?_
  have e12 := e1.trans e2
  refine Evl.q_setL (j := 1) (v := .int ((step : Int) + 1)) (e12 _ _ hp) (Evl.ev_op (Evl.ev_var rfl) Evl.ev_c Evl.rv_I0) (Evl.ev_var rfl) Evl.ev_c (by show 1 < 3; decide) fun H3 e3 => ?_
  have eb3 : ExB p H (upd H3 p (.lst [.ref c, .int ((step : Int) + 1), .int left])) := (ExB.of (e12.trans e3)).upd
  have hp3 : (upd H3 p (.lst [.ref c, .int ((step : Int) + 1), .int left])) p = some (.lst [.ref c, .int ((step : Int) + 1), .int left]) := upd_same
  have hc3 : (upd H3 p (.lst [.ref c, .int ((step : Int) + 1), .int left])) c = some (.lst (cells.map V.int)) := by rw [upd_ne hcp]; exact (e12.trans e3) _ _ hc
  change (_ : TS) _ _ (upd H3 p (.lst [.ref c, .int ((step : Int) + 1), .int left]))
  generalize upd H3 p (.lst [.ref c, .int ((step : Int) + 1), .int left]) = H4 at eb3 hp3 hc3 ⊢
  have hs : step ≤ 100000 := by omega
  refine Evl.q_asg (v := .int (45247 * (step : Int) + 1439)) (Evl.ev_op (Evl.ev_op Evl.ev_c (Evl.ev_var rfl) (Evl.rv_I (.inl ⟨by decide, by decide⟩))) Evl.ev_c Evl.rv_I0) fun H5 e5 => ?_
  have hp5 := e5 _ _ hp3
  have hc5 := e5 _ _ hc3
  have hcell : ∃ cell : Int, (cells = [] → cell = 45247 * (step : Int) + 1439) ∧ (cells ≠ [] → (cells.map V.int)[step % cells.length]? = some (.int cell)) := by
    cases hcs : cells with
    | nil => exact ⟨_, fun _ => rfl, fun h => absurd rfl h⟩
    | cons a l =>
      have hlt : step % (a :: l).length < (a :: l).length := Nat.mod_lt _ (by simp)
      exact ⟨(a :: l)[step % (a :: l).length], (fun h => by cases h), fun _ => by rw [List.getElem?_map, List.getElem?_eq_getElem hlt]; rfl⟩
  obtain ⟨cell, hce, hcn⟩ := hcell
  refine Evl.q_ifAsg (v := .int cell) (b := decide (cells ≠ [])) (Evl.et_is (Evl.et_test (Evl.ev_opL (ev_ixP (v := .ref c) (Evl.ev_var rfl) Evl.ev_c hp5 rfl) (Evl.el_lst Evl.ea_nil (by simp)) fun q H6 hq6 e6 => rv_neD (fun H7 e7 => .lst (Evl.sq_of ((e6.trans e7) _ _ hc5)) (dpAll_cells cells)) (fun H7 e7 => .lst (Evl.sq_of (e7 _ _ hq6)) (dpAll_cells [])) (cells_shaped _) (cells_shaped _))) ?_) (fun hb => ?_) (fun hb => ?_) fun H6 e6 => ?_
  · cases cells <;> rfl
  · have hb := of_decide_eq_true hb
    have e7 : (step : Int) % ((cells.map V.int).length : Int) = ((step % cells.length : Nat) : Int) := by rw [List.length_map]; omega
    refine ev_ixP (i := ((step % cells.length : Nat) : Int)) (ev_ixP (v := .ref c) (Evl.ev_var rfl) Evl.ev_c hp5 rfl) (Evl.ev_is (Evl.ev_op (ev_intI (Evl.ev_var rfl)) (ev_lenT (ev_ixP (v := .ref c) (Evl.ev_var rfl) Evl.ev_c hp5 rfl) (.inl (Evl.sq_of hc5))) (Evl.rv_I ?_)) (congrArg V.int e7)) hc5 (atI_nat (hcn hb))
    have : 0 < cells.length := List.length_pos_iff.mpr hb
    rw [List.length_map]
    omega
  · have hb : cells = [] := by simpa using of_decide_eq_false hb
    rw [hce hb]
    rfl
  have hp6 := e6 _ _ hp5
  have hc6 := e6 _ _ hc5
  refine Evl.q_when (Evl.et_and (a := decide ((step : Int) < ((cells.map V.int).length : Int))) (b := decide ((if cell < 0 then -cell else cell) ≥ (10 : Int) ^ (18 : Int).toNat)) (Evl.et_test (Evl.ev_op (Evl.ev_var rfl) (ev_lenT (ev_ixP (v := .ref c) (Evl.ev_var rfl) Evl.ev_c hp6 rfl) (.inl (Evl.sq_of hc6))) Evl.rv_I0)) fun _ => Evl.et_test (Evl.ev_op (ev_abs (Evl.ev_var rfl)) (Evl.ev_op Evl.ev_c Evl.ev_c (Evl.rv_I ⟨by decide, by decide, by decide⟩)) Evl.rv_I0)) (fun _ H7 e7 => ?_) fun _ H7 e7 => ?_
  · have hp7 := e7 _ _ hp6
    refine Evl.q_asg (Evl.ev_op (Evl.ev_op Evl.ev_c (Evl.ev_op (ev_abs (Evl.ev_var rfl)) (Evl.ev_op Evl.ev_c Evl.ev_c (Evl.rv_I ⟨by decide, by decide, by decide⟩)) Evl.rv_I0) (Evl.rv_I (.inl ⟨by decide, by decide⟩))) (ev_intB (Evl.ev_op (Evl.ev_var rfl) Evl.ev_c Evl.rv_I0)) Evl.rv_I0) fun H8 e8 => ?_
    generalize (2 * ((if cell < 0 then -cell else cell) - (10 : Int) ^ (18 : Int).toNat) + (if decide (cell < 0) = true then 1 else 0)) = great
    refine Evl.q_setL (j := 2) (v := .int (great / (n : Int))) (e8 _ _ hp7) (Evl.ev_op (ev_intI (Evl.ev_var rfl)) (Evl.ev_var rfl) (Evl.rv_I ⟨by omega, by omega⟩)) (Evl.ev_var rfl) Evl.ev_c (by show 2 < 3; decide) fun H9 e9 => ?_
    obtain ⟨d, hd, ed⟩ := mod_nat great n0
    refine Evl.s_ret (Evl.ev_is (Evl.ev_op (ev_intI (Evl.ev_var rfl)) (Evl.ev_var rfl) (Evl.rv_I (by omega))) (congrArg V.int ed)) fun H10 e10 => hq d H10 hd ((eb3.trans (ExB.of ((((e5.trans e6).trans e7).trans e8).trans e9))).upd.trans (ExB.of e10)) ⟨step + 1, great / (n : Int), ?_, ?_, hcl, by omega⟩
    · exact e10 _ _ upd_same
    · exact e10 _ _ (by rw [upd_ne hcp]; exact (((e7.trans e8).trans e9)) _ _ hc6)
  · have b1 := Int.emod_nonneg cell (show (2147483543 : Int) ≠ 0 by decide)
    have b2 := Int.emod_lt_of_pos cell (show (0 : Int) < 2147483543 by decide)
    refine Evl.q_asg (Evl.ev_op (ev_intI (Evl.ev_op (Evl.ev_op (Evl.ev_op (Evl.ev_op (ev_intI (Evl.ev_var rfl)) Evl.ev_c (Evl.rv_I (by decide))) (Evl.ev_op Evl.ev_c (Evl.ev_var rfl) (Evl.rv_I (.inl ⟨by decide, by decide⟩))) Evl.rv_I0) Evl.ev_c Evl.rv_I0) Evl.ev_c (Evl.rv_I ⟨by decide, by decide, by omega⟩))) Evl.ev_c (Evl.rv_I (by decide))) fun H8 e8 => ?_
    generalize (cell % 2147483543 + 87045 * (step : Int) + 335) ^ (5 : Int).toNat = z5
    have c1 := Int.emod_nonneg z5 (show (2147483563 : Int) ≠ 0 by decide)
    have c2 := Int.emod_lt_of_pos z5 (show (0 : Int) < 2147483563 by decide)
    generalize z5 % 2147483563 = y1 at c1 c2 ⊢
    have p1 : 0 ≤ y1 * (2 * (step : Int) + 973) := Int.mul_nonneg c1 (by omega)
    have p2 : y1 * (2 * (step : Int) + 973) ≤ 2147483563 * 200973 := Int.mul_le_mul (by omega) (by omega) (by omega) (by omega)
    have p3 : 0 ≤ 55177 * (step : Int) * (step : Int) := Int.mul_nonneg (by omega) (by omega)
    have p4 : 55177 * (step : Int) * (step : Int) ≤ 5517700000 * 100000 := Int.mul_le_mul (by omega) (by omega) (by omega) (by omega)
    refine Evl.q_asg (Evl.ev_op (ev_intI (Evl.ev_op (Evl.ev_op (Evl.ev_op (Evl.ev_op (Evl.ev_var rfl) (Evl.ev_op (Evl.ev_op Evl.ev_c (Evl.ev_var rfl) (Evl.rv_I (.inl ⟨by decide, by decide⟩))) Evl.ev_c Evl.rv_I0) (Evl.rv_I (.inl ⟨by omega, by omega⟩))) (Evl.ev_op (Evl.ev_op Evl.ev_c (Evl.ev_var rfl) (Evl.rv_I (.inl ⟨by decide, by decide⟩))) (Evl.ev_var rfl) (Evl.rv_I (.inl ⟨by omega, by omega⟩))) Evl.rv_I0) Evl.ev_c Evl.rv_I0) Evl.ev_c (Evl.rv_I ⟨by decide, by decide, ?_⟩))) Evl.ev_c (Evl.rv_I (by decide))) fun H9 e9 => ?_
    · generalize y1 * (2 * (step : Int) + 973) = q1 at p1 p2 ⊢
      generalize 55177 * (step : Int) * (step : Int) = q2 at p3 p4 ⊢
      omega
    generalize (y1 * (2 * (step : Int) + 973) + 55177 * (step : Int) * (step : Int) + 281) ^ (3 : Int).toNat % 2147483423 = y2
    obtain ⟨d, hd, ed⟩ := mod_nat (y2 / 32) n0
    refine Evl.s_ret (Evl.ev_is (Evl.ev_op (ev_intI (Evl.ev_op (Evl.ev_var rfl) Evl.ev_c (Evl.rv_I ⟨by decide, by decide⟩))) (Evl.ev_var rfl) (Evl.rv_I (by omega))) (congrArg V.int ed)) fun H10 e10 => ?_
    have ee := (((e7.trans e8).trans e9).trans e10)
    exact hq d H10 hd (eb3.trans (ExB.of ((e5.trans e6).trans ee))) ⟨step + 1, left, ee _ _ hp6, ee _ _ hc6, hcl, by omega⟩
def spPick (K : PySem.W.Frag) : Sp := fun vs H Q _ => ∃ (p c l : Addr) (cells : List Int) (m : Nat) (xs : List V), vs = [.ref p, .ref l] ∧ H l = some (.lst xs) ∧ l ≠ p ∧ xs ≠ [] ∧ xs.length ≤ 1000 ∧ Pen p c cells (m + 1) H ∧ ∀ (i : Nat) x H', xs[i]? = some x → ExB p H H' → Pen p c cells m H' → Q x H'
theorem k_pick (T : TX K mg base) : FG RP w K mg base 2 "_law_pick" (spPick K) := by
  refine fg_of T.g_law_pick T.kf_law_pick (fr_of (N := ["_law_pen_here", "_law_some"]) (ps := ["_law_pen_here", "_law_some"]) T.d_law_pick ⟨rfl, rfl, rfl, by decide +kernel, rfl, by decide +kernel, by decide +kernel⟩ (fun vs H Q E h => by obtain ⟨p, c, l, cells, m, xs, rfl, _⟩ := h; rfl) (fun _ _ _ _ _ _ us hl => match us, hl with | [_, _], _ => rfl) fun cdv A outer s H vs Q E hr h => ⟨_,
    pss_one (ps_ret (pe_ix ix_list (pv 1) (pe_g (k_draw T) (hr.mono (by decide)) (pa_cons (pv 0) (pa_cons (pe_callB (r := Evl.rLenS K) call_len_seq rfl T.f_len PySem.boot_len (pa_cons (pv 1) pa_nil)) pa_nil))) (fun _ _ => rfl))), ?_⟩)
  obtain ⟨p, c, l, cells, m, xs, rfl, hl, hlp, hne, hz, hpen, hq⟩ := h
  have h0 : 0 < xs.length := List.length_pos_iff.mpr hne
  refine ⟨.ref l, rfl, .ref p, rfl, .ref l, rfl, l, xs, rfl, .inl (Evl.sq_of hl), p, c, cells, m, xs.length, rfl, h0, by omega, hpen, fun d H' hd eb hp' => ?_⟩
  have hxd : xs[d]? = some xs[d] := List.getElem?_eq_getElem hd
  exact ⟨l, xs, (d : Int), xs[d], rfl, rfl, Evl.sq_of (eb l _ hlp hl), atI_nat hxd, hq d _ H' hxd eb hp'⟩
def spPen (K : PySem.W.Frag) : Sp := fun vs H Q _ => ∃ (a : Addr) (is : List Int), vs = [.ref a] ∧ SqL K H a (is.map V.int) ∧ ∀ p c cells H', Ex H H' → Pen p c cells 100000 H' → Q (.ref p) H'
theorem k_pen (T : TX K mg base) : FG RP w K mg base 1 "_law_pen" (spPen K) := by
  refine fg_of T.g_law_pen T.kf_law_pen (fr_of (N := ["_law_script"]) (ps := ["_law_script"]) T.d_law_pen ⟨rfl, rfl, rfl, by decide +kernel, rfl, by decide +kernel, by decide +kernel⟩ (fun vs H Q E h => by obtain ⟨a, is, rfl, _⟩ := h; rfl) (fun _ _ _ _ _ _ us hl => match us, hl with | [_], _ => rfl) fun cdv A outer s H vs Q E hr h => ⟨_,
    pss_one (ps_ret (pe_lst (pa_cons (pe_callTy (r := Evl.rListS K) call_list_of rfl T.f_list (by decide +kernel) (pa_cons (pe_slice sl_list (pv 0) po_none (po_some pe_int)) pa_nil)) (pa_cons pe_int (pa_cons pe_int pa_nil))))), ?_⟩)
  obtain ⟨a, is, rfl, ha, hq⟩ := h
  refine ⟨.ref a, rfl, 63, rfl, a, is.map V.int, rfl, ha, fun l hl => ⟨l, _, rfl, .inl (Evl.sq_of upd_same), fun c hc => ⟨by show 3 ≤ sizeLine; decide, fun p hp => ?_⟩⟩⟩
  have ec : cutV (is.map V.int) none (some 63) = (is.take 63).map V.int := by
    unfold cutV
    rw [HT.sIx_none, show (63 : Int) = ((63 : Nat) : Int) from rfl, HT.sIx_nat, List.length_map, List.drop_zero, Nat.sub_zero, ← List.map_take]
    congr 1
    rcases Nat.le_total 63 is.length with h | h
    · rw [Nat.min_eq_left h]
    · rw [Nat.min_eq_right h, List.take_of_length_le (Nat.le_refl _), List.take_of_length_le h]
  rw [ec] at hc hp ⊢
  have e3 := ((Ex.new hl).trans (Ex.new (o := .lst ((is.take 63).map V.int)) hc)).trans (Ex.new (o := .lst [.ref c, .int 0, .int 0]) hp)
  refine hq p c (is.take 63) _ e3 ⟨0, 0, upd_same, Ex.new hp c _ upd_same, by rw [List.length_take]; omega, by omega⟩
end
end Mp
set_option maxHeartbeats 4000000
/-! Plain rows (tuples of data); what is found in a text. -/
namespace Mp
open PySem PySem.Spec PyProof.Rows L2
open Evl (Ex Ev EvL EvU EvT EvA RV SpV given)

theorem found_mid (a y b : Str) : (!(Builtin.Str.occurrences (a ++ y ++ b) y 0 (a ++ y ++ b).length 1).isEmpty) = true := by
  refine (StrLaws.found_iff _ _).mpr ⟨a.length, ?_, ?_⟩
  · simp only [Str.length_append]
    omega
  · rw [StrLaws.subAt_eq]
    have e : (a ++ y ++ b).cps.toList = a.cps.toList ++ (y.cps.toList ++ b.cps.toList) := by
      rw [Str.cps_append, Str.cps_append, Array.toList_append, Array.toList_append, List.append_assoc]
    have l1 : a.length = a.cps.toList.length := rfl
    have l2 : y.length = y.cps.toList.length := rfl
    rw [e, l1, l2, List.drop_left, List.take_left]
    exact beq_self_eq_true _
theorem join_mem (z : Str) : ∀ {l : List Str} {x : Str}, x ∈ l → ∃ a b, Str.join z l = a ++ x ++ b
  | [y], x, h => by
    obtain rfl : x = y := by simpa using h
    exact ⟨Str.empty, Str.empty, by rw [Str.empty_append, Str.append_empty]; rfl⟩
  | y :: y' :: r, x, h => by
    rw [join_cons z y (by simp)]
    rcases List.mem_cons.mp h with rfl | h
    · exact ⟨Str.empty, z ++ Str.join z (y' :: r), by rw [Str.empty_append, Str.append_assoc]⟩
    · obtain ⟨a, b, e⟩ := join_mem z h
      exact ⟨y ++ z ++ a, b, by rw [e]; simp only [Str.append_assoc]⟩
theorem take_found {ds : List Dd} {d : Dd} (h : d ∈ ds) (ht : d.isTake = true) : (!(Builtin.Str.occurrences (Str.join " " (ds.map Dd.txt)) "take" 0 (Str.join " " (ds.map Dd.txt)).length 1).isEmpty) = true := by
  obtain ⟨a, b, e⟩ := join_mem " " (List.mem_map.mpr ⟨d, h, rfl⟩ : d.txt ∈ ds.map Dd.txt)
  cases d with
  | take n =>
    have e2 : Str.join " " (ds.map Dd.txt) = a ++ "take" ++ (" " ++ nS n ++ b) := by
      rw [e]
      show a ++ ("take" ++ " " ++ nS n) ++ b = _
      simp only [Str.append_assoc]
    rw [e2]
    exact found_mid _ _ _
  | _ => cases ht
/-- a plain row -/
def IsPlain (K : PySem.W.Frag) (H : Hp) (v : V) (r : Rw) : Prop := ∃ t te tf td, v = .ref t ∧ H t = some (.tup [iV r.state, hearV r.hear, .ref te, .ref tf, .ref td, iV r.thn]) ∧ SqT K H te (r.empty.map iV) ∧ SqT K H tf (r.full.map iV) ∧ SqT K H td ((r.deeds.map Dd.txt).map V.str)
theorem IsPlain.ex {K : PySem.W.Frag} {H H' : Hp} {v : V} {r : Rw} (h : IsPlain K H v r) (e : Ex H H') : IsPlain K H' v r := by
  obtain ⟨t, te, tf, td, rfl, h1, h2, h3, h4⟩ := h
  exact ⟨t, te, tf, td, rfl, e _ _ h1, Evl.ex_t e h2, Evl.ex_t e h3, Evl.ex_t e h4⟩
theorem IsPlain.mono {K : PySem.W.Frag} {r : Rw} : MonoV fun v H => IsPlain K H v r := fun y D ys H H' hD e h => by
  obtain ⟨t, te, tf, td, rfl, h1, h2, h3, h4⟩ := h
  exact ⟨t, te, tf, td, rfl, tup_mono hD e h1, sqT_mono hD e h2, sqT_mono hD e h3, sqT_mono hD e h4⟩
def Plains (K : PySem.W.Frag) (H : Hp) (xs : List V) (rs : List Rw) : Prop := Paired (IsPlain K H) xs rs
theorem Plains.ex {K : PySem.W.Frag} {H H' : Hp} {xs : List V} {rs : List Rw} (h : Plains K H xs rs) (e : Ex H H') : Plains K H' xs rs := L2.Paired.mapP h fun _ _ z => z.ex e
theorem Plains.mono {K : PySem.W.Frag} {H H' : Hp} {D : Addr} {ys xs : List V} {rs : List Rw} (hD : H D = some (.lst ys)) (e : ExB D H H') (h : Plains K H xs rs) : Plains K H' xs rs := L2.Paired.mapP h fun v r z => IsPlain.mono v D ys H H' hD e z
theorem Plains.len {K : PySem.W.Frag} {H : Hp} {xs : List V} {rs : List Rw} (h : Plains K H xs rs) : xs.length = rs.length := PySem.Paired.length h
theorem Plains.get {K : PySem.W.Frag} {H : Hp} {xs : List V} {rs : List Rw} (h : Plains K H xs rs) {i : Nat} {v : V} (e : xs[i]? = some v) : ∃ r, rs[i]? = some r ∧ IsPlain K H v r := by
  induction h generalizing i with
  | nil => simp at e
  | cons z _ ih =>
    cases i with
    | zero => exact ⟨_, rfl, by simp at e; rw [← e]; exact z⟩
    | succ i => exact ih (by simpa using e)
def hearD : Option (Option Nat) → PyData
  | none => .none
  | some none => .str "other"
  | some (some n) => .int (n : Int)
def plainD (r : Rw) : PyData := .tuple [.int (r.state : Int), hearD r.hear, .tuple (intsD r.empty), .tuple (intsD r.full), .tuple (strsD (r.deeds.map Dd.txt)), .int (r.thn : Int)]
theorem dp_hear {K : PySem.W.Frag} {H : Hp} (h : Option (Option Nat)) : Dp K H (hearV h) (hearD h) := by
  cases h with
  | none => exact .non
  | some q =>
    cases q with
    | none => exact .str _
    | some n => exact .int _
theorem dp_plain {K : PySem.W.Frag} {H : Hp} {v : V} {r : Rw} (h : IsPlain K H v r) : Dp K H v (plainD r) := by
  obtain ⟨t, te, tf, td, rfl, h1, h2, h3, h4⟩ := h
  exact .tup (.inl (.inl h1)) (.cons (.int _) (.cons (dp_hear _) (.cons (.tup h2 (dpAll_ints _)) (.cons (.tup h3 (dpAll_ints _)) (.cons (.tup h4 (dpAll_strs _)) (.cons (.int _) .nil))))))
theorem txts_ok {ds : List Dd} (h : ∀ d ∈ ds, d.ok = true) : ∀ w ∈ ds.map Dd.txt, PyData.strOk w = true := by
  intro w hw
  obtain ⟨x, hx, rfl⟩ := List.mem_map.mp hw
  exact (by decide +kernel : ∀ d ∈ Dd.all, PyData.strOk d.txt = true) x (Dd.mem_all (h x hx))
theorem hearD_lay (h : Option (Option Nat)) : (hearD h).canLay0 = true ∧ (hearD h).depth = 0 := by
  cases h with
  | none => exact ⟨rfl, rfl⟩
  | some q =>
    cases q with
    | none => exact ⟨by show PyData.strOk "other" = true; decide +kernel, rfl⟩
    | some n => exact ⟨rfl, rfl⟩
theorem plainD_lay {r : Rw} {side : Str} (h : r.Ok side) : (plainD r).canLay0 = true ∧ (plainD r).depth = 2 := by
  have e := intsD_ok r.empty
  have f := intsD_ok r.full
  have g := hearD_lay r.hear
  have t := strsD_lay (txts_ok fun d hd => (h.deeds d hd).1)
  have t2 := strsD_depth (r.deeds.map Dd.txt)
  unfold plainD
  simp only [PyData.canLay0, PyData.canLayAll0, PyData.depth, PyData.depthAll, e.1, e.2, f.1, f.2, g.1, g.2, t, t2]
  decide
theorem plainD_shaped {r : Rw} {side : Str} (h : r.Ok side) : SeqAt.shaped (plainD r) = true := by
  unfold SeqAt.shaped
  rw [(plainD_lay h).1, (plainD_lay h).2]
  decide
theorem txts_inj : ∀ {ds es : List Dd}, (∀ d ∈ ds, d.ok = true) → (∀ d ∈ es, d.ok = true) → ds.map Dd.txt = es.map Dd.txt → ds = es
  | [], [], _, _, _ => rfl
  | [], _ :: _, _, _, h => by simp at h
  | _ :: _, [], _, _, h => by simp at h
  | d :: ds, e :: es, h1, h2, h => by
    injection h with a b
    rw [Dd.txt_inj (h1 d (by simp)) (h2 e (by simp)) a, txts_inj (fun x hx => h1 x (List.mem_cons_of_mem _ hx)) (fun x hx => h2 x (List.mem_cons_of_mem _ hx)) b]
theorem hearD_eqv (h k : Option (Option Nat)) : PyData.eqv (hearD h) (hearD k) = decide (h = k) := by
  rcases h with _ | _ | n <;> rcases k with _ | _ | m
  · rfl
  · rfl
  · rfl
  · rfl
  · show (("other" : Str) == "other") = _; simp
  · rfl
  · rfl
  · rfl
  · show (((n : Int)) == (m : Int)) = _
    rw [Bool.eq_iff_iff]
    simp
    omega
theorem plainD_eqv {r q : Rw} {side side' : Str} (h : r.Ok side) (k : q.Ok side') : PyData.eqv (plainD r) (plainD q) = decide (r = q) := by
  unfold plainD
  simp only [PyData.eqv, PyData.eqvAll, eqv_ints, strsD_eqv, hearD_eqv, Bool.and_true]
  rw [Bool.eq_iff_iff]
  simp only [Bool.and_eq_true, beq_iff_eq, decide_eq_true_eq]
  constructor
  · rintro ⟨a, b, c, d, e, f⟩
    have e' := txts_inj (fun d hd => (h.deeds d hd).1) (fun d hd => (k.deeds d hd).1) e
    cases r
    cases q
    simp only at a b c d e' f
    have a' := Int.ofNat.inj a
    have f' := Int.ofNat.inj f
    subst a' b c d e' f'
    rfl
  · rintro rfl
    simp
def plainsD (rs : List Rw) : List PyData := rs.map plainD
theorem dpAll_plains {K : PySem.W.Frag} {H : Hp} {xs : List V} {rs : List Rw} (h : Plains K H xs rs) : DpAll K H xs (plainsD rs) := by
  induction h with
  | nil => exact .nil
  | cons e _ ih => exact .cons (dp_plain e) ih
theorem plainsD_lay {side : Str} : ∀ {rs : List Rw}, (∀ r ∈ rs, r.Ok side) → PyData.canLayAll0 (plainsD rs) = true ∧ PyData.depthAll (plainsD rs) ≤ 2
  | [], _ => ⟨rfl, by decide⟩
  | r :: rs, h => by
    have z := plainsD_lay (rs := rs) fun q hq => h q (List.mem_cons_of_mem _ hq)
    have y := plainD_lay (h r (by simp))
    refine ⟨?_, ?_⟩
    · show ((plainD r).canLay0 && PyData.canLayAll0 (plainsD rs)) = true
      rw [y.1, z.1]; rfl
    · show max (plainD r).depth (PyData.depthAll (plainsD rs)) ≤ 2
      rw [y.2]
      have := z.2
      omega
theorem plainsD_shaped {rs : List Rw} {side : Str} (h : ∀ r ∈ rs, r.Ok side) : SeqAt.shaped (.list (plainsD rs)) = true := by
  have z := plainsD_lay h
  unfold SeqAt.shaped
  simp only [PyData.canLay0, PyData.depth, z.1, Bool.true_and, decide_eq_true_eq]
  refine decide_eq_true ?_
  exact Nat.le_trans (Nat.succ_le_succ z.2) (by decide : 3 ≤ 64)
theorem plainsD_eqv {side side' : Str} : ∀ {rs qs : List Rw}, (∀ r ∈ rs, r.Ok side) → (∀ r ∈ qs, r.Ok side') → PyData.eqvAll (plainsD rs) (plainsD qs) = decide (rs = qs)
  | [], [], _, _ => rfl
  | [], _ :: _, _, _ => rfl
  | _ :: _, [], _, _ => rfl
  | a :: l, b :: m, h, k => by
    show (PyData.eqv (plainD a) (plainD b) && PyData.eqvAll (plainsD l) (plainsD m)) = _
    rw [plainsD_eqv (fun q hq => h q (List.mem_cons_of_mem _ hq)) (fun q hq => k q (List.mem_cons_of_mem _ hq)), plainD_eqv (h a (by simp)) (k b (by simp)), Bool.eq_iff_iff]
    simp
theorem plainsD_any {side side' : Str} {r : Rw} (hr : r.Ok side') : ∀ {rs : List Rw}, (∀ r ∈ rs, r.Ok side) → ((plainsD rs).any fun z => PyData.eqv z (plainD r)) = rs.contains r
  | [], _ => rfl
  | q :: rs, h => by
    show (PyData.eqv (plainD q) (plainD r) || (plainsD rs).any _) = _
    rw [plainD_eqv (h q (by simp)) hr, plainsD_any hr fun x hx => h x (List.mem_cons_of_mem _ hx), List.contains_cons]
    congr 1
    rw [Bool.eq_iff_iff]
    simp
    exact eq_comm
end Mp
set_option maxHeartbeats 4000000
/-! Values drawn on the way; def: _law_deed. -/
namespace Mp
open PySem PySem.Spec PyProof.Rows L2
open Evl (Ex Ev EvL EvU EvT EvA RV SpV given)

section
variable {p c : Addr} {cells : List Int} {te ta tb : TE} {tr : TA} {σ : L2.St} {H H0 : Hp} {m n k : Nat} {P P' Pa Pb : V → Prop} {v : V} {D : Ends}
/-- a value that is drawn: m draws are left before, n behind; P says what it is -/
def EvD (p c : Addr) (cells : List Int) (te : TE) (σ : L2.St) (H : Hp) (m n : Nat) (P : V → Prop) : Prop := ∀ H1, ExB p H H1 → Pen p c cells m H1 → ∀ Q : VK, (∀ v H2, ExB p H1 H2 → Pen p c cells n H2 → P v → Q v H2) → te σ H1 Q
def EvDA (p c : Addr) (cells : List Int) (ta : TA) (σ : L2.St) (H : Hp) (m n : Nat) (R : List V → Prop) : Prop := ∀ H1, ExB p H H1 → Pen p c cells m H1 → ∀ Q : List V → Hp → Prop, (∀ vs H2, ExB p H1 H2 → Pen p c cells n H2 → R vs → Q vs H2) → ta σ H1 Q
theorem evd_ev (h : ∀ H1, ExB p H H1 → Pen p c cells m H1 → Ev te σ H1 v) : EvD p c cells te σ H m m (fun x => x = v) := fun H1 e hp Q q => h H1 e hp H1 (Ex.refl _) Q fun H2 e2 => q v H2 (ExB.of e2) (hp.ex e2) rfl
theorem evd_var {i : Nat} (h : σ[i]? = some (some v)) : EvD p c cells (tVar i) σ H m m (fun x => x = v) := evd_ev fun _ _ _ => Evl.ev_var h
theorem evd_c : EvD p c cells (tC v) σ H m m (fun x => x = v) := evd_ev fun _ _ _ => Evl.ev_c
theorem evd_imp (h : EvD p c cells te σ H m n P) (k : ∀ v, P v → P' v) : EvD p c cells te σ H m n P' := fun H1 e hp Q q => h H1 e hp Q fun v H2 e2 hp2 x => q v H2 e2 hp2 (k v x)
theorem evd_op {r : R2} (ha : EvD p c cells ta σ H m k Pa) (hb : EvD p c cells tb σ H k n Pb) (hr : ∀ x y H1, Pa x → Pb y → ∃ z, RV r x y H1 z ∧ P z) : EvD p c cells (tOp r ta tb) σ H m n P := fun H1 e hp Q q =>
  ha H1 e hp _ fun x H2 e2 hp2 px => hb H2 (e.trans e2) hp2 _ fun y H3 e3 hp3 py => by
    obtain ⟨z, hz, pz⟩ := hr x y H3 px py
    exact hz H3 (Ex.refl _) Q fun H4 e4 => q z H4 ((e2.trans e3).trans (ExB.of e4)) (hp3.ex e4) pz
theorem evd_cb {r : List V → Hp → VK → Prop} (h : EvD p c cells te σ H m n P) (hr : ∀ x H1, P x → ∃ z, Evl.RC r [x] H1 z ∧ P' z) : EvD p c cells (tCB r (tCons te tNil)) σ H m n P' := fun H1 e hp Q q => h H1 e hp _ fun x H2 e2 hp2 px => by
  obtain ⟨z, hz, pz⟩ := hr x H2 px
  exact hz H2 (Ex.refl _) Q fun H3 e3 => q z H3 (e2.trans (ExB.of e3)) (hp2.ex e3) pz
theorem evda_nil : EvDA p c cells tNil σ H m m (fun vs => vs = []) := fun H1 e hp Q q => q [] H1 (ExB.of (Ex.refl _)) hp rfl
theorem evda_cons {R : List V → Prop} (ha : EvD p c cells ta σ H m k P) (hb : EvDA p c cells tr σ H k n R) : EvDA p c cells (tCons ta tr) σ H m n (fun vs => ∃ x xs, vs = x :: xs ∧ P x ∧ R xs) := fun H1 e hp Q q =>
  ha H1 e hp _ fun x H2 e2 hp2 px => hb H2 (e.trans e2) hp2 _ fun xs H3 e3 hp3 pxs => q (x :: xs) H3 (e2.trans e3) hp3 ⟨x, xs, rfl, px, pxs⟩
theorem evd_draw {i : Nat} (h : EvD p c cells ta σ H m m (fun x => x = .ref p)) (h2 : EvD p c cells tb σ H m m (fun x => x = .int (i : Int))) (h0 : 0 < i) (h1 : i < 1073741824) (hm : m = n + 1) {E : XK} :
    EvD p c cells (fun σ H Q => tCons ta (tCons tb tNil) σ H fun vs H1 => spDraw vs H1 Q E) σ H m n (fun x => ∃ d : Nat, d < i ∧ x = .int (d : Int)) := fun H1 e hp Q q =>
  h H1 e hp _ fun x H2 e2 hp2 ex => h2 H2 (e.trans e2) hp2 _ fun y H3 e3 hp3 ey => by
    subst ex ey hm
    exact ⟨p, c, cells, n, i, rfl, h0, h1, hp3, fun d H4 hd e4 hp4 => q _ H4 ((e2.trans e3).trans e4) hp4 ⟨d, hd, rfl⟩⟩
/-- one of some written things -/
theorem evd_pick {K : PySem.W.Frag} {R : List V → Prop} (h : EvD p c cells ta σ H m m (fun x => x = .ref p)) (h2 : EvDA p c cells tr σ H m k R) (hR : ∀ xs, R xs → xs ≠ [] ∧ xs.length ≤ 1000 ∧ ∀ x ∈ xs, P x) (hk : k = n + 1) {E : XK} :
    EvD p c cells (fun σ H Q => tCons ta (tCons (tLst tr) tNil) σ H fun vs H1 => spPick K vs H1 Q E) σ H m n P := fun H1 e hp Q q =>
  h H1 e hp _ fun x H2 e2 hp2 ex => h2 H2 (e.trans e2) hp2 _ fun xs H3 e3 hp3 rx => by
    subst ex hk
    obtain ⟨r1, r2, r3⟩ := hR xs rx
    refine ⟨Nat.le_trans r2 (by decide), fun l hl => ⟨p, c, l, cells, n, xs, rfl, upd_same, fun z => ?_, r1, r2, hp3.ex (Ex.new hl), fun i x H4 hx e4 hp4 => q _ H4 ((e2.trans e3).trans ((ExB.of (Ex.new hl)).trans e4)) hp4 (r3 x (List.mem_of_getElem? hx))⟩⟩
    obtain ⟨ys, hy⟩ := hp3.lst
    rw [z, hy] at hl
    cases hl
theorem sd_ret (h : EvD p c cells te σ H m n P) (hp : Pen p c cells m H) (k : ∀ v H2, ExB p H H2 → Pen p c cells n H2 → P v → D.rt v H2) : tRet te D σ H := h H (ExB.of (Ex.refl _)) hp _ k
abbrev rCatS : R2 := fun x y H Q => ∃ i j, x = .str i ∧ y = .str j ∧ i.length + j.length ≤ sizeLine ∧ Q (.str (i ++ j)) H
theorem rv_catS {a b : Str} (h : a.length + b.length ≤ 100000) : RV rCatS (.str a) (.str b) H (.str (a ++ b)) := fun H1 e Q q => ⟨a, b, rfl, rfl, Evl.sz_of h, q H1 (Ex.refl _)⟩
abbrev rStrI : List V → Hp → VK → Prop := fun xs H Q => ∃ i : Int, xs = [.int i] ∧ i.natAbs.log2 < 1920 ∧ Q (.str (toString i)) H
theorem nS_len2 {d : Nat} (h : d < 24) : (nS d).length ≤ 2 := nS_len d h
theorem small_log {d : Nat} (h : d < 24) : (d : Int).natAbs.log2 < 1920 := by
  rw [Int.natAbs_natCast]
  exact Nat.lt_of_le_of_lt (Nat.log2_le_self d) (by omega)
theorem evd_str {i : Nat} (h : EvD p c cells te σ H m n (fun x => ∃ d : Nat, d < i ∧ x = .int (d : Int))) (hi : i ≤ 24) : EvD p c cells (tCB rStrI (tCons te tNil)) σ H m n (fun x => ∃ d : Nat, d < i ∧ x = .str (nS d)) := fun H1 e hp Q q => h H1 e hp _ fun x H2 e2 hp2 ⟨d, hd, ex⟩ => by
  subst ex
  exact ⟨_, rfl, small_log (by omega), q _ H2 e2 hp2 ⟨d, hd, rfl⟩⟩
/-- one of the things of a list that stands -/
theorem evd_pickV {K : PySem.W.Frag} {l : Addr} {xs : List V} (h : EvD p c cells ta σ H m m (fun x => x = .ref p)) (h2 : EvD p c cells tb σ H m m (fun x => x = .ref l)) (hl : H l = some (.lst xs)) (hlp : l ≠ p) (hne : xs ≠ []) (hz : xs.length ≤ 1000) (hk : m = n + 1) {E : XK} :
    EvD p c cells (fun σ H Q => tCons ta (tCons tb tNil) σ H fun vs H1 => spPick K vs H1 Q E) σ H m n (fun x => x ∈ xs) := fun H1 e hp Q q =>
  h H1 e hp _ fun x H2 e2 hp2 ex => h2 H2 (e.trans e2) hp2 _ fun y H3 e3 hp3 ey => by
    subst ex ey hk
    exact ⟨p, c, l, cells, n, xs, rfl, ((e.trans e2).trans e3) l _ hlp hl, hlp, hne, hz, hp3, fun i x H4 hx e4 hp4 => q _ H4 ((e2.trans e3).trans e4) hp4 (List.mem_of_getElem? hx)⟩
theorem q_parD {i j : Nat} {tz : TS} {R : List V → Prop} (h : EvDA p c cells tr σ H m n R) (hR : ∀ vs, R vs → ∃ v w, vs = [v, w]) (hp : Pen p c cells m H) (k : ∀ v w H1, ExB p H H1 → Pen p c cells n H1 → R [v, w] → tz D ((σ.set i (some v)).set j (some w)) H1) : tSeq (tPar i j tr) tz D σ H :=
  h H (ExB.of (Ex.refl _)) hp _ fun vs H1 e1 hp1 r => let ⟨v, w, ev⟩ := hR vs r; ⟨v, w, ev, k v w H1 e1 hp1 (ev ▸ r)⟩
theorem q_asgD {i : Nat} {tz : TS} (h : EvD p c cells te σ H m n P) (hp : Pen p c cells m H) (k : ∀ v H1, ExB p H H1 → Pen p c cells n H1 → P v → tz D (σ.set i (some v)) H1) : tSeq (tAsg te (gName i)) tz D σ H := h H (ExB.of (Ex.refl _)) hp _ k
theorem ev_joinV {K : PySem.W.Frag} {to : TE} {l : Addr} {z : Str} {ys : List Str} (ho : Ev to σ H (.str z)) (h : Ev te σ H (.ref l)) (hl : SqTL K H l (ys.map V.str)) (hz : (ys.map (·.length)).sum + ys.length * z.length ≤ 16777216) : Ev (tM1 (rJoin K) to te) σ H (.str (Str.join z ys)) := fun H1 e Q q =>
  ho H1 e _ fun H2 e2 => ⟨⟨_, rfl⟩, h H2 (e.trans e2) _ fun H3 e3 => ⟨z, l, ys, rfl, rfl, hl.ex ((e.trans e2).trans e3), hz, by rw [TL.join_eq]; exact q H3 (e2.trans e3)⟩⟩
theorem sum_len {k : Nat} : ∀ {ys : List Str}, (∀ y ∈ ys, y.length ≤ k) → (ys.map (·.length)).sum ≤ ys.length * k
  | [], _ => by simp
  | y :: ys, h => by
    have := sum_len (ys := ys) fun x hx => h x (List.mem_cons_of_mem _ hx)
    have := h y (by simp)
    simp only [List.map_cons, List.sum_cons, List.length_cons, Nat.succ_mul]
    omega
end
def verbsOf (side : Str) : List Str := if side = "sender" then ["send", "move", "clear", "take", "send"] else ["out", "answer", "move", "clear", "out", "put"]
def spDeed : Sp := fun vs H Q _ => ∃ (p c l : Addr) (cells : List Int) (m : Nat) (side : Str) (hears : Bool) (ds : List Dd), vs = [.ref p, .str side, .bl hears, .ref l] ∧ IsSide side ∧ H l = some (.lst ((ds.map Dd.txt).map V.str)) ∧ l ≠ p ∧ ds.length ≤ 8 ∧ (∀ d ∈ ds, d.ok = true) ∧ Pen p c cells (m + 3) H ∧
  ∀ (d : Dd) H', d.ok = true → d.forS side = true → (d.isPut = true → hears = true) → (d.isTake = true → ∀ e ∈ ds, e.isTake = false) → ExB p H H' → Pen p c cells m H' → Q (.str d.txt) H'
abbrev rInS : R2 := fun x y H Q => ∃ i j, x = .str i ∧ y = .str j ∧ Q (.bl (!(Builtin.Str.occurrences j i 0 j.length 1).isEmpty)) H
section
variable {w : World} {K : PySem.W.Frag} {mg : Str → Option Value} {base : Heap}
abbrev nDd : List Str := ["_law_pen_here", "_law_side", "_law_hears", "_law_plain", "_law_verbs", "_law_verb", "_law_box"]
theorem sc_deed : FnScope nDd ["_law_pen_here", "_law_side", "_law_hears", "_law_plain"] (defScope s_law_deed) := ⟨rfl, rfl, rfl, by decide +kernel, rfl, by decide +kernel, by decide +kernel⟩
theorem k_deed (T : TX K mg base) : FG RP w K mg base 3 "_law_deed" spDeed := by
  refine fg_of T.g_law_deed T.kf_law_deed (fr_of T.d_law_deed sc_deed (fun vs H Q E h => by obtain ⟨p, c, l, cells, m, side, hears, ds, rfl, _⟩ := h; rfl) (fun _ _ _ _ _ _ us hl => match us, hl with | [_, _, _, _], _ => rfl) fun cdv A outer s H vs Q E hr h => ⟨_,
    pss_cons (ps_set (i := 4) sc_deed.nd rfl (Or.inl rfl) (pe_ifExp (pt_cmpR op_eq (pv 1) pe_str (nomark _)) (pe_lst (pa_cons pe_str (pa_cons pe_str (pa_cons pe_str (pa_cons pe_str (pa_cons pe_str pa_nil)))))) (pe_lst (pa_cons pe_str (pa_cons pe_str (pa_cons pe_str (pa_cons pe_str (pa_cons pe_str (pa_cons pe_str pa_nil)))))))))
    (pss_cons (ps_par (i := 5) (j := 6) rfl sc_deed.nd rfl rfl (by decide) rfl rfl (pa_cons (pe_g (k_pick T) (hr.mono (by decide)) (pa_cons (pv 0) (pa_cons (pv 4) pa_nil))) (pa_cons (pe_g (k_draw T) (hr.mono (by decide)) (pa_cons (pv 0) (pa_cons pe_int pa_nil))) pa_nil)) rfl)
    (pss_cons (ps_if (PW.pt (pw_or (PW.pt (pw_and (pt_cmpR op_eq (pv 5) pe_str (nomark _)) (pw_and1 (pt_not (pt_val (pv 2)))))) (pw_or1 (PW.pt (pw_and (pt_cmpR op_eq (pv 5) pe_str (nomark _)) (pw_and1 (pt_cmpR (r := rInS) op_in_str pe_str (pe_m1 (r := rJoin K) PySem.F.slot_str_join PySem.F.type_str_join mt_join pe_str (pv 3)) (by rfl))))))))
      (pss_one (ps_set (i := 5) sc_deed.nd rfl (Or.inl rfl) pe_str)) pss_nil)
    (pss_cons (ps_if (pt_cmpR op_eq (pv 5) pe_str (nomark _)) (pss_one (ps_ret (pe_op op_add_str pe_str (pe_callTy call_str_int rfl T.f_str (by decide +kernel) (pa_cons (pe_g (k_draw T) (hr.mono (by decide)) (pa_cons (pv 0) (pa_cons pe_int pa_nil))) pa_nil))))) pss_nil)
    (pss_cons (ps_if (pt_cmpR op_eq (pv 5) pe_str (nomark _)) (pss_one (ps_ret (pe_op op_add_str (pe_op op_add_str (pe_op op_add_str pe_str (pe_callTy call_str_int rfl T.f_str (by decide +kernel) (pa_cons (pv 6) pa_nil))) pe_str) (pe_callTy call_str_int rfl T.f_str (by decide +kernel) (pa_cons (pe_g (k_draw T) (hr.mono (by decide)) (pa_cons (pv 0) (pa_cons pe_int pa_nil))) pa_nil))))) pss_nil)
    (pss_cons (ps_if (pt_cmpR op_eq (pv 5) pe_str (nomark _)) (pss_one (ps_ret (pe_op op_add_str (pe_op op_add_str (pe_op op_add_str pe_str (pe_callTy call_str_int rfl T.f_str (by decide +kernel) (pa_cons (pv 6) pa_nil))) pe_str) (pe_callTy call_str_int rfl T.f_str (by decide +kernel) (pa_cons (pe_op op_mod (pe_callTy call_int1 rfl T.f_int (by decide +kernel) (pa_cons (pe_op op_add (pe_op op_add (pv 6) pe_int) (pe_g (k_draw T) (hr.mono (by decide)) (pa_cons (pv 0) (pa_cons pe_int pa_nil)))) pa_nil)) pe_int) pa_nil))))) pss_nil)
    (pss_one (ps_ret (pe_op op_add_str (pe_op op_add_str (pv 5) pe_str) (pe_callTy call_str_int rfl T.f_str (by decide +kernel) (pa_cons (pv 6) pa_nil)))))))))), ?_⟩)
  obtain ⟨p, c, l, cells, m, side, hears, ds, rfl, hsd, hl, hlp, hds, hok, hpen, hq⟩ := h
  have hv0 : EvL (tIf (tTest (tOp rEq (tVar 1) (tC (.str "sender")))) (tLst (tCons (tC (.str "send")) (tCons (tC (.str "move")) (tCons (tC (.str "clear")) (tCons (tC (.str "take")) (tCons (tC (.str "send")) tNil)))))) (tLst (tCons (tC (.str "out")) (tCons (tC (.str "answer")) (tCons (tC (.str "move")) (tCons (tC (.str "clear")) (tCons (tC (.str "out")) (tCons (tC (.str "put")) tNil))))))))
      (start nDd [.ref p, .str side, .bl hears, .ref l]) H ((verbsOf side).map V.str) := by
    have z1 : EvT (tTest (tOp rEq (tVar 1) (tC (.str "sender")))) (start nDd [.ref p, .str side, .bl hears, .ref l]) H (decide (V.str side = V.str "sender")) := Evl.et_test (Evl.ev_op (Evl.ev_var rfl) Evl.ev_c (Evl.rv_eq rfl))
    intro H1 e Q q
    refine z1 H1 e _ fun H2 e2 => ?_
    rcases hsd with rfl | rfl
    · exact Evl.el_lst (Evl.ea_cons Evl.ev_c (Evl.ea_cons Evl.ev_c (Evl.ea_cons Evl.ev_c (Evl.ea_cons Evl.ev_c (Evl.ea_cons Evl.ev_c Evl.ea_nil))))) (by show 5 ≤ 100000; decide) H2 (Ex.refl _) Q fun a H3 na e3 h3 => q a H3 (Evl.fresh_back e2 na) (e2.trans e3) h3
    · exact Evl.el_lst (Evl.ea_cons Evl.ev_c (Evl.ea_cons Evl.ev_c (Evl.ea_cons Evl.ev_c (Evl.ea_cons Evl.ev_c (Evl.ea_cons Evl.ev_c (Evl.ea_cons Evl.ev_c Evl.ea_nil)))))) (by show 6 ≤ 100000; decide) H2 (Ex.refl _) Q fun a H3 na e3 h3 => q a H3 (Evl.fresh_back e2 na) (e2.trans e3) h3
  refine Evl.q_asgL hv0 fun lv H1 nlv e1 hlv => ?_
  have hp1 := hpen.ex e1
  have hlvp : lv ≠ p := fun z => by
    obtain ⟨ys, hy⟩ := hpen.lst
    rw [z, hy] at nlv
    cases nlv
  refine q_parD (p := p) (c := c) (cells := cells) (m := m + 3) (n := m + 1) (evda_cons (evd_pickV (n := m + 2) (evd_var rfl) (evd_var rfl) hlv hlvp (by unfold verbsOf; split <;> simp) (by unfold verbsOf; split <;> simp) rfl) (evda_cons (evd_draw (i := 3) (evd_var rfl) evd_c (by decide) (by decide) rfl) evda_nil)) (fun vs hr => by
    obtain ⟨x, xs, rfl, _, y, ys, rfl, _, rfl⟩ := hr
    exact ⟨x, y, rfl⟩) hp1 fun v w H2 e2 hp2 hr => ?_
  obtain ⟨x, xs, ev, hv, y, ys, ev2, ⟨b, hb, ey⟩, ev3⟩ := hr
  subst ev3
  subst ev2
  injection ev with ea eb
  injection eb with eb _
  subst ea eb ey
  obtain ⟨z, hz, rfl⟩ := List.mem_map.mp hv
  have hl2 : H2 l = some (.lst ((ds.map Dd.txt).map V.str)) := e2 l _ hlp (e1 _ _ hl)
  have eb02 : ExB p H H2 := (ExB.of e1).trans e2
  have hzm : z ∈ verbsOf side := hz
  have hcl : ("clear" : Str) ∈ verbsOf side := by unfold verbsOf; split <;> simp
  -- the verb that is kept
  have hj : (((ds.map Dd.txt).map (·.length)).sum + (ds.map Dd.txt).length * (" " : Str).length) ≤ 16777216 := by
    have h1 := sum_len (k := 10) (ys := ds.map Dd.txt) fun y hy => by
      obtain ⟨d, hd, rfl⟩ := List.mem_map.mp hy
      exact Dd.txt_len (hok d hd)
    have e1 : (" " : Str).length = 1 := by decide +kernel
    rw [List.length_map] at h1 ⊢
    rw [e1]
    omega
  obtain ⟨z', hz', hput, htake, hcond⟩ : ∃ z', z' ∈ verbsOf side ∧ (z' = "put" → hears = true) ∧ (z' = "take" → ∀ e ∈ ds, e.isTake = false) ∧
      z' = (if ((decide (V.str z = V.str "put") && !hears) || (decide (V.str z = V.str "take") && !(Builtin.Str.occurrences (Str.join " " (ds.map Dd.txt)) "take" 0 (Str.join " " (ds.map Dd.txt)).length 1).isEmpty)) = true then ("clear" : Str) else z) := by
    refine ⟨_, ?_, ?_, ?_, rfl⟩
    · split
      · exact hcl
      · exact hzm
    · split
      · intro h
        exact absurd h (by decide +kernel)
      · rename_i h
        intro hp
        subst hp
        cases hears with
        | true => rfl
        | false => simp at h
    · split
      · intro h
        exact absurd h (by decide +kernel)
      · rename_i h
        intro hp e he
        subst hp
        cases ht : e.isTake with
        | false => rfl
        | true =>
          rw [take_found he ht] at h
          simp at h
  refine Evl.q_ifAsg (v := .str z') (b := ((decide (V.str z = V.str "put") && !hears) || (decide (V.str z = V.str "take") && !(Builtin.Str.occurrences (Str.join " " (ds.map Dd.txt)) "take" 0 (Str.join " " (ds.map Dd.txt)).length 1).isEmpty)))
    (Evl.et_or (Evl.et_and (Evl.et_test (Evl.ev_op (Evl.ev_var rfl) Evl.ev_c (Evl.rv_eq rfl))) fun _ => Evl.et_not (Evl.et_B (Evl.ev_var rfl))) fun _ => Evl.et_and (Evl.et_test (Evl.ev_op (Evl.ev_var rfl) Evl.ev_c (Evl.rv_eq rfl))) fun _ => Evl.et_test (Evl.ev_op Evl.ev_c (ev_joinV Evl.ev_c (Evl.ev_var rfl) (.inl (Evl.sq_of hl2)) hj) fun H3 e3 Q q => ⟨_, _, rfl, rfl, q H3 (Ex.refl _)⟩)) (fun hb => ?_) (fun hb => ?_) fun H3 e3 => ?_
  · rw [if_pos hb] at hcond
    subst hcond
    exact Evl.ev_c
  · rw [if_neg (by rw [hb]; simp)] at hcond
    subst hcond
    rfl
  have hp3 := hp2.ex e3
  have eb03 : ExB p H H3 := eb02.trans (ExB.of e3)
  clear hcond hzm hv hz
  have l1 : ("answer " : Str).length = 7 := by decide +kernel
  have l2 : ("send " : Str).length = 5 := by decide +kernel
  have l3 : ("move " : Str).length = 5 := by decide +kernel
  have l0 : (" " : Str).length = 1 := by decide +kernel
  have lb : (nS b).length ≤ 2 := nS_len b (by omega)
  -- answer
  refine Evl.q_when (b := decide (V.str z' = V.str "answer")) (Evl.et_test (Evl.ev_op (Evl.ev_var rfl) Evl.ev_c (Evl.rv_eq rfl))) (fun hb1 H4 e4 => ?_) fun hb1 H4 e4 => ?_
  · have hz1 : z' = "answer" := by have := of_decide_eq_true hb1; injection this
    subst hz1
    refine sd_ret (P := fun x => ∃ d : Nat, d < 6 ∧ x = .str ((Dd.answer d).txt)) (m := m + 1) (n := m) (evd_op evd_c (evd_str (i := 6) (evd_draw (i := 6) (evd_var rfl) evd_c (by decide) (by decide) rfl) (by decide)) fun x y H5 ex ey => ?_) (hp3.ex e4) fun v H5 e5 hp5 ⟨d, hd, ev⟩ => ?_
    · subst ex
      obtain ⟨d, hd, rfl⟩ := ey
      have := nS_len d (by omega)
      refine ⟨.str ("answer " ++ nS d), rv_catS (by omega), d, hd, congrArg V.str ?_⟩
      show _ = "answer" ++ " " ++ nS d
      rw [show ("answer " : Str) = "answer" ++ " " by decide +kernel]
    · subst ev
      refine hq (.answer d) H5 (by show decide (d ≤ 5) = true; exact decide_eq_true (by omega)) ?_ (fun h => by cases h) (fun h => by cases h) ((eb03.trans (ExB.of e4)).trans e5) hp5
      rcases hsd with rfl | rfl
      · exact absurd hz' (by decide +kernel)
      · rfl
  have hn1 : z' ≠ "answer" := fun h => by rw [h] at hb1; simp at hb1
  have hp4 := hp3.ex e4
  have eb04 := eb03.trans (ExB.of e4)
  -- send
  refine Evl.q_when (b := decide (V.str z' = V.str "send")) (Evl.et_test (Evl.ev_op (Evl.ev_var rfl) Evl.ev_c (Evl.rv_eq rfl))) (fun hb1 H5 e5 => ?_) fun hb1 H5 e5 => ?_
  · have hz1 : z' = "send" := by have := of_decide_eq_true hb1; injection this
    subst hz1
    have hpre : ∀ H6, ExB p H5 H6 → Pen p c cells (m + 1) H6 → Ev (tOp rCatS (tOp rCatS (tC (.str "send ")) (tCB rStrI (tCons (tVar 6) tNil))) (tC (.str " "))) [some (V.ref p), some (V.str side), some (V.bl hears), some (V.ref l), some (V.ref lv), some (V.str "send"), some (V.int (b : Int))] H6 (.str ("send " ++ nS b ++ " ")) := fun H6 _ _ =>
      Evl.ev_op (Evl.ev_op Evl.ev_c (ev_strI (Evl.ev_var rfl) (by omega)) (rv_catS (by omega))) Evl.ev_c (rv_catS (by rw [Str.length_append]; omega))
    refine sd_ret (P := fun x => ∃ d : Nat, d < 6 ∧ x = .str ((Dd.send b d).txt)) (m := m + 1) (n := m) (evd_op (evd_ev hpre) (evd_str (i := 6) (evd_draw (i := 6) (evd_var rfl) evd_c (by decide) (by decide) rfl) (by decide)) fun x y H6 ex ey => ?_) (hp4.ex e5) fun v H6 e6 hp6 ⟨d, hd, ev⟩ => ?_
    · subst ex
      obtain ⟨d, hd, rfl⟩ := ey
      have := nS_len d (by omega)
      refine ⟨.str ("send " ++ nS b ++ " " ++ nS d), rv_catS (by rw [Str.length_append, Str.length_append]; omega), d, hd, congrArg V.str ?_⟩
      show _ = "send" ++ " " ++ (nS b ++ " " ++ nS d)
      rw [show ("send " : Str) = "send" ++ " " by decide +kernel]
      simp only [Str.append_assoc]
    · subst ev
      refine hq (.send b d) H6 ?_ ?_ (fun h => by cases h) (fun h => by cases h) ((eb04.trans (ExB.of e5)).trans e6) hp6
      · show (decide (b ≤ 2) && decide (d ≤ 5)) = true
        rw [decide_eq_true (by omega), decide_eq_true (by omega)]
        rfl
      · rcases hsd with rfl | rfl
        · rfl
        · exact absurd hz' (by decide +kernel)
  have hn2 : z' ≠ "send" := fun h => by rw [h] at hb1; simp at hb1
  have hp5 := hp4.ex e5
  have eb05 := eb04.trans (ExB.of e5)
  -- move
  refine Evl.q_when (b := decide (V.str z' = V.str "move")) (Evl.et_test (Evl.ev_op (Evl.ev_var rfl) Evl.ev_c (Evl.rv_eq rfl))) (fun hb1 H6 e6 => ?_) fun hb1 H6 e6 => ?_
  · have hz1 : z' = "move" := by have := of_decide_eq_true hb1; injection this
    subst hz1
    have hpre : ∀ H7, ExB p H6 H7 → Pen p c cells (m + 1) H7 → Ev (tOp rCatS (tOp rCatS (tC (.str "move ")) (tCB rStrI (tCons (tVar 6) tNil))) (tC (.str " "))) [some (V.ref p), some (V.str side), some (V.bl hears), some (V.ref l), some (V.ref lv), some (V.str "move"), some (V.int (b : Int))] H7 (.str ("move " ++ nS b ++ " ")) := fun H7 _ _ =>
      Evl.ev_op (Evl.ev_op Evl.ev_c (ev_strI (Evl.ev_var rfl) (by omega)) (rv_catS (by omega))) Evl.ev_c (rv_catS (by rw [Str.length_append]; omega))
    refine sd_ret (P := fun x => ∃ t : Nat, t < 3 ∧ t ≠ b ∧ x = .str ((Dd.move b t).txt)) (m := m + 1) (n := m) (evd_op (evd_ev hpre) (Pb := fun x => ∃ t : Nat, t < 3 ∧ t ≠ b ∧ x = .str (nS t)) (evd_cb (P := fun x => ∃ t : Nat, t < 3 ∧ t ≠ b ∧ x = .int (t : Int)) (evd_op (Pa := fun x => ∃ d : Nat, d < 2 ∧ x = .int ((b + 1 + d : Nat) : Int)) (evd_cb (P := fun x => ∃ d : Nat, d < 2 ∧ x = .int ((b + 1 + d : Nat) : Int)) (evd_op (Pa := fun x => x = .int ((b + 1 : Nat) : Int))
      (evd_ev fun H7 _ _ => Evl.ev_op (Evl.ev_var rfl) Evl.ev_c Evl.rv_I0) (evd_draw (i := 2) (evd_var rfl) evd_c (by decide) (by decide) rfl) fun x y H7 ex ⟨d, hd, ey⟩ => ?_) fun x H7 ⟨d, hd, ex⟩ => ?_) evd_c fun x y H7 ⟨d, hd, ex⟩ ey => ?_) fun x H7 ⟨t, ht, hne, ex⟩ => ?_) fun x y H7 ex ⟨t, ht, hne, ey⟩ => ?_) (hp5.ex e6) fun v H7 e7 hp7 ⟨t, ht, hne, ev⟩ => ?_
    · subst ex ey
      exact ⟨_, Evl.rv_I0, d, hd, rfl⟩
    · subst ex
      exact ⟨_, fun H8 e8 Q q => .inl ⟨_, rfl, q H8 (Ex.refl _)⟩, d, hd, rfl⟩
    · subst ex ey
      refine ⟨_, Evl.rv_I (by decide), (b + 1 + d) % 3, by omega, by omega, ?_⟩
      exact congrArg V.int (by omega)
    · subst ex
      exact ⟨_, fun H8 e8 Q q => ⟨_, rfl, small_log (by omega), q H8 (Ex.refl _)⟩, t, ht, hne, rfl⟩
    · subst ex ey
      have := nS_len t (by omega)
      refine ⟨.str ("move " ++ nS b ++ " " ++ nS t), rv_catS (by rw [Str.length_append, Str.length_append]; omega), t, ht, hne, congrArg V.str ?_⟩
      show _ = "move" ++ " " ++ (nS b ++ " " ++ nS t)
      rw [show ("move " : Str) = "move" ++ " " by decide +kernel]
      simp only [Str.append_assoc]
    · subst ev
      refine hq (.move b t) H7 ?_ ?_ (fun h => by cases h) (fun h => by cases h) ((eb05.trans (ExB.of e6)).trans e7) hp7
      · show (decide (b ≤ 2) && (decide (t ≤ 2) && decide (t ≠ b))) = true
        rw [decide_eq_true (by omega), decide_eq_true (by omega), decide_eq_true hne]
        rfl
      · rcases hsd with rfl | rfl <;> rfl
  have hn3 : z' ≠ "move" := fun h => by rw [h] at hb1; simp at hb1
  have hp6 := hp5.ex e6
  have eb06 := eb05.trans (ExB.of e6)
  -- the others
  have lz : z'.length ≤ 10 := by
    rcases hsd with rfl | rfl
    · have h1 : z' ∈ [("send" : Str), "move", "clear", "take", "send"] := hz'
      exact (by decide +kernel : ∀ x ∈ [("send" : Str), "move", "clear", "take", "send"], x.length ≤ 10) z' h1
    · have h1 : z' ∈ [("out" : Str), "answer", "move", "clear", "out", "put"] := hz'
      exact (by decide +kernel : ∀ x ∈ [("out" : Str), "answer", "move", "clear", "out", "put"], x.length ≤ 10) z' h1
  obtain ⟨d, hdt, hdok, hdf, hdp, hdk⟩ : ∃ d : Dd, d.txt = z' ++ " " ++ nS b ∧ d.ok = true ∧ d.forS side = true ∧ (d.isPut = true → z' = "put") ∧ (d.isTake = true → z' = "take") := by
    have hb2 : decide (b ≤ 2) = true := decide_eq_true (by omega)
    have cas : z' = "clear" ∨ z' = "take" ∨ z' = "out" ∨ z' = "put" := by
      rcases hsd with rfl | rfl
      · have hz' : z' ∈ [("send" : Str), "move", "clear", "take", "send"] := hz'
        simp only [List.mem_cons, List.not_mem_nil, or_false] at hz'
        rcases hz' with h | h | h | h | h
        · exact absurd h hn2
        · exact absurd h hn3
        · exact .inl h
        · exact .inr (.inl h)
        · exact absurd h hn2
      · have hz' : z' ∈ [("out" : Str), "answer", "move", "clear", "out", "put"] := hz'
        simp only [List.mem_cons, List.not_mem_nil, or_false] at hz'
        rcases hz' with h | h | h | h | h | h
        · exact .inr (.inr (.inl h))
        · exact absurd h hn1
        · exact absurd h hn3
        · exact .inl h
        · exact .inr (.inr (.inl h))
        · exact .inr (.inr (.inr h))
    rcases cas with rfl | rfl | rfl | rfl
    · exact ⟨.clear b, by show "clear" ++ " " ++ nS b = _; rfl, hb2, by rcases hsd with rfl | rfl <;> rfl, fun h => (by cases h), fun h => by cases h⟩
    · refine ⟨.take b, by show "take" ++ " " ++ nS b = _; rfl, hb2, ?_, fun h => (by cases h), fun _ => rfl⟩
      rcases hsd with rfl | rfl
      · rfl
      · exact absurd hz' (by decide +kernel)
    · refine ⟨.out b, by show "out" ++ " " ++ nS b = _; rfl, hb2, ?_, fun h => (by cases h), fun h => by cases h⟩
      rcases hsd with rfl | rfl
      · exact absurd hz' (by decide +kernel)
      · rfl
    · refine ⟨.put b, by show "put" ++ " " ++ nS b = _; rfl, hb2, ?_, fun _ => rfl, fun h => by cases h⟩
      rcases hsd with rfl | rfl
      · exact absurd hz' (by decide +kernel)
      · rfl
  refine Evl.s_ret (Evl.ev_is (Evl.ev_op (Evl.ev_op (Evl.ev_var rfl) Evl.ev_c (rv_catS (by omega))) (ev_strI (Evl.ev_var rfl) (by omega)) (rv_catS (by rw [Str.length_append]; omega))) (congrArg V.str hdt.symm)) fun H7 e7 => ?_
  exact hq d H7 hdok hdf (fun h => hput (hdp h)) (fun h => htake (hdk h)) (eb06.trans (ExB.of e7)) ((hp6.ex e7).le (Nat.le_succ m))
end
end Mp
set_option maxHeartbeats 4000000
/-! Def: _law_row. -/
namespace Mp
open PySem PySem.Spec PyProof.Rows L2
open Evl (Ex Ev EvL EvU EvT EvA RV SpV given)

section
variable {p c l : Addr} {cells : List Int} {te ta tb : TE} {tr : TA} {σ : L2.St} {H H0 H1 : Hp} {m n k : Nat} {P P' Pa Pb : V → Prop} {v : V} {D : Ends} {o : HO}
theorem Pen.upd (h : Pen p c cells m H) (h1 : l ≠ p) (h2 : l ≠ c) : Pen p c cells m (L2.upd H l o) := by
  obtain ⟨a, b, e1, e2, e3, e4⟩ := h
  exact ⟨a, b, by rw [upd_ne (Ne.symm h1)]; exact e1, by rw [upd_ne (Ne.symm h2)]; exact e2, e3, e4⟩
theorem Pen.fresh (h : Pen p c cells m H) (n : H l = none) : l ≠ p ∧ l ≠ c := by
  obtain ⟨a, b, e1, e2, _⟩ := h
  exact ⟨fun z => (by rw [z, e1] at n; cases n), fun z => (by rw [z, e2] at n; cases n)⟩
theorem ExB.mut (e : ExB p H H1) (h : H l = none) : ExB p H (L2.upd H1 l o) := fun b u hb hu => by
  rw [upd_ne (fun z => by rw [z, h] at hu; cases hu)]
  exact e b u hb hu
theorem q_parD3 {i j q : Nat} {tz : TS} {xs ys zs : List V} {ta tb tc : TE} (h1 : EvL ta σ H xs) (h2 : EvL tb σ H ys) (h3 : EvL tc σ H zs)
    (kk : ∀ a b c H1, H a = none → H b = none → H c = none → a ≠ b → a ≠ c → b ≠ c → Ex H H1 → H1 a = some (.lst xs) → H1 b = some (.lst ys) → H1 c = some (.lst zs) → tz D (((σ.set i (some (.ref a))).set j (some (.ref b))).set q (some (.ref c))) H1) :
    tSeq (tPar3 i j q (tCons ta (tCons tb (tCons tc tNil)))) tz D σ H :=
  h1 H (Ex.refl H) _ fun a H1 na e1 ha => h2 H1 e1 _ fun b H2 nb e2 hb => h3 H2 (e1.trans e2) _ fun c H3 nc e3 hc => ⟨.ref a, .ref b, .ref c, rfl, kk a b c H3 na (Evl.fresh_back e1 nb) (Evl.fresh_back (e1.trans e2) nc)
    (fun z => by rw [← z, ha] at nb; cases nb) (fun z => by rw [← z, e2 _ _ ha] at nc; cases nc) (fun z => by rw [← z, hb] at nc; cases nc) ((e1.trans e2).trans e3) (e3 _ _ (e2 _ _ ha)) (e3 _ _ hb) hc⟩
theorem s_forRD {j K : Nat} {tu : TS} (h : EvD p c cells te σ H m n (fun x => ∃ i : Nat, i ≤ K ∧ x = .int (i : Int))) (hK : K ≤ 100000) (hp : Pen p c cells m H) (Pv : Nat → L2.St → Hp → Prop) (h0 : ∀ H1, ExB p H H1 → Pen p c cells n H1 → Pv 0 σ H1)
    (hs : ∀ (i : Nat) σ' H', i < K → Pv i σ' H' → tu { D with nx := Pv (i + 1), ct := Pv (i + 1), bk := D.nx } (σ'.set j (some (.int (i : Int)))) H') (hd : ∀ N σ' H', N ≤ K → Pv N σ' H' → D.nx σ' H') : tFor (iRng1 (tCons te tNil)) (gName j) tu D σ H :=
  h H (ExB.of (Ex.refl H)) hp _ fun x H1 e1 hp1 hx => by
    obtain ⟨N, hN, ex⟩ := hx
    subst ex
    refine ⟨(N : Int), rfl, by omega, by omega, ?_⟩
    rw [Int.toNat_natCast]
    exact for_range (lo := 0) (n := N) Pv (h0 H1 e1 hp1) (fun i σ' H' hi p => by
      have e0 : (0 : Int) + (i : Int) = (i : Int) := Int.zero_add _
      show tu { D with nx := Pv (i + 1), ct := Pv (i + 1), bk := D.nx } (σ'.set j (some (.int ((0 : Int) + (i : Int))))) H'
      rw [e0]
      exact hs i σ' H' (by omega) p) fun σ' H' => hd N σ' H' hN
theorem q_forRD {j K : Nat} {tu tz : TS} (h : EvD p c cells te σ H m n (fun x => ∃ i : Nat, i ≤ K ∧ x = .int (i : Int))) (hK : K ≤ 100000) (hp : Pen p c cells m H) (Pv : Nat → L2.St → Hp → Prop) (h0 : ∀ H1, ExB p H H1 → Pen p c cells n H1 → Pv 0 σ H1)
    (hs : ∀ (i : Nat) σ' H', i < K → Pv i σ' H' → tu { D with nx := Pv (i + 1), ct := Pv (i + 1), bk := tz D } (σ'.set j (some (.int (i : Int)))) H') (hd : ∀ N σ' H', N ≤ K → Pv N σ' H' → tz D σ' H') : tSeq (tFor (iRng1 (tCons te tNil)) (gName j) tu) tz D σ H :=
  s_forRD (D := { D with nx := tz D }) h hK hp Pv h0 hs hd
theorem s_appD {K : PySem.W.Frag} {xs : List V} (hl : H l = some (.lst xs)) (hlp : l ≠ p) (ha : Ev ta σ H (.ref l)) (h : EvD p c cells te σ H m n P) (hp : Pen p c cells m H) (hz : xs.length < 100000) (kk : ∀ v H1, ExB p H H1 → Pen p c cells n H1 → P v → D.nx σ (upd H1 l (.lst (xs ++ [v])))) :
    tDrop (tBM K "list" rAppend ta (tCons te tNil)) D σ H := ha H (Ex.refl H) _ fun H1 e1 =>
  ⟨Or.inl ⟨rfl, xs, Evl.sq_of (e1 l _ hl)⟩, h H1 (ExB.of e1) (hp.ex e1) _ fun v H2 e2 hp2 hv => ⟨l, xs, v, rfl, rfl, e2 l _ hlp (e1 l _ hl), Evl.sz_lt hz, kk v H2 ((ExB.of e1).trans e2) hp2 hv⟩⟩
theorem evd_deed {side : Str} {hears : Bool} {ds : List Dd} (ha : ∀ H1, ExB p H H1 → EvA tr σ H1 [.ref p, .str side, .bl hears, .ref l]) (hsd : IsSide side) (hl : H l = some (.lst ((ds.map Dd.txt).map V.str))) (hlp : l ≠ p) (hds : ds.length ≤ 8) (hok : ∀ d ∈ ds, d.ok = true) (hm : m = n + 3) {E : XK} :
    EvD p c cells (fun σ H Q => tr σ H fun vs H1 => spDeed vs H1 Q E) σ H m n (fun x => ∃ d : Dd, d.ok = true ∧ d.forS side = true ∧ (d.isPut = true → hears = true) ∧ (d.isTake = true → ∀ e ∈ ds, e.isTake = false) ∧ x = .str d.txt) := fun H1 e hp Q q =>
  ha H1 e H1 (Ex.refl _) _ fun H2 e2 => by
    subst hm
    exact ⟨p, c, l, cells, n, side, hears, ds, rfl, hsd, e2 _ _ (e l _ hlp hl), hlp, hds, hok, hp.ex e2, fun d H3 d1 d2 d3 d4 e3 hp3 => q _ H3 ((ExB.of e2).trans e3) hp3 ⟨d, d1, d2, d3, d4, rfl⟩⟩
end
def boxRun : Nat → List (List Nat × List Nat)
  | 0 => [([], [])]
  | i + 1 => (boxRun i).flatMap fun q => [(q.1, q.2), (q.1 ++ [i], q.2), (q.1, q.2 ++ [i])]
theorem boxRun_end : ∀ q ∈ boxRun 3, q.1 ∈ boxSets ∧ q.2 ∈ boxSets ∧ ∀ b ∈ q.2, b ∉ q.1 := by decide +kernel
theorem boxRun_len : ∀ {i : Nat} {q : List Nat × List Nat}, q ∈ boxRun i → q.1.length ≤ i ∧ q.2.length ≤ i
  | 0, q, h => by
    have : q = ([], []) := by simpa [boxRun] using h
    subst this
    exact ⟨Nat.le_refl _, Nat.le_refl _⟩
  | i + 1, q, h => by
    obtain ⟨r, hr, hq⟩ := List.mem_flatMap.mp h
    have ih := boxRun_len hr
    simp only [List.mem_cons, List.not_mem_nil, or_false] at hq
    rcases hq with rfl | rfl | rfl <;> simp <;> omega
def spRow (K : PySem.W.Frag) : Sp := fun vs H Q _ => ∃ (p c : Addr) (cells : List Int) (m : Nat) (side : Str), vs = [.ref p, .str side] ∧ IsSide side ∧ Pen p c cells (m + 33) H ∧ ∀ v (r : Rw) H', r.Ok side → IsPlain K H' v r → ExB p H H' → Pen p c cells m H' → Q v H'
section
variable {w : World} {K : PySem.W.Frag} {mg : Str → Option Value} {base : Heap}
abbrev nRo : List Str := ["_law_pen_here", "_law_side", "_law_state", "_law_hear", "_law_empty", "_law_full", "_law_deeds_so", "_law_box", "_law_way", "_law_turn_so"]
theorem sc_row : FnScope nRo ["_law_pen_here", "_law_side"] (defScope s_law_row) := ⟨rfl, rfl, rfl, by decide +kernel, rfl, by decide +kernel, by decide +kernel⟩
theorem k_row (T : TX K mg base) : FG RP w K mg base 4 "_law_row" (spRow K) := by
  refine fg_of T.g_law_row T.kf_law_row (fr_of T.d_law_row sc_row (fun vs H Q E h => by obtain ⟨p, c, cells, m, side, rfl, _⟩ := h; rfl) (fun _ _ _ _ _ _ us hl => match us, hl with | [_, _], _ => rfl) fun cdv A outer s H vs Q E hr h => ⟨_,
    pss_cons (ps_par (i := 2) (j := 3) rfl sc_row.nd rfl rfl (by decide) rfl rfl
      (pa_cons (pe_g (k_pick T) (hr.mono (by decide)) (pa_cons (pv 0) (pa_cons (pe_lst (pa_cons pe_int (pa_cons pe_int (pa_cons pe_int (pa_cons pe_int (pa_cons pe_int (pa_cons (pe_g (k_draw T) (hr.mono (by decide)) (pa_cons (pv 0) (pa_cons pe_int pa_nil))) pa_nil))))))) pa_nil)))
      (pa_cons (pe_g (k_pick T) (hr.mono (by decide)) (pa_cons (pv 0) (pa_cons (pe_lst (pa_cons pe_non (pa_cons pe_non (pa_cons pe_str (pa_cons pe_int (pa_cons pe_int (pa_cons (pe_g (k_draw T) (hr.mono (by decide)) (pa_cons (pv 0) (pa_cons pe_int pa_nil))) pa_nil))))))) pa_nil))) pa_nil)) rfl)
    (pss_cons (ps_par3 (i := 4) (j := 5) (l := 6) rfl sc_row.nd rfl rfl rfl (by decide) (by decide) (by decide) rfl rfl rfl (pa_cons (pe_lst pa_nil) (pa_cons (pe_lst pa_nil) (pa_cons (pe_lst pa_nil) pa_nil))) rfl)
    (pss_cons (ps_for PassesOwn.never rfl (pi_range1 rfl T.f_range (pa_cons pe_int pa_nil)) (pg_name (i := 7) sc_row.nd rfl (Or.inl rfl))
      (pss_cons (ps_set (i := 8) sc_row.nd rfl (Or.inl rfl) (pe_g (k_draw T) (hr.mono (by decide)) (pa_cons (pv 0) (pa_cons pe_int pa_nil))))
      (Evl.pss_cut (ps_if (pt_cmpR op_eq (pv 8) pe_int (nomark _)) (pss_one (ps_expr (pe_bm PySem.F.plainAttrs_list PySem.F.slot_list_append PySem.F.type_list_append mt_append (pv 4) (pa_cons (pv 7) pa_nil)))) pss_nil)
      (pss_one (ps_if (pt_cmpR op_eq (pv 8) pe_int (nomark _)) (pss_one (ps_expr (pe_bm PySem.F.plainAttrs_list PySem.F.slot_list_append PySem.F.type_list_append mt_append (pv 5) (pa_cons (pv 7) pa_nil)))) pss_nil)))))
    (pss_cons (ps_for PassesOwn.never rfl (pi_range1 rfl T.f_range (pa_cons (pe_g (k_pick T) (hr.mono (by decide)) (pa_cons (pv 0) (pa_cons (pe_lst (pa_cons pe_int (pa_cons pe_int (pa_cons pe_int (pa_cons pe_int (pa_cons pe_int (pa_cons pe_int pa_nil))))))) pa_nil))) pa_nil)) (pg_name (i := 9) sc_row.nd rfl (Or.inl rfl))
      (pss_one (ps_expr (pe_bm PySem.F.plainAttrs_list PySem.F.slot_list_append PySem.F.type_list_append mt_append (pv 6) (pa_cons (pe_g (k_deed T) (hr.mono (by decide)) (pa_cons (pv 0) (pa_cons (pv 1) (pa_cons (pe_cmpR op_notN1 (pv 3) pe_non (nomark _)) (pa_cons (pv 6) pa_nil))))) pa_nil)))))
    (pss_one (ps_ret (pe_tup (pa_cons (pv 2) (pa_cons (pv 3) (pa_cons (pe_callTy call_tuple_of rfl T.f_tuple (by decide +kernel) (pa_cons (pv 4) pa_nil)) (pa_cons (pe_callTy call_tuple_of rfl T.f_tuple (by decide +kernel) (pa_cons (pv 5) pa_nil)) (pa_cons (pe_callTy call_tuple_of rfl T.f_tuple (by decide +kernel) (pa_cons (pv 6) pa_nil))
      (pa_cons (pe_g (k_pick T) (hr.mono (by decide)) (pa_cons (pv 0) (pa_cons (pe_lst (pa_cons (pv 2) (pa_cons pe_int (pa_cons pe_int (pa_cons pe_int pa_nil))))) pa_nil))) pa_nil)))))))))))), ?_⟩)
  obtain ⟨p, c, cells, m, side, rfl, hsd, hpen, hq⟩ := h
  refine q_parD (p := p) (c := c) (cells := cells) (m := m + 33) (n := m + 29) (R := fun vs => ∃ (st : Nat) (h : Option (Option Nat)), vs = [iV st, hearV h] ∧ st ≤ 23 ∧ ∀ n, h = some (some n) → n ≤ 5) (fun H1 e1 hp1 Q q =>
    (evda_cons (evd_pick (k := m + 32) (n := m + 31) (P := fun x => ∃ st : Nat, st ≤ 23 ∧ x = iV st) (evd_var rfl) (evda_cons evd_c (evda_cons evd_c (evda_cons evd_c (evda_cons evd_c (evda_cons evd_c (evda_cons (evd_draw (i := 24) (evd_var rfl) evd_c (by decide) (by decide) rfl) evda_nil)))))) (fun xs hx => ?_) rfl)
      (evda_cons (evd_pick (k := m + 30) (n := m + 29) (P := fun x => ∃ h : Option (Option Nat), (∀ n, h = some (some n) → n ≤ 5) ∧ x = hearV h) (evd_var rfl) (evda_cons evd_c (evda_cons evd_c (evda_cons evd_c (evda_cons evd_c (evda_cons evd_c (evda_cons (evd_draw (i := 6) (evd_var rfl) evd_c (by decide) (by decide) rfl) evda_nil)))))) (fun xs hx => ?_) rfl) evda_nil)) H1 e1 hp1 Q fun vs H2 e2 hp2 hv => q vs H2 e2 hp2 ?_)
    (fun vs ⟨st, h, ev, _⟩ => ⟨_, _, ev⟩) hpen fun v w H1 e1 hp1 ⟨st, hh, ev, hst, hhr⟩ => ?_
  · obtain ⟨x0, r0, rfl, h0, x1, r1, rfl, h1, x2, r2, rfl, h2, x3, r3, rfl, h3, x4, r4, rfl, h4, x5, r5, rfl, ⟨d, hd, h5⟩, h6⟩ := hx
    subst h0 h1 h2 h3 h4 h5 h6
    refine ⟨by simp, by show 6 ≤ 1000; decide, fun x hx => ?_⟩
    simp only [List.mem_cons, List.not_mem_nil, or_false] at hx
    rcases hx with rfl | rfl | rfl | rfl | rfl | rfl
    · exact ⟨0, by omega, rfl⟩
    · exact ⟨0, by omega, rfl⟩
    · exact ⟨1, by omega, rfl⟩
    · exact ⟨2, by omega, rfl⟩
    · exact ⟨23, by omega, rfl⟩
    · exact ⟨d, by omega, rfl⟩
  · obtain ⟨x0, r0, rfl, h0, x1, r1, rfl, h1, x2, r2, rfl, h2, x3, r3, rfl, h3, x4, r4, rfl, h4, x5, r5, rfl, ⟨d, hd, h5⟩, h6⟩ := hx
    subst h0 h1 h2 h3 h4 h5 h6
    refine ⟨by simp, by show 6 ≤ 1000; decide, fun x hx => ?_⟩
    simp only [List.mem_cons, List.not_mem_nil, or_false] at hx
    rcases hx with rfl | rfl | rfl | rfl | rfl | rfl
    · exact ⟨none, fun n h => (by cases h), rfl⟩
    · exact ⟨none, fun n h => (by cases h), rfl⟩
    · exact ⟨some none, fun n h => (by cases h), rfl⟩
    · exact ⟨some (some 0), fun n h => (by cases h; decide), rfl⟩
    · exact ⟨some (some 1), fun n h => (by cases h; decide), rfl⟩
    · exact ⟨some (some d), fun n h => (by cases h; omega), rfl⟩
  · obtain ⟨x, xs, rfl, ⟨st, hst, rfl⟩, y, ys, rfl, ⟨h, hh, rfl⟩, rfl⟩ := hv
    exact ⟨st, h, rfl, hst, hh⟩
  injection ev with ev1 ev2
  injection ev2 with ev2 _
  subst ev1 ev2
  have pl := hp1.lst
  refine q_parD3 (Evl.el_lst Evl.ea_nil (by simp)) (Evl.el_lst Evl.ea_nil (by simp)) (Evl.el_lst Evl.ea_nil (by simp)) fun le lf ld H2 nle nlf nld hef hed hfd e2 hle hlf hld => ?_
  obtain ⟨lep, lec⟩ := hp1.fresh nle
  obtain ⟨lfp, lfc⟩ := hp1.fresh nlf
  obtain ⟨ldp, ldc⟩ := hp1.fresh nld
  have hp2 := hp1.ex e2
  have eb12 : ExB p H1 H2 := ExB.of e2
  -- the boxes
  refine Evl.q_forR1 (n := 3) (Evl.ea_cons Evl.ev_c Evl.ea_nil) (by decide) (fun i σ' H' => ∃ (q : List Nat × List Nat) (s7 s8 : Option V), q ∈ boxRun i ∧ σ' = [some (.ref p), some (.str side), some (iV st), some (hearV hh), some (.ref le), some (.ref lf), some (.ref ld), s7, s8, none] ∧
      ExB p H1 H' ∧ Pen p c cells (m + 29 - i) H' ∧ H' le = some (.lst (q.1.map iV)) ∧ H' lf = some (.lst (q.2.map iV)) ∧ H' ld = some (.lst []))
    (fun H3 e3 => ⟨([], []), none, none, by simp [boxRun], rfl, eb12.trans (ExB.of e3), hp2.ex e3, e3 _ _ hle, e3 _ _ hlf, e3 _ _ hld⟩) ?_ ?_
  · rintro i σ' H3 hi ⟨q, s7, s8, hqr, rfl, eb3, hp3, hle3, hlf3, hld3⟩
    have hi3 : i < 3 := by omega
    have ql := boxRun_len hqr
    refine q_asgD (p := p) (c := c) (cells := cells) (m := m + 29 - i) (n := m + 29 - (i + 1)) (evd_draw (i := 5) (evd_var rfl) evd_c (by decide) (by decide) (by omega)) hp3 fun v H4 e4 hp4 ⟨d, hd, ev⟩ => ?_
    subst ev
    have hle4 : H4 le = some (.lst (q.1.map iV)) := e4 _ _ lep hle3
    have hlf4 : H4 lf = some (.lst (q.2.map iV)) := e4 _ _ lfp hlf3
    have hld4 : H4 ld = some (.lst []) := e4 _ _ ldp hld3
    have eb4 := eb3.trans e4
    refine Evl.q_cut (M := fun σ5 H5 => σ5 = [some (.ref p), some (.str side), some (iV st), some (hearV hh), some (.ref le), some (.ref lf), some (.ref ld), some (iV i), some (.int (d : Int)), none] ∧ ExB p H1 H5 ∧ Pen p c cells (m + 29 - (i + 1)) H5 ∧
        H5 le = some (.lst ((if d = 1 then q.1 ++ [i] else q.1).map iV)) ∧ H5 lf = some (.lst (q.2.map iV)) ∧ H5 ld = some (.lst [])) ?_ ?_
    · refine Evl.s_when (b := decide (d = 1)) (Evl.et_is (Evl.et_test (Evl.ev_op (Evl.ev_var rfl) Evl.ev_c (Evl.rv_eq rfl))) ?_) (fun hb H5 e5 => ?_) fun hb H5 e5 => ?_
      · rw [Bool.eq_iff_iff, decide_eq_true_eq, decide_eq_true_eq]
        exact ⟨fun h => by injection h with h; omega, fun h => by rw [h]; rfl⟩
      · have hb := of_decide_eq_true hb
        refine Evl.s_app (v := iV i) (xs := q.1.map iV) (e5 _ _ hle4) (Evl.ev_var rfl) (Evl.ev_var rfl) (by rw [List.length_map]; omega) fun H6 e6 => ⟨rfl, ?_, ?_, ?_, ?_, ?_⟩
        · exact (eb4.trans (ExB.of (e5.trans e6))).mut nle
        · exact ((hp4.ex e5).ex e6).upd lep lec
        · rw [if_pos hb, List.map_append]
          exact upd_same
        · rw [upd_ne (Ne.symm hef)]
          exact (e5.trans e6) _ _ hlf4
        · rw [upd_ne (Ne.symm hed)]
          exact (e5.trans e6) _ _ hld4
      · have hb := of_decide_eq_false hb
        rw [if_neg hb]
        exact ⟨rfl, eb4.trans (ExB.of e5), hp4.ex e5, e5 _ _ hle4, e5 _ _ hlf4, e5 _ _ hld4⟩
    · rintro σ5 H5 ⟨rfl, eb5, hp5, hle5, hlf5, hld5⟩
      refine Evl.s_when (b := decide (d = 2)) (Evl.et_is (Evl.et_test (Evl.ev_op (Evl.ev_var rfl) Evl.ev_c (Evl.rv_eq rfl))) ?_) (fun hb H6 e6 => ?_) fun hb H6 e6 => ?_
      · rw [Bool.eq_iff_iff, decide_eq_true_eq, decide_eq_true_eq]
        exact ⟨fun h => by injection h with h; omega, fun h => by rw [h]; rfl⟩
      · have hb := of_decide_eq_true hb
        rw [if_neg (by omega)] at hle5
        refine Evl.s_app (v := iV i) (xs := q.2.map iV) (e6 _ _ hlf5) (Evl.ev_var rfl) (Evl.ev_var rfl) (by rw [List.length_map]; omega) fun H7 e7 => ⟨(q.1, q.2 ++ [i]), _, _, List.mem_flatMap.mpr ⟨q, hqr, by simp⟩, rfl, ?_, ?_, ?_, ?_, ?_⟩
        · exact (eb5.trans (ExB.of (e6.trans e7))).mut nlf
        · exact ((hp5.ex e6).ex e7).upd lfp lfc
        · rw [upd_ne hef]
          exact (e6.trans e7) _ _ hle5
        · show _ = some (HO.lst ((q.2 ++ [i]).map iV))
          rw [List.map_append]
          exact upd_same
        · rw [upd_ne (Ne.symm hfd)]
          exact (e6.trans e7) _ _ hld5
      · refine ⟨(if d = 1 then q.1 ++ [i] else q.1, q.2), _, _, List.mem_flatMap.mpr ⟨q, hqr, ?_⟩, rfl, eb5.trans (ExB.of e6), hp5.ex e6, e6 _ _ hle5, e6 _ _ hlf5, e6 _ _ hld5⟩
        by_cases h1 : d = 1
        · rw [if_pos h1]; simp
        · rw [if_neg h1]; simp
  rintro σ' H3 ⟨q, s7, s8, hqr, rfl, eb3, hp3, hle3, hlf3, hld3⟩
  obtain ⟨qe, qf, qd⟩ := boxRun_end q hqr
  have hp3 : Pen p c cells (m + 26) H3 := hp3
  -- the deeds
  refine q_forRD (p := p) (c := c) (cells := cells) (m := m + 26) (n := m + 25) (K := 8) (evd_pick (k := m + 26) (n := m + 25) (P := fun x => ∃ i : Nat, i ≤ 8 ∧ x = .int (i : Int)) (evd_var rfl) (evda_cons evd_c (evda_cons evd_c (evda_cons evd_c (evda_cons evd_c (evda_cons evd_c (evda_cons evd_c evda_nil)))))) (fun xs hx => ?_) rfl) (by decide) hp3
    (fun i σ' H' => ∃ (ds : List Dd) (s9 : Option V), ds.length = i ∧ σ' = [some (.ref p), some (.str side), some (iV st), some (hearV hh), some (.ref le), some (.ref lf), some (.ref ld), s7, s8, s9] ∧
      ExB p H1 H' ∧ Pen p c cells (m + 25 - 3 * i) H' ∧ H' le = some (.lst (q.1.map iV)) ∧ H' lf = some (.lst (q.2.map iV)) ∧ H' ld = some (.lst ((ds.map Dd.txt).map V.str)) ∧ (∀ d ∈ ds, d.ok = true ∧ d.forS side = true) ∧ (ds.filter Dd.isTake).length ≤ 1 ∧ (hh = none → ∀ d ∈ ds, d.isPut = false))
    (fun H4 e4 hp4 => ⟨[], none, rfl, rfl, eb3.trans e4, hp4, e4 _ _ lep hle3, e4 _ _ lfp hlf3, e4 _ _ ldp hld3, by simp, by simp, fun _ => by simp⟩) ?_ ?_
  · obtain ⟨x0, r0, rfl, h0, x1, r1, rfl, h1, x2, r2, rfl, h2, x3, r3, rfl, h3, x4, r4, rfl, h4, x5, r5, rfl, h5, h6⟩ := hx
    subst h0 h1 h2 h3 h4 h5 h6
    refine ⟨by simp, by show 6 ≤ 1000; decide, fun x hx => ?_⟩
    simp only [List.mem_cons, List.not_mem_nil, or_false] at hx
    rcases hx with rfl | rfl | rfl | rfl | rfl | rfl
    · exact ⟨0, by omega, rfl⟩
    · exact ⟨1, by omega, rfl⟩
    · exact ⟨1, by omega, rfl⟩
    · exact ⟨2, by omega, rfl⟩
    · exact ⟨3, by omega, rfl⟩
    · exact ⟨8, by omega, rfl⟩
  · rintro i σ' H4 hi ⟨ds, s9, hdl, rfl, eb4, hp4, hle4, hlf4, hld4, hok, htk, hpt⟩
    refine s_appD (p := p) (c := c) (cells := cells) (m := m + 25 - 3 * i) (n := m + 25 - 3 * (i + 1)) (xs := (ds.map Dd.txt).map V.str) hld4 ldp (Evl.ev_var rfl) (evd_deed (side := side) (hears := decide (hh ≠ none)) (ds := ds) (fun H5 e5 => Evl.ea_cons (Evl.ev_var rfl) (Evl.ea_cons (Evl.ev_var rfl) (Evl.ea_cons (Evl.ev_is (Evl.ev_op (Evl.ev_var rfl) Evl.ev_c rv_notN) ?_) (Evl.ea_cons (Evl.ev_var rfl) Evl.ea_nil)))) hsd hld4 ldp (by omega) (fun d hd => (hok d hd).1) (by omega)) hp4 (by rw [List.length_map, List.length_map]; omega) fun v H5 e5 hp5 ⟨d, d1, d2, d3, d4, ev⟩ => ?_
    · refine congrArg V.bl ?_
      cases hh with
      | none => rfl
      | some h => cases h <;> rfl
    · subst ev
      refine ⟨ds ++ [d], _, by simp [hdl], rfl, (eb4.trans e5).mut nld, hp5.upd ldp ldc, ?_, ?_, ?_, ?_, ?_, ?_⟩
      · rw [upd_ne hed]
        exact e5 _ _ lep hle4
      · rw [upd_ne hfd]
        exact e5 _ _ lfp hlf4
      · rw [List.map_append, List.map_append]
        exact upd_same
      · intro x hx
        rcases List.mem_append.mp hx with hx | hx
        · exact hok x hx
        · obtain rfl : x = d := by simpa using hx
          exact ⟨d1, d2⟩
      · rw [List.filter_append]
        cases ht : d.isTake with
        | false => simpa [ht] using htk
        | true =>
          have : ds.filter Dd.isTake = [] := List.filter_eq_nil_iff.mpr fun e he => by rw [d4 ht e he]; simp
          rw [this]
          simp [ht]
      · intro hn x hx
        rcases List.mem_append.mp hx with hx | hx
        · exact hpt hn x hx
        · obtain rfl : x = d := by simpa using hx
          cases hp : x.isPut with
          | false => rfl
          | true =>
            have := d3 hp
            rw [hn] at this
            simp at this
  rintro N σ' H4 hN ⟨ds, s9, hdl, rfl, eb4, hp4, hle4, hlf4, hld4, hok, htk, hpt⟩
  have hp4 : Pen p c cells (m + 1) H4 := hp4.le (by omega)
  refine ⟨iV st, rfl, hearV hh, rfl, .ref le, rfl, le, _, rfl, .inl ⟨Evl.sq_of hle4, fun te nte => ?_⟩⟩
  have x1 : Ex H4 (upd H4 te (.tup (q.1.map iV))) := Ex.new nte
  have t1 : (upd H4 te (.tup (q.1.map iV))) te = some (.tup (q.1.map iV)) := upd_same
  generalize upd H4 te (.tup (q.1.map iV)) = H5 at x1 t1 ⊢
  refine ⟨.ref lf, rfl, lf, _, rfl, .inl ⟨Evl.sq_of (x1 _ _ hlf4), fun tf ntf => ?_⟩⟩
  have x2 : Ex H5 (upd H5 tf (.tup (q.2.map iV))) := Ex.new ntf
  have t2 : (upd H5 tf (.tup (q.2.map iV))) tf = some (.tup (q.2.map iV)) := upd_same
  generalize upd H5 tf (.tup (q.2.map iV)) = H6 at x2 t2 ⊢
  refine ⟨.ref ld, rfl, ld, _, rfl, .inl ⟨Evl.sq_of ((x1.trans x2) _ _ hld4), fun td ntd => ?_⟩⟩
  have x3 : Ex H6 (upd H6 td (.tup ((ds.map Dd.txt).map V.str))) := Ex.new ntd
  have t3 : (upd H6 td (.tup ((ds.map Dd.txt).map V.str))) td = some (.tup ((ds.map Dd.txt).map V.str)) := upd_same
  generalize upd H6 td (.tup ((ds.map Dd.txt).map V.str)) = H7 at x3 t3 ⊢
  have x13 := (x1.trans x2).trans x3
  refine (evd_pick (p := p) (c := c) (cells := cells) (m := m + 1) (k := m + 1) (n := m) (P := fun x => ∃ i : Nat, i ≤ 23 ∧ x = iV i) (evd_var rfl) (evda_cons (evd_var (v := iV st) rfl) (evda_cons evd_c (evda_cons evd_c (evda_cons evd_c evda_nil)))) (fun xs hx => ?_) rfl : EvD p c cells _ _ H7 (m + 1) m _) H7 (ExB.of (Ex.refl _)) (hp4.ex x13) _ fun v H8 e8 hp8 ⟨th, hth, ev⟩ => ?_
  · obtain ⟨x0, r0, rfl, h0, x1, r1, rfl, h1, x2, r2, rfl, h2, x3, r3, rfl, h3, h4⟩ := hx
    subst h0 h1 h2 h3 h4
    refine ⟨by simp, by show 4 ≤ 1000; decide, fun x hx => ?_⟩
    simp only [List.mem_cons, List.not_mem_nil, or_false] at hx
    rcases hx with rfl | rfl | rfl | rfl
    · exact ⟨st, hst, rfl⟩
    · exact ⟨0, by omega, rfl⟩
    · exact ⟨1, by omega, rfl⟩
    · exact ⟨23, by omega, rfl⟩
  subst ev
  refine ⟨by show 6 ≤ sizeLine; decide, fun t nt => ?_⟩
  obtain ⟨ys, hy⟩ := (hp4.ex x13).lst
  have hH : ExB p H1 H7 := eb4.trans (ExB.of x13)
  have s1 : SqT K H8 te (q.1.map iV) := sqT_mono hy e8 (.inl (.inl ((x2.trans x3) _ _ t1)))
  have s2 : SqT K H8 tf (q.2.map iV) := sqT_mono hy e8 (.inl (.inl (x3 _ _ t2)))
  have s3 : SqT K H8 td ((ds.map Dd.txt).map V.str) := sqT_mono hy e8 (.inl (.inl t3))
  have en : Ex H8 (upd H8 t (.tup [iV st, hearV hh, .ref te, .ref tf, .ref td, iV th])) := Ex.new nt
  refine hq (.ref t) ⟨st, hh, q.1, q.2, ds, th⟩ _ ⟨hst, hhr, qe, qf, qd, (by show ds.length ≤ 8; omega), hok, htk, hpt, hth⟩ ⟨t, te, tf, td, rfl, upd_same, Evl.ex_t en s1, Evl.ex_t en s2, Evl.ex_t en s3⟩ ((e1.trans (hH.trans e8)).trans (ExB.of en)) (hp8.ex en)
end
end Mp
set_option maxHeartbeats 4000000
/-! Def: _law_text. -/
namespace Mp
open PySem PySem.Spec PyProof.Rows L2
open Evl (Ex Ev EvL EvU EvT EvA RV SpV given)

/-- str(x), x a text or an int -/
abbrev rStrB : List V → Hp → VK → Prop := fun xs H Q => (∃ a, xs = [.str a] ∧ Q (.str a) H) ∨ rStrI xs H Q
theorem call_strB {X : Cx} : CallR X (.type "str") rStrB := by
  intro pins s σ H xs us Q I r h
  rcases h with ⟨a, e, q⟩ | h
  · subst e
    obtain ⟨u, e, ru⟩ := vals1 r
    subst e
    obtain ⟨t, e⟩ := ru
    subst e
    exact PySem.P.str_of_str ⟨V.str a, H, I, ⟨t, rfl⟩, q⟩
  · exact call_str_int pins s σ H xs us Q I r h
section
variable {te ta tb : TE} {σ : L2.St} {H : Hp} {K : PySem.W.Frag}
theorem el_cat {xs ys : List V} (ha : EvL ta σ H xs) (hb : EvL tb σ H ys) (hz : xs.length + ys.length ≤ 100000) : EvL (tOp rCat ta tb) σ H (xs ++ ys) := fun H1 e Q q =>
  ha H1 e _ fun a H2 na e2 h2 => hb H2 (e.trans e2) _ fun b H3 nb e3 h3 => ⟨a, b, xs, ys, rfl, rfl, e3 _ _ h2, h3, Evl.sz_of hz, fun p hp => q p _ (Evl.fresh_back (e2.trans e3) hp) ((e2.trans e3).trans (Ex.new hp)) upd_same⟩
theorem el_repB {v : V} {b : Bool} (ha : EvL ta σ H [v]) (hb : Ev tb σ H (.int (if b then 1 else 0))) : EvL (tOp rRep ta tb) σ H (if b then [v] else []) := fun H1 e Q q =>
  ha H1 e _ fun a H2 na e2 h2 => hb H2 (e.trans e2) _ fun H3 e3 => ⟨a, _, [v], rfl, rfl, e3 _ _ h2, by cases b <;> decide, by cases b <;> decide, by cases b <;> (show 1 * _ ≤ sizeLine; decide), fun p hp => by
    have e0 : (List.replicate (if b then (1 : Int) else 0).toNat [v]).flatten = if b then [v] else [] := by cases b <;> rfl
    rw [e0]
    exact q p _ (Evl.fresh_back (e2.trans e3) hp) ((e2.trans e3).trans (Ex.new hp)) upd_same⟩
theorem ev_ifB {t : TT} {b : Bool} {v : V} (h : EvT t σ H b) (h1 : b = true → Ev ta σ H v) (h2 : b = false → Ev tb σ H v) : Ev (tIf t ta tb) σ H v := Evl.ev_if h h1 h2
end
theorem given_map {α : Type} (l : List α) (u : Nat → V) (f : α → V) (h : ∀ k x, l[k]? = some x → u k = f x) : given l.length (fun _ => true) u = l.map f := by
  unfold Evl.given
  rw [List.filter_eq_self.mpr (fun _ _ => rfl)]
  refine List.ext_getElem? fun i => ?_
  rw [List.getElem?_map, List.getElem?_map]
  by_cases hi : i < l.length
  · rw [List.getElem?_range hi, List.getElem?_eq_getElem hi]
    exact congrArg some (h i _ (List.getElem?_eq_getElem hi))
  · rw [List.getElem?_eq_none (by simpa using hi), List.getElem?_eq_none (by omega)]
    rfl
theorem dp_intsT {K : PySem.W.Frag} {H : Hp} {a : Addr} {bs : List Nat} (h : SqT K H a (bs.map iV)) : Dp K H (.ref a) (.tuple (intsD bs)) := .tup h (dpAll_ints bs)
theorem intsT_shaped (bs : List Nat) : SeqAt.shaped (.tuple (intsD bs)) = true := by
  unfold SeqAt.shaped
  simp only [PyData.canLay0, PyData.depth, (intsD_ok bs).1, (intsD_ok bs).2]
  decide
theorem strsT_shaped {l : List Str} (h : ∀ w ∈ l, PyData.strOk w = true) : SeqAt.shaped (.tuple (strsD l)) = true := by
  unfold SeqAt.shaped
  simp only [PyData.canLay0, PyData.depth, strsD_lay h, strsD_depth]
  decide
/-- x != () -/
theorem ev_neE {K : PySem.W.Frag} {te : TE} {σ : L2.St} {H : Hp} {v : V} {ds : List PyData} (h : Ev te σ H v) (hd : ∀ H1, Ex H H1 → Dp K H1 v (.tuple ds)) (hs : SeqAt.shaped (.tuple ds) = true) : Ev (tOp (rNeD K) te (tTup tNil)) σ H (.bl (!decide (ds = []))) :=
  Evl.ev_opU h (Evl.eu_tup Evl.ea_nil (by simp)) fun q H1 hq e => by
    have z := rv_neD (K := K) (H := H1) (fun H2 e2 => hd H2 (e.trans e2)) (fun H2 e2 => .tup (.inl (.inl (e2 _ _ hq))) .nil) hs (by decide +kernel : SeqAt.shaped (.tuple []) = true)
    have e0 : (!PyData.eqv (.tuple ds) (.tuple [])) = !decide (ds = []) := by cases ds <;> rfl
    rw [e0] at z
    exact z
theorem wipe_set8 {σ : L2.St} (x : V) : wipe ((wipe σ [8]).set 8 (some x)) [8] = wipe σ [8] := by
  show ((σ.set 8 none).set 8 (some x)).set 8 none = σ.set 8 none
  rw [List.set_set, List.set_set]
theorem ev_boxJ {K : PySem.W.Frag} {tv : TE} {σ : L2.St} {H : Hp} {z lit : Str} {a : Addr} {bs : List Nat} (hlit : lit = " " ++ z) (h : Ev tv σ H (.ref a)) (ha : SqT K H a (bs.map iV)) (hz : z.length ≤ 10) (hb : ∀ b ∈ bs, b ≤ 2) (hl : bs.length ≤ 3) (hσ : 8 < σ.length) :
    Ev (tM1 (rJoin K) (tC (.str "")) (tOp rCat (tOp rRep (tLst (tCons (tC (.str lit)) tNil)) (tCB rInt1 (tCons (tOp (rNeD K) tv (tTup tNil)) tNil))) (tLc (iTup K tv) (gName 8) tYes (tOp rCatS (tC (.str " ")) (tCB rStrI (tCons (tVar 8) tNil))) [8]))) σ H (.str (boxT z bs)) := by
  have e1 : (" " : Str).length = 1 := by decide +kernel
  have el : (EvL (tOp rCat (tOp rRep (tLst (tCons (tC (.str lit)) tNil)) (tCB rInt1 (tCons (tOp (rNeD K) tv (tTup tNil)) tNil))) (tLc (iTup K tv) (gName 8) tYes (tOp rCatS (tC (.str " ")) (tCB rStrI (tCons (tVar 8) tNil))) [8])) σ H (((Rw.boxW z bs).map fun (p : Str) => (" " : Str) ++ p).map V.str)) := by
    have e2 : ((Rw.boxW z bs).map fun (p : Str) => (" " : Str) ++ p).map V.str = (if (!decide (intsD bs = [])) = true then [V.str lit] else []) ++ (bs.map fun b => V.str (" " ++ nS b)) := by
      cases bs with
      | nil => rfl
      | cons b r =>
        show V.str (" " ++ z) :: _ = _
        rw [hlit, List.map_map, List.map_map]
        rfl
    rw [e2]
    refine el_cat (el_repB (Evl.el_lst (Evl.ea_cons Evl.ev_c Evl.ea_nil) (by simp)) (ev_intB (ev_neE h (fun H1 e => dp_intsT (Evl.ex_t e ha)) (intsT_shaped bs)))) ?_ (by split <;> simp <;> omega)
    rw [← given_map bs (fun k => V.str (" " ++ nS (bs.getD k 0))) _ (fun k x e => by rw [List.getD_eq_getElem?_getD, e]; rfl)]
    have lb : bs.length = (bs.map iV).length := by rw [List.length_map]
    rw [lb]
    refine el_lcT (K := K) (j := 8) (vs := [8]) (xs := bs.map iV) (fun _ => true) _ h ha (by rw [List.length_map]; omega) wipe_set8 fun k v H4 e4 hv => ⟨fun H5 e5 Q q => q H5 (Ex.refl H5), fun _ => ?_⟩
    rw [List.getElem?_map] at hv
    obtain ⟨b, hb2, rfl⟩ := Option.map_eq_some_iff.mp hv
    have hg : bs.getD k 0 = b := by rw [List.getD_eq_getElem?_getD, hb2]; rfl
    rw [hg]
    have := hb b (List.mem_of_getElem? hb2)
    have := nS_len b (by omega)
    exact Evl.ev_op Evl.ev_c (ev_strI (Evl.ev_var (by rw [List.getElem?_set_self (by rw [wipe_length]; exact hσ)]; rfl)) (by omega)) (rv_catS (by omega))
  have e3 : boxT z bs = Str.join "" ((Rw.boxW z bs).map fun (p : Str) => (" " : Str) ++ p) := by cases bs <;> rfl
  rw [e3]
  refine ev_joinL Evl.ev_c el ?_
  have h1 := sum_len (k := 11) (ys := (Rw.boxW z bs).map fun (p : Str) => (" " : Str) ++ p) fun y hy => by
    obtain ⟨p, hp, rfl⟩ := List.mem_map.mp hy
    rw [Str.length_append, e1]
    cases bs with
    | nil => simp [Rw.boxW] at hp
    | cons b r =>
      rcases List.mem_cons.mp hp with rfl | hp
      · omega
      · obtain ⟨n, hn, rfl⟩ := List.mem_map.mp hp
        have := nS_len n (by have := hb n hn; omega)
        omega
  have h2 : (Rw.boxW z bs).length ≤ 4 := by
    cases bs with
    | nil => exact Nat.zero_le _
    | cons b r => simp [Rw.boxW] at hl ⊢; omega
  have h3 : ("" : Str).length = 0 := by decide +kernel
  rw [h3]
  rw [List.length_map] at h1
  have := Nat.mul_le_mul_right 11 h2
  omega
def spText (K : PySem.W.Frag) : Sp := fun vs H Q _ => ∃ (v : V) (r : Rw) (side : Str), vs = [v] ∧ IsPlain K H v r ∧ r.Ok side ∧ ∀ H', Ex H H' → Q (.str r.txt) H'
theorem sv_text {K : PySem.W.Frag} {H : Hp} {v : V} {r : Rw} {side : Str} (h : IsPlain K H v r) (ok : r.Ok side) : SpV (spText K) [v] H (.str r.txt) := fun H1 e Q k E => ⟨v, r, side, rfl, h.ex e, ok, fun H2 e2 => k H2 e2⟩
section
variable {w : World} {K : PySem.W.Frag} {mg : Str → Option Value} {base : Heap}
abbrev nTx : List Str := ["_law_row_here", "_law_state", "_law_hear", "_law_empty", "_law_full", "_law_deeds_so", "_law_then", "_law_found", "_law_box"]
theorem sc_text : FnScope nTx ["_law_row_here"] (defScope s_law_text) := ⟨rfl, rfl, rfl, by decide +kernel, rfl, by decide +kernel, by decide +kernel⟩
theorem k_text (T : TX K mg base) : FG RP w K mg base 1 "_law_text" (spText K) := by
  refine fg_of T.g_law_text T.kf_law_text (fr_of T.d_law_text sc_text (fun vs H Q E h => by obtain ⟨v, r, side, rfl, _⟩ := h; rfl) (fun _ _ _ _ _ _ us hl => match us, hl with | [_], _ => rfl) fun cdv A outer s H vs Q E hr h => ⟨_,
    pss_cons (ps_asg (pv 0) (pg_tup rfl (pgs_cons (pg_name (i := 1) sc_text.nd rfl (Or.inl rfl)) (pgs_cons (pg_name (i := 2) sc_text.nd rfl (Or.inl rfl)) (pgs_cons (pg_name (i := 3) sc_text.nd rfl (Or.inl rfl)) (pgs_cons (pg_name (i := 4) sc_text.nd rfl (Or.inl rfl)) (pgs_cons (pg_name (i := 5) sc_text.nd rfl (Or.inl rfl)) (pgs_cons (pg_name (i := 6) sc_text.nd rfl (Or.inl rfl)) pgs_nil))))))))
    (pss_cons (ps_set (i := 7) sc_text.nd rfl (Or.inl rfl) (pe_op op_add_str (pe_callTy call_str_int rfl T.f_str (by decide +kernel) (pa_cons (pv 1) pa_nil)) (pe_ifExp (pt_cmpR op_isN1 (pv 2) pe_non (nomark _)) pe_str (pe_op op_add_str pe_str (pe_callTy call_strB rfl T.f_str (by decide +kernel) (pa_cons (pv 2) pa_nil))))))
    (pss_cons (ps_set (i := 7) sc_text.nd rfl (Or.inl rfl) (pe_op op_add_str (pv 7) (pe_m1 (r := rJoin K) PySem.F.slot_str_join PySem.F.type_str_join mt_join pe_str (pe_op op_cat (pe_op op_rep (pe_lst (pa_cons pe_str pa_nil)) (pe_callTy call_int1 rfl T.f_int (by decide +kernel) (pa_cons (pe_cmpR (r := rNeD K) (op_neD hr.units) (pv 3) (pe_tup pa_nil) (nomark _)) pa_nil)))
        (pe_lc (own := [("_law_box", 8)]) (g := gName 8) (tt := tYes) (te := tOp rCatS (tC (.str " ")) (tCB rStrI (tCons (tVar 8) tNil))) rfl sc_text.nd (pi_tup (pv 3)) (blkOk_by (own := [("_law_box", 8)]) (N := nTx) (sc := defScope s_law_text) (by decide +kernel)) (fun _ _ _ _ _ => pg_name (i := 8) sc_text.nd rfl (Or.inl rfl)) (fun _ _ _ _ _ => pts_nil) (fun _ _ _ _ _ => pe_op op_add_str pe_str (pe_callTy call_str_int rfl T.f_str (by decide +kernel) (pa_cons (pv 8) pa_nil))))))))
    (pss_cons (ps_set (i := 7) sc_text.nd rfl (Or.inl rfl) (pe_op op_add_str (pv 7) (pe_m1 (r := rJoin K) PySem.F.slot_str_join PySem.F.type_str_join mt_join pe_str (pe_op op_cat (pe_op op_rep (pe_lst (pa_cons pe_str pa_nil)) (pe_callTy call_int1 rfl T.f_int (by decide +kernel) (pa_cons (pe_cmpR (r := rNeD K) (op_neD hr.units) (pv 4) (pe_tup pa_nil) (nomark _)) pa_nil)))
        (pe_lc (own := [("_law_box", 8)]) (g := gName 8) (tt := tYes) (te := tOp rCatS (tC (.str " ")) (tCB rStrI (tCons (tVar 8) tNil))) rfl sc_text.nd (pi_tup (pv 4)) (blkOk_by (own := [("_law_box", 8)]) (N := nTx) (sc := defScope s_law_text) (by decide +kernel)) (fun _ _ _ _ _ => pg_name (i := 8) sc_text.nd rfl (Or.inl rfl)) (fun _ _ _ _ _ => pts_nil) (fun _ _ _ _ _ => pe_op op_add_str pe_str (pe_callTy call_str_int rfl T.f_str (by decide +kernel) (pa_cons (pv 8) pa_nil))))))))
    (pss_one (ps_ret (pe_op op_add_str (pe_op op_add_str (pe_op op_add_str (pe_op op_add_str (pv 7) pe_str) (pe_ifExp (pt_cmpR (r := rNeD K) (op_neD hr.units) (pv 5) (pe_tup pa_nil) (nomark _)) (pe_m1 (r := rJoin K) PySem.F.slot_str_join PySem.F.type_str_join mt_join pe_str (pv 5)) pe_str)) pe_str) (pe_callTy call_str_int rfl T.f_str (by decide +kernel) (pa_cons (pv 6) pa_nil)))))))), ?_⟩)
  obtain ⟨v, r, side, rfl, hv, ok, hq⟩ := h
  obtain ⟨t, te, tf, td, rfl, ht, hte, htf, htd⟩ := id hv
  have be := (box_asc _ ok.empty).2
  have bf := (box_asc _ ok.full).2
  refine q_asgG (P := fun v _ => v = .ref t) (EvP.of (Evl.ev_var rfl) fun _ _ => rfl) fun v H1 e1 ev => ?_
  subst ev
  refine ⟨t, _, rfl, .inl (.inl (e1 _ _ ht)), rfl, _, _, rfl, _, _, rfl, _, _, rfl, _, _, rfl, _, _, rfl, _, _, rfl, rfl, ?_⟩
  have l5 : ("empty" : Str).length ≤ 10 := by decide +kernel
  have l4 : ("full" : Str).length ≤ 10 := by decide +kernel
  have l1 : (" : " : Str).length = 3 := by decide +kernel
  have l2 : (" > " : Str).length = 3 := by decide +kernel
  have l3 : (" hear " : Str).length = 6 := by decide +kernel
  have nst := nS_len r.state (by have := ok.state; omega)
  have nth := nS_len r.thn (by have := ok.thn; omega)
  have nhe : (hearT r.hear).length ≤ 16 := by
    unfold hearT
    cases h : r.hear with
    | none => show Str.empty.length ≤ 16; exact Nat.zero_le _
    | some q =>
      show (" hear " ++ Rw.hearS q).length ≤ 16
      rw [Str.length_append, l3]
      cases q with
      | none => show 6 + Str.length "other" ≤ 16; decide +kernel
      | some n => have := nS_len n (by have := ok.hear n h; omega); show 6 + (nS n).length ≤ 16; omega
  have nbe := boxT_len l5 be.2 be.1
  have nbf := boxT_len l4 bf.2 bf.1
  have ndd := deedsT_len (fun d hd => (ok.deeds d hd).1) ok.len
  refine Evl.q_asg (v := .str (nS r.state ++ hearT r.hear)) (Evl.ev_op (ev_strI (Evl.ev_var rfl) (by have := ok.state; omega)) (Evl.ev_if (b := decide (hearV r.hear = .non)) (Evl.et_test (Evl.ev_op (Evl.ev_var rfl) Evl.ev_c rv_isN)) (fun h => ?_) fun h => ?_) (rv_catS (by omega))) fun H2 e2 => ?_
  · have h := of_decide_eq_true h
    cases hh : r.hear with
    | none => exact Evl.ev_c
    | some q => rw [hh] at h; cases q <;> cases h
  · have h := of_decide_eq_false h
    cases hh : r.hear with
    | none => rw [hh] at h; exact absurd rfl h
    | some q =>
      rw [hh] at nhe
      have nhe : (" hear " ++ Rw.hearS q).length ≤ 16 := nhe
      rw [Str.length_append] at nhe
      refine Evl.ev_op Evl.ev_c (?_ : Ev _ _ _ (.str (Rw.hearS q))) (rv_catS (by omega))
      refine Evl.ev_cb (Evl.ea_cons (Evl.ev_var rfl) Evl.ea_nil) fun H3 e3 Q k => ?_
      cases q with
      | none => exact .inl ⟨"other", rfl, k H3 (Ex.refl _)⟩
      | some n => exact .inr ⟨_, rfl, small_log (by have := ok.hear n hh; omega), k H3 (Ex.refl _)⟩
  have e12 := e1.trans e2
  refine Evl.q_asg (v := .str (nS r.state ++ hearT r.hear ++ boxT "empty" r.empty)) (Evl.ev_op (Evl.ev_var rfl) (ev_boxJ (z := "empty") (by decide +kernel) (Evl.ev_var rfl) (Evl.ex_t e12 hte) l5 be.1 be.2 (by show 8 < 9; decide)) (rv_catS (by rw [Str.length_append]; omega))) fun H3 e3 => ?_
  have e13 := e12.trans e3
  refine Evl.q_asg (v := .str (nS r.state ++ hearT r.hear ++ boxT "empty" r.empty ++ boxT "full" r.full)) (Evl.ev_op (Evl.ev_var rfl) (ev_boxJ (z := "full") (by decide +kernel) (Evl.ev_var rfl) (Evl.ex_t e13 htf) l4 bf.1 bf.2 (by show 8 < 9; decide)) (rv_catS (by rw [Str.length_append, Str.length_append]; omega))) fun H4 e4 => ?_
  have e14 := e13.trans e4
  have htd4 := Evl.ex_t e14 htd
  have hto := txts_ok fun d hd => (ok.deeds d hd).1
  have ejt : r.deeds ≠ [] → Rw.deedsT r.deeds = Str.join " , " (r.deeds.map Dd.txt) := fun h => by
    cases hd : r.deeds with
    | nil => exact absurd hd h
    | cons d l => rfl
  have tp := txt_parts r
  have tp : Str.empty ++ nS r.state ++ hearT r.hear ++ boxT "empty" r.empty ++ boxT "full" r.full ++ " : " ++ Rw.deedsT r.deeds ++ " > " ++ nS r.thn = r.txt := tp
  rw [Str.empty_append] at tp
  refine Evl.s_ret (Evl.ev_is (Evl.ev_op (Evl.ev_op (Evl.ev_op (Evl.ev_op (Evl.ev_var rfl) Evl.ev_c (rv_catS (by simp only [Str.length_append]; omega))) (Evl.ev_if (v := .str (Rw.deedsT r.deeds)) (b := decide (r.deeds ≠ [])) (Evl.et_is (Evl.et_test (ev_neE (Evl.ev_var rfl) (fun H5 e5 => .tup (Evl.ex_t e5 htd4) (dpAll_strs _)) (strsT_shaped hto))) ?_) (fun h => ?_) fun h => ?_) (rv_catS (by simp only [Str.length_append]; omega))) Evl.ev_c (rv_catS (by simp only [Str.length_append]; omega))) (ev_strI (Evl.ev_var rfl) (by have := ok.thn; omega)) (rv_catS (by simp only [Str.length_append]; omega))) (congrArg V.str tp)) fun H5 e5 => hq H5 (e14.trans e5)
  · cases r.deeds <;> rfl
  · have h := of_decide_eq_true h
    rw [ejt h]
    refine ev_joinV Evl.ev_c (Evl.ev_var rfl) (.inr htd4) ?_
    have h1 := sum_len (k := 10) (ys := r.deeds.map Dd.txt) fun y hy => by
      obtain ⟨d, hd, rfl⟩ := List.mem_map.mp hy
      exact Dd.txt_len (ok.deeds d hd).1
    have e1 : (" , " : Str).length = 3 := by decide +kernel
    have := ok.len
    rw [List.length_map] at h1 ⊢
    rw [e1]
    omega
  · have h : r.deeds = [] := by simpa using of_decide_eq_false h
    rw [h]
    exact Evl.ev_c
end
end Mp
set_option maxHeartbeats 4000000
/-! Defs: _law_rows, _law_made. -/
namespace Mp
open PySem PySem.Spec PyProof.Rows L2
open Evl (Ex Ev EvL EvU EvT EvA RV SpV given)

theorem units65 {k : Nat} {A : Around} (r : Room k A) : A.units + 65 < cLine := by have := r.un; omega
/-- plain rows of a side, all unlike -/
structure PlOk (side : Str) (rs : List Rw) : Prop where
  sd : IsSide side
  ok : ∀ r ∈ rs, r.Ok side
  nd : rs.Nodup
  len : rs.length ≤ 10
theorem PlOk.rs {side : Str} {rs : List Rw} (h : PlOk side rs) : RsOk side rs := ⟨h.sd, h.ok, h.nd, by have := h.len; omega⟩
def spRows (K : PySem.W.Frag) : Sp := fun vs H Q _ => ∃ (p c : Addr) (cells : List Int) (m : Nat) (side : Str), vs = [.ref p, .str side, .int 10] ∧ IsSide side ∧ Pen p c cells (m + 331) H ∧ ∀ l xs rs H', H l = none → l ≠ p → l ≠ c → H' l = some (.lst xs) → Plains K H' xs rs → PlOk side rs → ExB p H H' → Pen p c cells m H' → Q (.ref l) H'
section
variable {w : World} {K : PySem.W.Frag} {mg : Str → Option Value} {base : Heap}
abbrev nRw : List Str := ["_law_pen_here", "_law_side", "_law_most", "_law_found", "_law_turn_so", "_law_row_here"]
theorem sc_rows : FnScope nRw ["_law_pen_here", "_law_side", "_law_most"] (defScope s_law_rows) := ⟨rfl, rfl, rfl, by decide +kernel, rfl, by decide +kernel, by decide +kernel⟩
theorem k_rows (T : TX K mg base) : FG RP w K mg base 5 "_law_rows" (spRows K) := by
  refine fg_of T.g_law_rows T.kf_law_rows (fr_of T.d_law_rows sc_rows (fun vs H Q E h => by obtain ⟨p, c, cells, m, side, rfl, _⟩ := h; rfl) (fun _ _ _ _ _ _ us hl => match us, hl with | [_, _, _], _ => rfl) fun cdv A outer s H vs Q E hr h => ⟨_,
    pss_cons (ps_set (i := 3) sc_rows.nd rfl (Or.inl rfl) (pe_lst pa_nil))
    (pss_cons (ps_for PassesOwn.never rfl (pi_range1 rfl T.f_range (pa_cons (pe_g (k_draw T) (hr.mono (by decide)) (pa_cons (pv 0) (pa_cons (pe_op op_add (pv 2) pe_int) pa_nil))) pa_nil)) (pg_name (i := 4) sc_rows.nd rfl (Or.inl rfl))
      (pss_cons (ps_set (i := 5) sc_rows.nd rfl (Or.inl rfl) (pe_g (k_row T) (hr.mono (by decide)) (pa_cons (pv 0) (pa_cons (pv 1) pa_nil))))
      (pss_one (ps_if (pt_cmpR (r := rNotInD K) (op_notInD (units65 hr)) (pv 5) (pv 3) (by rfl)) (pss_one (ps_expr (pe_bm PySem.F.plainAttrs_list PySem.F.slot_list_append PySem.F.type_list_append mt_append (pv 3) (pa_cons (pv 5) pa_nil)))) pss_nil))))
    (pss_one (ps_ret (pv 3)))), ?_⟩)
  obtain ⟨p, c, cells, m, side, rfl, hsd, hpen, hq⟩ := h
  refine Evl.q_asgL (Evl.el_lst Evl.ea_nil (by simp)) fun l H1 nl e1 hl => ?_
  obtain ⟨lp, lc⟩ := hpen.fresh nl
  refine q_forRD (p := p) (c := c) (cells := cells) (m := m + 331) (n := m + 330) (K := 10) (evd_imp (evd_draw (i := 11) (evd_var rfl) (evd_ev fun H2 _ _ => Evl.ev_op (Evl.ev_var rfl) Evl.ev_c Evl.rv_I0) (by decide) (by decide) rfl) fun v ⟨d, hd, ev⟩ => ⟨d, by omega, ev⟩) (by decide) (hpen.ex e1)
    (fun i σ' H' => ∃ (xs : List V) (rs : List Rw) (s4 s5 : Option V), rs.length ≤ i ∧ σ' = [some (.ref p), some (.str side), some (.int 10), some (.ref l), s4, s5] ∧ ExB p H H' ∧ Pen p c cells (m + 330 - 33 * i) H' ∧ H' l = some (.lst xs) ∧ Plains K H' xs rs ∧ (∀ r ∈ rs, r.Ok side) ∧ rs.Nodup)
    (fun H2 e2 hp2 => ⟨[], [], none, none, Nat.le_refl _, rfl, (ExB.of e1).trans e2, hp2, e2 l _ lp hl, .nil, by simp, List.nodup_nil⟩) ?_ ?_
  · rintro i σ' H2 hi ⟨xs, rs, s4, s5, hlen, rfl, eb2, hp2, hl2, hpl, hok, hnd⟩
    have hp2' : Pen p c cells (m + 330 - 33 * (i + 1) + 33) H2 := hp2.le (by omega)
    refine ⟨.ref p, rfl, .str side, rfl, p, c, cells, m + 330 - 33 * (i + 1), side, rfl, hsd, hp2', fun v r H3 okr hv eb3 hp3 => ?_⟩
    obtain ⟨ys, hy⟩ := hp2.lst
    have hl3 : H3 l = some (.lst xs) := eb3 l _ lp hl2
    have hpl3 := Plains.mono hy eb3 hpl
    have lx := hpl.len
    refine Evl.s_when (b := !rs.contains r) (Evl.et_test (Evl.ev_op (Evl.ev_var rfl) (Evl.ev_var rfl) fun H4 e4 Q q => ⟨plainD r, plainsD rs, dp_plain (hv.ex e4), .lst (Evl.sq_of (e4 _ _ hl3)) (dpAll_plains (hpl3.ex e4)), plainD_shaped okr, plainsD_shaped hok, by rw [plainsD_any okr hok]; exact q H4 (Ex.refl _)⟩)) (fun hb H4 e4 => ?_) fun hb H4 e4 => ?_
    · refine Evl.s_app (v := v) (e4 _ _ hl3) (Evl.ev_var rfl) (Evl.ev_var rfl) (by omega) fun H5 e5 => ?_
      have hl5 := (e4.trans e5) _ _ hl3
      have eb : ExB l H5 (upd H5 l (.lst (xs ++ [v]))) := (ExB.of (Ex.refl H5)).upd
      refine ⟨xs ++ [v], rs ++ [r], _, _, by simp; omega, rfl, ((eb2.trans eb3).trans (ExB.of (e4.trans e5))).mut nl, (hp3.ex (e4.trans e5)).upd lp lc, upd_same, PySem.Paired.snoc (Plains.mono hl5 eb (hpl3.ex (e4.trans e5))) (IsPlain.mono v l xs H5 _ hl5 eb (hv.ex (e4.trans e5))), ?_, ?_⟩
      · intro x hx
        rcases List.mem_append.mp hx with hx | hx
        · exact hok x hx
        · obtain rfl : x = r := by simpa using hx
          exact okr
      · rw [List.nodup_append]
        refine ⟨hnd, by simp, fun a ha b hb' e => ?_⟩
        obtain rfl : b = r := by simpa using hb'
        subst e
        simp at hb
        exact hb ha
    · exact ⟨xs, rs, _, _, by omega, rfl, (eb2.trans eb3).trans (ExB.of e4), hp3.ex e4, e4 _ _ hl3, hpl3.ex e4, hok, hnd⟩
  · rintro N σ' H2 hN ⟨xs, rs, s4, s5, hlen, rfl, eb2, hp2, hl2, hpl, hok, hnd⟩
    exact Evl.s_ret (Evl.ev_var rfl) fun H3 e3 => hq l xs rs H3 nl lp lc (e3 _ _ hl2) (hpl.ex e3) ⟨hsd, hok, hnd, by omega⟩ (eb2.trans (ExB.of e3)) ((hp2.le (by omega)).ex e3)
theorem cr_cls (T : TX K mg base) {side : Str} (h : IsSide side) : ClX.CRead K (endC K side) (.type "type") := side_cases (P := fun s => ClX.CRead K (endC K s) (.type "type")) h (by rw [endC_s]; exact ⟨T.rd_Sender, T.cga_Sender⟩) (by rw [endC_r]; exact ⟨T.rd_Receiver, T.cga_Receiver⟩)
theorem cm_SenderRead (T : TX K mg base) : ClX.CMet K (endC K "sender") (.type "type") "read" (He.ma K (He.ga K "Sender") "read") (cmA K (He.ga K "Sender") "read") := by rw [endC_s]; exact ⟨cfB_ok T.cm_Sender, cmB_ok T.rc_Sender, T.fi_Sender_read⟩
theorem cm_ReceiverRead (T : TX K mg base) : ClX.CMet K (endC K "receiver") (.type "type") "read" (He.ma K (He.ga K "Receiver") "read") (cmA K (He.ga K "Receiver") "read") := by rw [endC_r]; exact ⟨cfB_ok T.cm_Receiver, cmB_ok T.rc_Receiver, T.fi_Receiver_read⟩
theorem cr_Row (T : TX K mg base) : ClX.CRead K (He.ga K "Row") (.type "type") := ⟨T.rd_Row, T.cga_Row⟩
theorem cm_RowRead (T : TX K mg base) : ClX.CMet K (He.ga K "Row") (.type "type") "read" (He.ma K (He.ga K "Row") "read") (cmA K (He.ga K "Row") "read") := ⟨cfB_ok T.cm_Row, cmB_ok T.rc_Row, T.fi_Row_read⟩
theorem g_Sender' (T : TX K mg base) : mg "Sender" = some (.ref (endC K "sender")) := by rw [endC_s]; exact T.g_Sender
theorem g_Receiver' (T : TX K mg base) : mg "Receiver" = some (.ref (endC K "receiver")) := by rw [endC_r]; exact T.g_Receiver
def spMadeE (K : PySem.W.Frag) : Sp := fun vs H Q _ => ∃ (l : Addr) (xs : List V) (rs : List Rw) (side : Str), vs = [.str side, .ref l] ∧ H l = some (.lst xs) ∧ Plains K H xs rs ∧ PlOk side rs ∧ ∀ v H', Ex H H' → IsEnd K H' v side rs → Q v H'
theorem sp_madeE {H : Hp} {l : Addr} {xs : List V} {rs : List Rw} {side : Str} (hl : H l = some (.lst xs)) (hx : Plains K H xs rs) (ok : PlOk side rs) : SpP (spMadeE K) [.str side, .ref l] H (fun v H' => IsEnd K H' v side rs) := fun H1 e Q k E => ⟨l, xs, rs, side, rfl, e _ _ hl, hx.ex e, ok, fun v H2 e2 z => k v H2 e2 z⟩
/-- [_law_text(row) for row in rows] -/
theorem el_texts {σ : L2.St} {H : Hp} {tl : TE} {j : Nat} {vs : List Nat} {l : Addr} {xs : List V} {rs : List Rw} {side : Str} {E : XK} (h : Ev tl σ H (.ref l)) (hl : H l = some (.lst xs)) (hx : Plains K H xs rs) (ok : ∀ r ∈ rs, r.Ok side) (hlen : rs.length ≤ 40000) (hw : ∀ x, wipe ((wipe σ vs).set j (some x)) vs = wipe σ vs) (hj : j < σ.length) :
    EvL (tLc (iList K tl) (gName j) tYes (fun σ H Q => tCons (tVar j) tNil σ H fun vs H1 => spText K vs H1 Q E) vs) σ H ((rs.map Rw.txt).map V.str) := by
  have lx := hx.len
  rw [List.map_map, ← given_map rs (fun k => V.str (rs.getD k r0).txt) _ (fun k x e => by rw [List.getD_eq_getElem?_getD, e]; rfl), ← lx]
  refine Evl.el_lcL (K := K) (fun _ => true) _ h (Evl.sq_of hl) (by omega) hw (fun k v H4 e4 hv => fun H5 e5 Q q => q H5 (Ex.refl H5)) fun k v H4 e4 hv _ => ?_
  obtain ⟨r, hr, isp⟩ := hx.get hv
  have hg : rs.getD k r0 = r := by rw [List.getD_eq_getElem?_getD, hr]; rfl
  show Ev _ _ _ (V.str (rs.getD k r0).txt)
  rw [hg]
  exact ev_g (Evl.ea_cons (Evl.ev_var (by rw [List.getElem?_set_self (by rw [wipe_length]; exact hj)])) Evl.ea_nil) (sv_text (isp.ex e4) (ok r (List.mem_of_getElem? hr)))
abbrev nMd : List Str := ["_law_side", "_law_rows_here", "_law_page", "_law_row_here"]
theorem sc_made : FnScope nMd ["_law_side", "_law_rows_here"] (defScope s_law_made) := ⟨rfl, rfl, rfl, by decide +kernel, rfl, by decide +kernel, by decide +kernel⟩
theorem k_made (T : TX K mg base) : FG RP w K mg base 13 "_law_made" (spMadeE K) := by
  refine fg_of T.g_law_made T.kf_law_made (fr_of T.d_law_made sc_made (fun vs H Q E h => by obtain ⟨l, xs, rs, side, rfl, _⟩ := h; rfl) (fun _ _ _ _ _ _ us hl => match us, hl with | [_, _], _ => rfl) fun cdv A outer s H vs Q E hr h => ⟨_,
    pss_cons (ps_set (i := 2) sc_made.nd rfl (Or.inl rfl) (pe_ifExp (pt_cmpR (r := rNeD K) (op_neD hr.units) (pv 1) (pe_lst pa_nil) (nomark _)) (pe_m1 (r := rJoin K) PySem.F.slot_str_join PySem.F.type_str_join mt_join pe_str
      (pe_lc (own := [("_law_row_here", 3)]) (g := gName 3) (tt := tYes) rfl sc_made.nd (pi_list (pv 1)) (blkOk_by (own := [("_law_row_here", 3)]) (N := nMd) (sc := defScope s_law_made) (by decide +kernel)) (fun _ _ _ _ _ => pg_name (i := 3) sc_made.nd rfl (Or.inl rfl)) (fun _ _ _ _ _ => pts_nil) (fun _ _ _ _ _ => pe_g (k_text T) (hr.mono (by decide)) (pa_cons (pv 3) pa_nil)))) pe_str))
    (pss_one (ps_ret (pe_ifExp (pt_cmpR op_eq (pv 0) pe_str (nomark _)) (ClX.pe_cmeth (pe_gR (g_Sender' T)) (cr_cls T (.inl rfl)) (cm_SenderRead T) (k_Sender_read T) hr pass00 (pa_cons (pv 2) pa_nil)) (ClX.pe_cmeth (pe_gR (g_Receiver' T)) (cr_cls T (.inr rfl)) (cm_ReceiverRead T) (k_Receiver_read T) hr pass00 (pa_cons (pv 2) pa_nil))))), ?_⟩)
  obtain ⟨l, xs, rs, side, rfl, hl, hx, ok, hq⟩ := h
  have hlen := ok.len
  have hjn : rs ≠ [] → pageT rs = Str.join " ; " (rs.map Rw.txt) := fun h => by
    cases hr : rs with
    | nil => exact absurd hr h
    | cons r l => rfl
  refine Evl.q_asg (v := .str (pageT rs)) (Evl.ev_if (b := decide (rs ≠ [])) (Evl.et_is (Evl.et_test (Evl.ev_opL (Evl.ev_var rfl) (Evl.el_lst Evl.ea_nil (by simp)) fun q H1 hq1 e1 => rv_neD (fun H2 e2 => .lst (Evl.sq_of ((e1.trans e2) _ _ hl)) (dpAll_plains (hx.ex (e1.trans e2)))) (fun H2 e2 => .lst (Evl.sq_of (e2 _ _ hq1)) .nil) (plainsD_shaped ok.ok) (by decide +kernel))) ?_) (fun hb => ?_) fun hb => ?_) fun H1 e1 => ?_
  · cases rs <;> rfl
  · have hb := of_decide_eq_true hb
    rw [hjn hb]
    refine ev_joinL Evl.ev_c (el_texts (Evl.ev_var rfl) hl hx ok.ok (by omega) (fun _ => rfl) (by show 3 < 4; decide)) ?_
    have h1 := sum_len (k := 1000) (ys := rs.map Rw.txt) fun y hy => by
      obtain ⟨r, hr, rfl⟩ := List.mem_map.mp hy
      exact row_txt_len (ok.ok r hr)
    have e1 : (" ; " : Str).length = 3 := by decide +kernel
    rw [List.length_map] at h1 ⊢
    rw [e1]
    omega
  · have hb : rs = [] := by simpa using of_decide_eq_false hb
    rw [hb]
    exact Evl.ev_c
  have tst : EvT (tTest (tOp rEq (tVar 0) (tC (.str "sender")))) [some (V.str side), some (V.ref l), some (V.str (pageT rs)), none] H1 (decide (V.str side = V.str "sender")) := Evl.et_test (Evl.ev_op (Evl.ev_var rfl) Evl.ev_c (Evl.rv_eq rfl))
  refine tst H1 (Ex.refl _) _ fun H2 e2 => ?_
  rcases ok.sd with rfl | rfl
  · exact ⟨rfl, .str (pageT rs), rfl, rs, rfl, ok.rs, fun v H3 e3 z => hq v H3 ((e1.trans e2).trans e3) z⟩
  · exact ⟨rfl, .str (pageT rs), rfl, rs, rfl, ok.rs, fun v H3 e3 z => hq v H3 ((e1.trans e2).trans e3) z⟩
end
end Mp
set_option maxHeartbeats 4000000
/-! Defs that say repr (no guard stands); _law_tells. -/
namespace Mp
open PySem PySem.Spec PyProof.Rows L2
open Evl (Ex Ev EvL EvU EvT EvA RV SpV given)

/-- a def's promise where no guard stands -/
def FnG (P : Program) (w : World) (K : PySem.W.Frag) (mg : Str → Option Value) (base : Heap) (k : Nat) (f : Addr) (sp : Sp) : Prop :=
  ∀ (A : Around) (outer : List Env) (s : Shared) (H : Hp) (us : List Value) (vs : List V) (Q : VK), A.guards = some [] → Room k A → Env0 P w K mg base A outer s H → Vals vs us → sp vs H Q E0 →
    codeAny (model P w) A (.call (.ref f) ⟨us, []⟩) (CR CX0 outer P w H s Q E0) s
structure FGG (P : Program) (w : World) (K : PySem.W.Frag) (mg : Str → Option Value) (base : Heap) (k : Nat) (x : Str) (sp : Sp) : Prop where
  ex : ∃ f, mg x = some (.ref f) ∧ PySem.W.keepIn K (.ref f) = true ∧ FnG P w K mg base k f sp
section
variable {w : World} {K : PySem.W.Frag} {mg : Str → Option Value} {base : Heap} {k : Nat} {f : Addr} {x qual : Str} {st : Stmt} {N ps : List Str} {sp : Sp}
theorem fr_ofG (hF : ∃ fd, FunD K x qual (defArgs st) (defBody st) (defScope st) [] [] f fd) (S : FnScope N ps (defScope st)) (len : ∀ vs H Q E, sp vs H Q E → vs.length = ps.length)
    (hb : ∀ (kV doc pm : Value) (an : Option Addr) (cdv ct : Value) (us : List Value), us.length = ps.length → bindArgs (PySem.W.fnOf x qual (defArgs st) (defBody st) (defScope st) .none kV doc pm an cdv ct) ⟨us, []⟩ = pure (ps.zip us))
    (hbody : ∀ (cdv : Value) (A : Around) (outer : List Env) (s : Shared) (H : Hp) (vs : List V) (Q : VK), A.guards = some [] → Room k (A.deeper (envOfC qual (defScope st) s.heap.objs.size f cdv)) → sp vs H Q E0 →
      ∃ t, PSs (cxOf CX0 RP w K mg base N qual (defScope st) f cdv A outer s H E0).nox (defBody st) t ∧ t { nx := fun _ H' => Q .non H', rt := Q } (start N vs) H) : FnG RP w K mg base (k + 1) f sp := by
  obtain ⟨fd, F⟩ := hF
  intro A outer s H us vs Q hg hr e0 r hsp
  have hl := len _ _ _ _ hsp
  refine call_sh F S hr e0 r hl ?_ fun cdv hr' => ?_
  · obtain ⟨oc, od, dV, kV, doc, pm, an, cdv, ct, osl, rfl, lk, hcd, hd, hk⟩ := F.ex
    rcases hd with ⟨_, rfl⟩ | ⟨e, _⟩
    · exact hb kV doc pm an cdv ct us (by rw [← r.length]; exact hl)
    · exact absurd rfl e
  · obtain ⟨t, ht, hq⟩ := hbody cdv A outer s H vs Q hg hr' hsp
    exact ⟨t, ht.nox, hq⟩
theorem fgg_of (hg : mg x = some (.ref f)) (hk : PySem.W.keepIn K (.ref f) = true) (F : FnG RP w K mg base k f sp) : FGG RP w K mg base k x sp := ⟨f, hg, hk, F⟩
end
section
variable {X : Cx} {k : Nat} {sp : Sp} {x : Str} {e : Expr} {es : List Expr} {t : TA} {p pos : Pos}
theorem pe_gG (hgd : X.A.guards = some []) (F : FGG X.prog X.w X.K X.mg X.base k x sp) (hr : Room k X.A) (ha : PA X (e :: es) t) (hg : Gl X x := by rfl) (hd : (x == ("__debug__" : Str)) = false := by decide)
    (he : starEach (e :: es) X.env = (false, eval e X.env) :: starEach es X.env := by rfl) (hst : (backTo pos (starEach es X.env)).any (·.1) = false := by rfl) :
    PE X (.Call (.Name x p) (e :: es) [] pos) (fun σ H Q => t σ H fun vs H1 => sp vs H1 Q E0) := by
  obtain ⟨f, hm, hk, F⟩ := F.ex
  refine ⟨fun pins s σ H Q I h => wpAny_Call_Name_kw (ld_glob I hg hm (PySem.W.callWith_K (h₀ := X.base) I.ok.mod.kin hk (thn (ha.run pos pins s σ H _ I h) fun us s1 ⟨vs, H1, I1, r, q⟩ => ⟨I1.kIn, ?_⟩) he hst) hd)⟩
  refine wpAny_call (codeAny_mono (F X.A X.stack s1 H1 us vs Q hgd hr I1.env0 r q) fun r s' hq => ?_)
  match r, hq with
  | .ok (.ret u), hq => exact I1.after hq
end
abbrev rReprK (K : PySem.W.Frag) := rReprD K
theorem ev_repr {K : PySem.W.Frag} {te : TE} {σ : L2.St} {H : Hp} {v : V} {d : PyData} (h : Ev te σ H v) (hd : ∀ H1, Ex H H1 → Dp K H1 v d) (h1 : d.canLay0 = true) (h2 : d.showable = true) (h3 : d.depth ≤ 60) (h4 : d.shown.length ≤ 100000) : Ev (tCB (rReprD K) (tCons te tNil)) σ H (.str d.shown) :=
  Evl.ev_cb (Evl.ea_cons h Evl.ea_nil) fun H1 e Q q => ⟨v, d, rfl, hd H1 e, h1, h2, h3, Evl.sz_of h4, q H1 (Ex.refl _)⟩
theorem ev_reprL {K : PySem.W.Frag} {te : TE} {σ : L2.St} {H : Hp} {xs : List V} {ds : List PyData} (h : EvL te σ H xs) (hd : ∀ H1, Ex H H1 → DpAll K H1 xs ds) (h1 : (PyData.list ds).canLay0 = true) (h2 : (PyData.list ds).showable = true) (h3 : (PyData.list ds).depth ≤ 60) (h4 : (PyData.list ds).shown.length ≤ 100000) :
    Ev (tCB (rReprD K) (tCons te tNil)) σ H (.str (PyData.list ds).shown) := fun H1 e Q q => h H1 e _ fun p H2 n e2 hp => ⟨.ref p, .list ds, rfl, .lst (Evl.sq_of hp) (hd H2 (e.trans e2)), h1, h2, h3, Evl.sz_of h4, q H2 e2⟩
section
variable {X : Cx} {σ : L2.St} {H : Hp} {ta tb te : TE} {a C dx : Addr} {fs : List (Str × V)} {n : Nat} {sp : Sp} {v x y z : V} {P : V → Hp → Prop} {r : R2}
theorem ev_lenO {i : Int} (h : Ev te σ H (.ref a)) (ha : H a = some (.ins C dx fs)) (G : OG X.prog X.w X.K X.mg X.base n C "__len__" sp) (hr : Room (n + 1) X.A) (hs : SpV sp [.ref a] H (.int i)) (h0 : 0 ≤ i) (h1 : i < 2 ^ 63) : Ev (tCB (rLenO X) (tCons te tNil)) σ H (.int i) :=
  Evl.ev_cb (Evl.ea_cons h Evl.ea_nil) fun H1 e Q q => ⟨a, C, dx, fs, n, sp, rfl, e _ _ ha, G, hr, hs H1 e _ (fun H2 e2 => ⟨i, rfl, h0, h1, q H2 e2⟩) E0⟩
theorem ev_boolO {i : Int} (h : Ev te σ H (.ref a)) (ha : H a = some (.ins C dx fs)) (nb : PySem.W.findIn X.K (.ref C) "__bool__" = some none) (G : OG X.prog X.w X.K X.mg X.base n C "__len__" sp) (hr : Room (n + 3) X.A) (hs : SpV sp [.ref a] H (.int i)) (h0 : 0 ≤ i) (h1 : i < 2 ^ 63) :
    Ev (tCB (rBoolO X) (tCons te tNil)) σ H (.bl (i != 0)) := Evl.ev_cb (Evl.ea_cons h Evl.ea_nil) fun H1 e Q q => ⟨a, C, dx, fs, n, sp, rfl, e _ _ ha, nb, G, hr, hs H1 e _ (fun H2 e2 => ⟨i, rfl, h0, h1, q H2 e2⟩) E0⟩
theorem ev_opQ (ha : EvP ta σ H P) (hb : ∀ H1, Ex H H1 → Ev tb σ H1 y) (hr : ∀ x H1, Ex H H1 → P x H1 → RV r x y H1 z) (hP : ∀ v H H', Ex H H' → P v H → P v H') : Ev (tOp r ta tb) σ H z := fun H1 e Q q =>
  ha H1 e _ fun x H2 e2 p => hb H2 (e.trans e2) H2 (Ex.refl _) _ fun H3 e3 => hr x H3 ((e.trans e2).trans e3) (hP _ _ _ e3 p) H3 (Ex.refl _) Q fun H4 e4 => q H4 ((e2.trans e3).trans e4)
/-- both operands new lists, told by words -/
theorem ev_opPP {R R' : List V → Hp → Prop} (ha : EvLP ta σ H R) (hb : EvLP tb σ H R') (hR : ∀ ys H H', Ex H H' → R ys H → R ys H') (hr : ∀ p q ys zs H1, H1 p = some (.lst ys) → H1 q = some (.lst zs) → R ys H1 → R' zs H1 → RV r (.ref p) (.ref q) H1 z) : Ev (tOp r ta tb) σ H z := fun H1 e Q k =>
  ha H1 e _ fun p ys H2 _ e2 hp r1 => hb H2 (e.trans e2) _ fun q zs H3 _ e3 hq r2 => hr p q ys zs H3 (e3 _ _ hp) hq (hR _ _ _ e3 r1) r2 H3 (Ex.refl _) Q fun H4 e4 => k H4 ((e2.trans e3).trans e4)
end
/-- pairs of texts -/
def IsPair2 (a b : Str) (y : V) (H : Hp) : Prop := ∃ t, y = .ref t ∧ H t = some (.tup [.str a, .str b])
theorem IsPair2.mono {a b : Str} : MonoV (IsPair2 a b) := fun y D xs H H' hD e ⟨t, ey, ht⟩ => ⟨t, ey, tup_mono hD e ht⟩
theorem IsPair2.ex {a b : Str} {y : V} {H H' : Hp} (e : Ex H H') (h : IsPair2 a b y H) : IsPair2 a b y H' := by
  obtain ⟨t, ey, ht⟩ := h
  exact ⟨t, ey, e _ _ ht⟩
def pairD (a : Str) : PyData := .tuple [.str a, .str a]
def pairsD (l : List Str) : List PyData := l.map pairD
theorem pairsD_ok : ∀ {l : List Str}, (∀ w ∈ l, PyData.strOk w = true) → PyData.canLayAll0 (pairsD l) = true ∧ PyData.depthAll (pairsD l) ≤ 1
  | [], _ => ⟨rfl, by decide⟩
  | a :: l, h => by
    have z := pairsD_ok fun w hw => h w (List.mem_cons_of_mem _ hw)
    have y := h a (by simp)
    refine ⟨?_, ?_⟩
    · show ((PyData.strOk a && (PyData.strOk a && true)) && PyData.canLayAll0 (pairsD l)) = true
      rw [y, z.1]; rfl
    · show max _ (PyData.depthAll (pairsD l)) ≤ 1
      exact Nat.max_le.mpr ⟨Nat.le_refl 1, z.2⟩
theorem pairs_shaped {l : List Str} (h : ∀ w ∈ l, PyData.strOk w = true) : SeqAt.shaped (.list (pairsD l)) = true := by
  have z := pairsD_ok h
  unfold SeqAt.shaped
  simp only [PyData.canLay0, PyData.depth, z.1, Bool.true_and]
  exact decide_eq_true (Nat.le_trans (Nat.succ_le_succ z.2) (by decide : 2 ≤ 64))
theorem pairsD_eqv : ∀ l : List Str, PyData.eqvAll (pairsD l) (pairsD l) = true
  | [] => rfl
  | a :: l => by
    show ((a == a) && ((a == a) && true) && PyData.eqvAll (pairsD l) (pairsD l)) = true
    rw [pairsD_eqv l]
    simp
theorem each_pairs {K : PySem.W.Frag} {H : Hp} (l : List Str) (P : Nat → Str) {ys : List V} (h : Each (fun i y H => IsPair2 (P i) (P i) y H) H ((List.range l.length).filter fun _ => true) ys) (hP : ∀ k x, l[k]? = some x → P k = x) : DpAll K H ys (pairsD l) := by
  rw [List.filter_eq_self.mpr (fun _ _ => rfl)] at h
  have key : ∀ {is : List Nat} {ys : List V}, Each (fun i y H => IsPair2 (P i) (P i) y H) H is ys → DpAll K H ys (is.map fun i => pairD (P i)) := fun {is ys} h => by
    induction h with
    | nil => exact .nil
    | cons e _ ih =>
      obtain ⟨t, rfl, ht⟩ := e
      exact .cons (.tup (.inl (.inl ht)) (.cons (.str _) (.cons (.str _) .nil))) ih
  have z := key h
  have e0 : (List.range l.length).map (fun i => pairD (P i)) = pairsD l := by
    refine List.ext_getElem? fun i => ?_
    unfold pairsD
    rw [List.getElem?_map, List.getElem?_map]
    by_cases hi : i < l.length
    · rw [List.getElem?_range hi, List.getElem?_eq_getElem hi]
      exact congrArg (fun x => some (pairD x)) (hP i _ (List.getElem?_eq_getElem hi))
    · rw [List.getElem?_eq_none (by simpa using hi), List.getElem?_eq_none (by omega)]
      rfl
  rw [e0] at z
  exact z
theorem each_pairs_ex {P : Nat → Str} {is : List Nat} {ys : List V} {H H' : Hp} (e : Ex H H') (h : Each (fun i y H => IsPair2 (P i) (P i) y H) H is ys) : Each (fun i y H => IsPair2 (P i) (P i) y H) H' is ys := L2.Paired.mapP h fun _ _ z => z.ex e
section
variable {w : World} {K : PySem.W.Frag} {mg : Str → Option Value} {base : Heap} {X : Cx} {σ : L2.St} {H : Hp} {te ta tb : TE} {side : Str} {rs : List Rw} {v : V}
/-- str(row) -/
theorem ev_strR (hX : OG X.prog X.w X.K X.mg X.base 6 (He.ga X.K "Row") "__str__" (spRowStr X.K)) (hr : Room 8 X.A) {r : Rw} (h : EvP te σ H fun v H' => IsRow X.K H' v r) : Ev (tCB (rStrO X) (tCons te tNil)) σ H (.str r.txt) := fun H1 e Q q => h H1 e _ fun v H2 e2 hv => by
  obtain ⟨b, dxb, pd, pe, pf, pk, zs, rfl, hb, _⟩ := id hv
  exact ⟨b, _, dxb, _, 6, spRowStr X.K, rfl, hb, hX, hr, sv_rowStr hv H2 (Ex.refl _) _ (fun H3 e3 => ⟨⟨_, rfl⟩, q H3 (e2.trans e3)⟩) E0⟩
/-- [str(row) for row in end] -/
theorem el_endStr {j : Nat} {vs : List Nat} (hX : OG X.prog X.w X.K X.mg X.base 6 (He.ga X.K "Row") "__str__" (spRowStr X.K)) (hI : ItF X.prog X.w X.K X.mg X.base 1 (endC X.K side) "own_rows") (hr : Room 8 X.A) (h : Ev te σ H v) (hv : IsEnd X.K H v side rs) (hw : ∀ x, wipe ((wipe σ vs).set j (some x)) vs = wipe σ vs) (hj : j < σ.length) :
    EvL (tLc (iOwn X "own_rows" te) (gName j) tYes (tCB (rStrO X) (tCons (tVar j) tNil)) vs) σ H ((rs.map Rw.txt).map V.str) := by
  obtain ⟨a, dx, p, xs, rfl, ha, hp, hx, ok⟩ := hv
  have lx := hx.len
  have := ok.len
  rw [List.map_map, ← given_map rs (fun k => V.str (rs.getD k r0).txt) _ (fun k x e => by rw [List.getD_eq_getElem?_getD, e]; rfl), ← lx]
  refine el_lcO (X := X) (k := 1) (fun _ => true) _ h ha rfl hp hI (hr.mono (by decide)) (by omega) hw fun k v H4 e4 hv => ⟨fun H5 e5 Q q => q H5 (Ex.refl H5), fun _ => ?_⟩
  obtain ⟨r, hr1, isr⟩ := hx.get hv
  have hg : rs.getD k r0 = r := by rw [List.getD_eq_getElem?_getD, hr1]; rfl
  show Ev _ _ _ (V.str (rs.getD k r0).txt)
  rw [hg]
  exact ev_strR hX hr (EvP.of (Evl.ev_var (by rw [List.getElem?_set_self (by rw [wipe_length]; exact hj)])) fun H5 e5 => isr.ex (e4.trans e5))
/-- end[i] -/
theorem ep_endGet {i : Nat} {r : Rw} (hO : OX X.prog X.w X.K X.mg X.base (CX X.prog X.w) 4 (endC X.K side) "__getitem__" (spEndGet X.K)) (hr : Room 5 X.A) (h : Ev ta σ H v) (hv : IsEnd X.K H v side rs) (h2 : Ev tb σ H (.int (i : Int))) (hi : rs[i]? = some r) :
    EvP (tOp (rIxO X (CX X.prog X.w) E0) ta tb) σ H fun x H' => IsRow X.K H' x r := fun H1 e Q q => h H1 e _ fun H2 e2 => h2 H2 (e.trans e2) _ fun H3 e3 => by
  have hv3 := hv.ex ((e.trans e2).trans e3)
  obtain ⟨a, dx, p, xs, rfl, ha, hp, hx, ok⟩ := id hv3
  exact ⟨a, _, dx, _, 4, spEndGet X.K, rfl, ha, hO, hr, .ref a, .int (i : Int), side, rs, rfl, hv3, .int _, .inl ⟨i, r, rfl, hi, fun x H4 e4 hx4 => q x H4 ((e2.trans e3).trans e4) hx4⟩⟩
end
theorem el_lcLP {K : PySem.W.Frag} {σ : L2.St} {H : Hp} {tl te : TE} {j : Nat} {vs : List Nat} {a : Addr} {xs : List V} (P : Nat → V → Hp → Prop) (hP : ∀ i, MonoV (P i)) (h : Ev tl σ H (.ref a)) (hx : SqL K H a xs) (hz : xs.length ≤ 40000) (hw : ∀ x, wipe ((wipe σ vs).set j (some x)) vs = wipe σ vs)
    (turn : ∀ (i : Nat) (x : V) H1, Ex H H1 → xs[i]? = some x → EvP te ((wipe σ vs).set j (some x)) H1 (P i)) : EvLP (tLc (iList K tl) (gName j) tYes te vs) σ H (fun ys H2 => Each P H2 ((List.range xs.length).filter fun _ => true) ys) :=
  el_lcP xs.length (fun _ => true) P hP hz (J := Itl K a) (fun H1 e R r => h H1 e _ fun H2 e2 => ⟨a, rfl, ⟨xs, Evl.ex_l (e.trans e2) hx⟩, r H2 e2⟩)
    (fun i H1 e hi => ⟨xs, xs[i], Evl.ex_l e hx, List.getElem?_eq_getElem hi⟩) (fun H1 e => ⟨xs, Evl.ex_l e hx, Nat.le_refl _⟩) fun i x H1 H2 e hi hy => by
      obtain ⟨rfl, hy⟩ := hy
      have hxi := hy xs (Evl.ex_l e hx)
      exact ⟨Ex.refl _, _, hw x, fun Q q => q _ (Ex.refl _), fun H5 e5 Q q => q H5 (Ex.refl H5), fun _ => turn i x _ e hxi⟩
theorem el_is {te : TE} {σ : L2.St} {H : Hp} {xs ys : List V} (h : EvL te σ H xs) (e : xs = ys) : EvL te σ H ys := e ▸ h
theorem shown_nb : ∀ n, n ≤ 10 → ∀ b : Bool, (PyData.list [.int ((n : Nat) : Int), .bool b]).shown.length ≤ 100000 := by
  intro n hn b
  have key : ∀ n ∈ List.range 11, ∀ b ∈ [true, false], (PyData.list [.int ((n : Nat) : Int), .bool b]).shown.length ≤ 100000 := by decide +kernel
  exact key n (by simp; omega) b (by cases b <;> simp)
def spTells (K : PySem.W.Frag) : Sp := fun vs H Q _ => ∃ (v : V) (l : Addr) (xs : List V) (rs : List Rw) (side : Str), vs = [v, .ref l] ∧ IsEnd K H v side rs ∧ H l = some (.lst xs) ∧ Plains K H xs rs ∧ PlOk side rs ∧ ∀ H', Ex H H' → Q (.bl true) H'
section
variable {w : World} {K : PySem.W.Frag} {mg : Str → Option Value} {base : Heap}
abbrev nTe : List Str := ["_law_end", "_law_rows_here", "_law_row_here", "_law_one", "_law_two", "_law_at"]
theorem sc_tells : FnScope nTe ["_law_end", "_law_rows_here"] (defScope s_law_tells) := ⟨rfl, rfl, rfl, by decide +kernel, rfl, by decide +kernel, by decide +kernel⟩
abbrev xTe (w : World) (K : PySem.W.Frag) (mg : Str → Option Value) (base : Heap) (cdv : Value) (A : Around) (outer : List Env) (s : Shared) (H : Hp) : Cx := (cxOf CX0 RP w K mg base nTe "_law_tells" (defScope s_law_tells) (He.ga K "_law_tells") cdv A outer s H E0).nox
theorem passE0 {X : Cx} : Passes (CX X.prog X.w) X E0 := fun _ _ _ _ _ _ _ ⟨_, _, _, _, _, _, _, _, _, _, _, _, h⟩ => h.elim
theorem k_tells (T : TX K mg base) : FGG RP w K mg base 13 "_law_tells" (spTells K) := by
  refine fgg_of T.g_law_tells T.kf_law_tells (fr_ofG T.d_law_tells sc_tells (fun vs H Q E h => by obtain ⟨v, l, xs, rs, side, rfl, _⟩ := h; rfl) (fun _ _ _ _ _ _ us hl => match us, hl with | [_, _], _ => rfl) fun cdv A outer s H vs Q hgd hr h => ⟨_,
    pss_cons (ps_if (pt_cmpR op_ne (pe_callB (r := rReprD K) (call_reprD hgd (by have := hr.un; show (A.deeper _).units + 70 < cLine; omega)) rfl T.f_repr (by decide +kernel) (pa_cons (pe_lst (pa_cons (pe_callB (r := rLenO (xTe w K mg base cdv A outer s H)) call_lenO rfl T.f_len PySem.boot_len (pa_cons (pv 0) pa_nil)) (pa_cons (pe_callTy (r := rBoolO (xTe w K mg base cdv A outer s H)) call_boolO rfl T.f_bool (by decide +kernel) (pa_cons (pv 0) pa_nil)) pa_nil))) pa_nil))
        (pe_callB (r := rReprD K) (call_reprD hgd (by have := hr.un; show (A.deeper _).units + 70 < cLine; omega)) rfl T.f_repr (by decide +kernel) (pa_cons (pe_lst (pa_cons (pe_callB (r := Evl.rLenS K) call_len_seq rfl T.f_len PySem.boot_len (pa_cons (pv 1) pa_nil)) (pa_cons (pe_cmpR (r := rNeD K) (op_neD hr.units) (pv 1) (pe_lst pa_nil) (nomark _)) pa_nil))) pa_nil)) (nomark _))
      (pss_one (ps_ret pe_bl)) pss_nil)
    (pss_cons (ps_if (pt_cmpR (r := rNeD K) (op_neD hr.units)
        (pe_lc (own := [("_law_row_here", 2)]) (g := gName 2) (tt := tYes) (te := tCB (rStrO (xTe w K mg base cdv A outer s H)) (tCons (tVar 2) tNil)) rfl sc_tells.nd (pi_own "own_rows" (pv 0)) (blkOk_by (own := [("_law_row_here", 2)]) (N := nTe) (sc := defScope s_law_tells) (by decide +kernel)) (fun _ _ _ _ _ => pg_name (i := 2) sc_tells.nd rfl (Or.inl rfl)) (fun _ _ _ _ _ => pts_nil) (fun _ _ _ _ _ => pe_callTy call_strO rfl T.f_str (by decide +kernel) (pa_cons (pv 2) pa_nil)))
        (pe_lc (own := [("_law_row_here", 2)]) (g := gName 2) (tt := tYes) rfl sc_tells.nd (pi_list (pv 1)) (blkOk_by (own := [("_law_row_here", 2)]) (N := nTe) (sc := defScope s_law_tells) (by decide +kernel)) (fun _ _ _ _ _ => pg_name (i := 2) sc_tells.nd rfl (Or.inl rfl)) (fun _ _ _ _ _ => pts_nil) (fun _ _ _ _ _ => pe_g (k_text T) (hr.mono (by decide)) (pa_cons (pv 2) pa_nil))) (nomark _))
      (pss_one (ps_ret pe_bl)) pss_nil)
    (pss_cons (ps_if (pt_cmpR (r := rNeD K) (op_neD hr.units)
        (pe_lc (own := [("_law_one", 3), ("_law_two", 4)]) (g := gTup K 2 (gCons (gName 3) (gCons (gName 4) gNil))) (tt := tYes) (te := tTup (tCons (tCB (rStrO (xTe w K mg base cdv A outer s H)) (tCons (tVar 3) tNil)) (tCons (tCB (rStrO (xTe w K mg base cdv A outer s H)) (tCons (tVar 4) tNil)) tNil))) rfl sc_tells.nd (pi_zipO "own_rows" rfl T.f_zip (pa_cons (pv 0) (pa_cons (pv 0) pa_nil))) (blkOk_by (own := [("_law_one", 3), ("_law_two", 4)]) (N := nTe) (sc := defScope s_law_tells) (by decide +kernel))
          (fun _ _ _ _ _ => pg_tup rfl (pgs_cons (pg_name (i := 3) sc_tells.nd rfl (Or.inl rfl)) (pgs_cons (pg_name (i := 4) sc_tells.nd rfl (Or.inl rfl)) pgs_nil))) (fun _ _ _ _ _ => pts_nil) (fun _ _ _ _ _ => pe_tup (pa_cons (pe_callTy call_strO rfl T.f_str (by decide +kernel) (pa_cons (pv 3) pa_nil)) (pa_cons (pe_callTy call_strO rfl T.f_str (by decide +kernel) (pa_cons (pv 4) pa_nil)) pa_nil))))
        (pe_lc (own := [("_law_row_here", 2)]) (g := gName 2) (tt := tYes) rfl sc_tells.nd (pi_list (pv 1)) (blkOk_by (own := [("_law_row_here", 2)]) (N := nTe) (sc := defScope s_law_tells) (by decide +kernel)) (fun _ _ _ _ _ => pg_name (i := 2) sc_tells.nd rfl (Or.inl rfl)) (fun _ _ _ _ _ => pts_nil) (fun _ _ _ _ _ => pe_tup (pa_cons (pe_g (k_text T) (hr.mono (by decide)) (pa_cons (pv 2) pa_nil)) (pa_cons (pe_g (k_text T) (hr.mono (by decide)) (pa_cons (pv 2) pa_nil)) pa_nil)))) (nomark _))
      (pss_one (ps_ret pe_bl)) pss_nil)
    (pss_cons (ps_if (pt_cmpR (r := rNeD K) (op_neD hr.units)
        (pe_lc (own := [("_law_at", 5)]) (g := gName 5) (tt := tYes) (te := tCB (rStrO (xTe w K mg base cdv A outer s H)) (tCons (tOp (rIxO (xTe w K mg base cdv A outer s H) (CX RP w) E0) (tVar 0) (tVar 5)) tNil)) rfl sc_tells.nd (pi_range1 rfl T.f_range (pa_cons (pe_callB (r := Evl.rLenS K) call_len_seq rfl T.f_len PySem.boot_len (pa_cons (pv 1) pa_nil)) pa_nil)) (blkOk_by (own := [("_law_at", 5)]) (N := nTe) (sc := defScope s_law_tells) (by decide +kernel)) (fun _ _ _ _ _ => pg_name (i := 5) sc_tells.nd rfl (Or.inl rfl)) (fun _ _ _ _ _ => pts_nil)
          (fun _ _ _ _ _ => pe_callTy call_strO rfl T.f_str (by decide +kernel) (pa_cons (pe_ixO passE0 (pv 0) (pv 5)) pa_nil)))
        (pe_lc (own := [("_law_row_here", 2)]) (g := gName 2) (tt := tYes) rfl sc_tells.nd (pi_list (pv 1)) (blkOk_by (own := [("_law_row_here", 2)]) (N := nTe) (sc := defScope s_law_tells) (by decide +kernel)) (fun _ _ _ _ _ => pg_name (i := 2) sc_tells.nd rfl (Or.inl rfl)) (fun _ _ _ _ _ => pts_nil) (fun _ _ _ _ _ => pe_g (k_text T) (hr.mono (by decide)) (pa_cons (pv 2) pa_nil))) (nomark _))
      (pss_one (ps_ret pe_bl)) pss_nil)
    (pss_one (ps_ret (pe_cmpR (r := rEqD K) (op_eqD hr.units)
      (pe_lc (own := [("_law_row_here", 2)]) (g := gName 2) (tt := tTest (tOp (rInO (xTe w K mg base cdv A outer s H) true) (ClX.tCMeth (He.ga K "Row") (spRowRead K) E0 (tC (.ref (He.ga K "Row"))) (tCons (fun σ H Q => tCons (tVar 2) tNil σ H fun vs H1 => spText K vs H1 Q E0) tNil)) (tVar 0))) rfl sc_tells.nd (pi_list (pv 1)) (blkOk_by (own := [("_law_row_here", 2)]) (N := nTe) (sc := defScope s_law_tells) (by decide +kernel)) (fun _ _ _ _ _ => pg_name (i := 2) sc_tells.nd rfl (Or.inl rfl))
        (fun _ _ _ _ _ => pts_one (pt_cmpR op_notInO (ClX.pe_cmeth (pe_gR T.g_Row) (cr_Row T) (cm_RowRead T) (k_Row_read T) (hr.mono (by decide)) pass00 (pa_cons (pe_g (k_text T) (hr.mono (by decide)) (pa_cons (pv 2) pa_nil)) pa_nil)) (pv 0) (by rfl))) (fun _ _ _ _ _ => pv 2))
      (pe_lst pa_nil) (nomark _))))))), ?_⟩)
  obtain ⟨v, l, xs, rs, side, rfl, hv, hl, hx, ok, hq⟩ := h
  obtain ⟨a, dx, pr, ys, rfl, ha, hpr, hy, ok'⟩ := id hv
  have hnl := ok.len
  have hot : ∀ x ∈ rs.map Rw.txt, PyData.strOk x = true := fun x hx => by
    obtain ⟨r, hr, rfl⟩ := List.mem_map.mp hx
    exact Rw.txt_ok (ok.ok r hr)
  have nb : PySem.W.findIn K (.ref (endC K side)) "__bool__" = some none := side_cases (P := fun s => PySem.W.findIn K (.ref (endC K s)) "__bool__" = some none) ok.sd (by rw [endC_s]; exact T.nb_Sender) (by rw [endC_r]; exact T.nb_Receiver)
  have hlp := hx.len
  refine Evl.q_when (b := false) (Evl.et_is (Evl.et_test (Evl.ev_op (ev_reprL (ds := [.int (rs.length : Int), .bool ((rs.length : Int) != 0)]) (Evl.el_lst (Evl.ea_cons (ev_lenO (Evl.ev_var rfl) ha (og_endLen T ok.sd) (hr.mono (by decide)) (sv_endLen hv) (by omega) (by omega)) (Evl.ea_cons (ev_boolO (Evl.ev_var rfl) ha nb (og_endLen T ok.sd) (hr.mono (by decide)) (sv_endLen hv) (by omega) (by omega)) Evl.ea_nil)) (by show 2 ≤ 100000; decide)) (fun H1 e => .cons (.int _) (.cons (.bl _) .nil)) ?_ ?_ ?_ ?_)
    (ev_reprL (ds := [.int (rs.length : Int), .bool ((rs.length : Int) != 0)]) (Evl.el_lst (Evl.ea_cons (ev_lenT (Evl.ev_var rfl) (.inl (Evl.sq_of hl))) (Evl.ea_cons (Evl.ev_opL (Evl.ev_var rfl) (Evl.el_lst Evl.ea_nil (by simp)) fun q H1 hq1 e1 => rv_neD (fun H2 e2 => .lst (Evl.sq_of ((e1.trans e2) _ _ hl)) (dpAll_plains (hx.ex (e1.trans e2)))) (fun H2 e2 => .lst (Evl.sq_of (e2 _ _ hq1)) .nil) (plainsD_shaped ok.ok) (by decide +kernel)) Evl.ea_nil)) (by show 2 ≤ 100000; decide)) (fun H1 e => ?_) ?_ ?_ ?_ ?_) (Evl.rv_ne rfl))) ?_) (fun h => by cases h) fun _ H1 e1 => ?_
  · rfl
  · show (decide _ && true) = true
    rw [decide_eq_true (small_log (by omega))]
    rfl
  · show 1 ≤ 60
    decide
  · exact shown_nb _ hnl _
  · have e0 : (!PyData.eqv (.list (plainsD rs)) (.list [])) = ((rs.length : Int) != 0) := by cases rs <;> rfl
    rw [e0, hlp]
    exact .cons (.int _) (.cons (.bl _) .nil)
  · rfl
  · show (decide _ && true) = true
    rw [decide_eq_true (small_log (by omega))]
    rfl
  · show 1 ≤ 60
    decide
  · exact shown_nb _ hnl _
  · simp
  have hv1 := hv.ex e1
  have hl1 := e1 _ _ hl
  have hx1 := hx.ex e1
  refine Evl.q_when (b := false) (Evl.et_is (Evl.et_test (Evl.ev_opLL (el_endStr (og_rowStr T) (itf_End T ok.sd) (hr.mono (by decide)) (Evl.ev_var rfl) hv1 (fun _ => rfl) (by show 2 < 6; decide)) (el_texts (Evl.ev_var rfl) hl1 hx1 ok.ok (by omega) (fun _ => rfl) (by show 2 < 6; decide)) fun p q H2 hp hq e => rv_neD (fun H3 e3 => dp_strsL (Evl.sq_of (e3 _ _ hp))) (fun H3 e3 => dp_strsL (Evl.sq_of (e3 _ _ hq))) (strsL_shaped hot) (strsL_shaped hot))) ?_) (fun h => by cases h) fun _ H2 e2 => ?_
  · show (!PyData.eqvAll (strsD (rs.map Rw.txt)) (strsD (rs.map Rw.txt))) = false
    rw [strsD_eqv]
    simp
  have e12 := e1.trans e2
  have hv2 := hv.ex e12
  have hl2 := e12 _ _ hl
  have hx2 := hx.ex e12
  -- two walks at once
  have hyl := hy.len
  obtain ⟨a2, dx2, pr2, ys2, ea2, ha2, hpr2, hy2, _⟩ := id hv2
  obtain rfl := V.ref.inj ea2
  have hyl2 := hy2.len
  refine Evl.q_when (b := false) (Evl.et_is (Evl.et_test (ev_opPP (R := fun zs H => Each (fun i y H => IsPair2 ((rs.map Rw.txt).getD i "") ((rs.map Rw.txt).getD i "") y H) H ((List.range (rs.map Rw.txt).length).filter fun _ => true) zs) (R' := fun zs H => Each (fun i y H => IsPair2 ((rs.map Rw.txt).getD i "") ((rs.map Rw.txt).getD i "") y H) H ((List.range (rs.map Rw.txt).length).filter fun _ => true) zs) ?_ ?_ (fun zs H H' e h => each_pairs_ex (P := fun i => (rs.map Rw.txt).getD i "") e h) fun p q zs zs' H3 hp hq r1 r2 =>
      rv_neD (fun H4 e4 => .lst (Evl.sq_of (e4 _ _ hp)) (each_pairs (rs.map Rw.txt) (fun i => (rs.map Rw.txt).getD i "") (each_pairs_ex (P := fun i => (rs.map Rw.txt).getD i "") e4 r1) fun k x e => by rw [List.getD_eq_getElem?_getD, e]; rfl)) (fun H4 e4 => .lst (Evl.sq_of (e4 _ _ hq)) (each_pairs (rs.map Rw.txt) (fun i => (rs.map Rw.txt).getD i "") (each_pairs_ex (P := fun i => (rs.map Rw.txt).getD i "") e4 r2) fun k x e => by rw [List.getD_eq_getElem?_getD, e]; rfl)) (pairs_shaped hot) (pairs_shaped hot))) ?_) (fun h => by cases h) fun _ H3 e3 => ?_
  · rw [List.length_map, ← hyl2]
    refine el_lcP ys2.length (fun _ => true) (fun i y H => IsPair2 ((rs.map Rw.txt).getD i "") ((rs.map Rw.txt).getD i "") y H) (fun i => IsPair2.mono) (by omega) (J := RZ.ItzT K pr2 pr2)
      (fun H3 e R r' => (Evl.ea_cons (Evl.ev_var rfl) (Evl.ea_cons (Evl.ev_var rfl) Evl.ea_nil)) H3 e _ fun H4 e4 => ⟨a, _, dx2, pr2, _, ys2, 1, rfl, (e.trans e4) _ _ ha2, rfl, Evl.ex_t (e.trans e4) hpr2, itf_End T ok.sd, hr.mono (by decide), r' H4 e4⟩)
      (fun i H4 e4 hi => ⟨ys2, ys2, ys2[i], ys2[i], Evl.ex_t e4 hpr2, Evl.ex_t e4 hpr2, List.getElem?_eq_getElem hi, List.getElem?_eq_getElem hi⟩) (fun H4 e4 => ⟨ys2, ys2, Evl.ex_t e4 hpr2, Evl.ex_t e4 hpr2, .inl (Nat.le_refl _)⟩) fun i x H4 H5 e4 hi hyy => ?_
    obtain ⟨t, x', y', rfl, hT, rfl, f1, f2⟩ := hyy
    have h1 := f1 _ (Evl.ex_t e4 hpr2)
    have h2 := f2 _ (Evl.ex_t e4 hpr2)
    obtain ⟨r, hr1, isr⟩ := hy2.get h1
    obtain ⟨r2, hr2, isr2⟩ := hy2.get h2
    obtain rfl := Option.some.inj (hr1.symm.trans hr2)
    have hg : (rs.map Rw.txt).getD i "" = r.txt := by rw [List.getD_eq_getElem?_getD, List.getElem?_map, hr1]; rfl
    refine ⟨Ex.new hT, [some (V.ref a), some (V.ref l), none, some x', some y', none], rfl, fun Q q => ⟨t, _, rfl, .inl (.inl upd_same), rfl, _, _, rfl, _, _, rfl, rfl, q _ (Ex.refl _)⟩, fun H7 e7 Q q => q H7 (Ex.refl H7), fun _ => ?_⟩
    rw [hg]
    have en : Ex H4 (upd H4 t (.tup [x', y'])) := Ex.new hT
    exact ep_tup (Evl.ea_cons (ev_strR (og_rowStr T) (hr.mono (by decide)) (EvP.of (Evl.ev_var rfl) fun H5 e5 => isr.ex ((e4.trans en).trans e5))) (Evl.ea_cons (ev_strR (og_rowStr T) (hr.mono (by decide)) (EvP.of (Evl.ev_var rfl) fun H5 e5 => isr2.ex ((e4.trans en).trans e5))) Evl.ea_nil)) (by show 2 ≤ 1000; decide)
  · rw [List.length_map, ← hlp]
    refine el_lcLP (fun i y H => IsPair2 ((rs.map Rw.txt).getD i "") ((rs.map Rw.txt).getD i "") y H) (fun i => IsPair2.mono) (Evl.ev_var rfl) (Evl.sq_of hl2) (by omega) (fun _ => rfl) fun i x H4 e4 hxi => ?_
    obtain ⟨r, hr1, isp⟩ := hx2.get hxi
    have hg : (rs.map Rw.txt).getD i "" = r.txt := by rw [List.getD_eq_getElem?_getD, List.getElem?_map, hr1]; rfl
    rw [hg]
    have et := ev_g (σ := [some (V.ref a), some (V.ref l), some x, none, none, none]) (ta := tCons (tVar 2) tNil) (E := E0) (Evl.ea_cons (Evl.ev_var rfl) Evl.ea_nil) (sv_text (isp.ex e4) (ok.ok r (List.mem_of_getElem? hr1)))
    exact ep_tup (Evl.ea_cons et (Evl.ea_cons et Evl.ea_nil)) (by show 2 ≤ 1000; decide)
  · show (!PyData.eqvAll (pairsD (rs.map Rw.txt)) (pairsD (rs.map Rw.txt))) = false
    rw [pairsD_eqv]
    rfl
  have e13 := e12.trans e3
  have hv3 := hv.ex e13
  have hl3 := e13 _ _ hl
  have hx3 := hx.ex e13
  -- by index
  refine Evl.q_when (b := false) (Evl.et_is (Evl.et_test (Evl.ev_opLL (xs := (rs.map Rw.txt).map V.str) ?_ (el_texts (Evl.ev_var rfl) hl3 hx3 ok.ok (by omega) (fun _ => rfl) (by show 2 < 6; decide)) fun p q H4 hp hq e => rv_neD (fun H5 e5 => dp_strsL (Evl.sq_of (e5 _ _ hp))) (fun H5 e5 => dp_strsL (Evl.sq_of (e5 _ _ hq))) (strsL_shaped hot) (strsL_shaped hot))) ?_) (fun h => by cases h) fun _ H4 e4 => ?_
  · have eg : (rs.map Rw.txt).map V.str = given ((xs.length : Int)).toNat (fun _ => true) (fun k => V.str (rs.getD k r0).txt) := by
      rw [Int.toNat_natCast, hlp, List.map_map]
      exact (given_map rs (fun k => V.str (rs.getD k r0).txt) _ (fun k x e => by rw [List.getD_eq_getElem?_getD, e]; rfl)).symm
    rw [eg]
    refine Evl.el_lcR1 (fun _ => true) _ (Evl.ea_cons (ev_lenT (Evl.ev_var rfl) (.inl (Evl.sq_of hl3))) Evl.ea_nil) (by omega) (fun _ => rfl) (fun k H5 e5 hk => fun H6 e6 Q q => q H6 (Ex.refl H6)) fun k H5 e5 hk _ => ?_
    have hk : k < rs.length := by omega
    have hg : rs.getD k r0 = rs[k] := by rw [List.getD_eq_getElem?_getD, List.getElem?_eq_getElem hk]; rfl
    show Ev _ _ _ (V.str (rs.getD k r0).txt)
    rw [hg]
    exact ev_strR (og_rowStr T) (hr.mono (by decide)) (ep_endGet (ox_endGet T ok.sd) (hr.mono (by decide)) (Evl.ev_var rfl) (hv3.ex e5) (Evl.ev_var rfl) (List.getElem?_eq_getElem hk))
  · show (!PyData.eqvAll (strsD (rs.map Rw.txt)) (strsD (rs.map Rw.txt))) = false
    rw [strsD_eqv]
    simp
  have e14 := e13.trans e4
  have hv4 := hv.ex e14
  have hl4 := e14 _ _ hl
  have hx4 := hx.ex e14
  refine Evl.s_ret (v := .bl true) (Evl.ev_is (Evl.ev_opLL (xs := []) (ys := []) ?_ (Evl.el_lst Evl.ea_nil (by simp)) fun p q H5 hp hq e => rv_eqD (fun H6 e6 => .lst (Evl.sq_of (e6 _ _ hp)) .nil) (fun H6 e6 => .lst (Evl.sq_of (e6 _ _ hq)) .nil) (by decide +kernel : SeqAt.shaped (.list []) = true) (by decide +kernel : SeqAt.shaped (.list []) = true)) rfl) fun H5 e5 => hq H5 (e14.trans e5)
  have eg : ([] : List V) = given xs.length (fun _ => false) (fun _ => V.non) := by
    unfold Evl.given
    rw [List.filter_eq_nil_iff.mpr (fun _ _ => by simp)]
    rfl
  refine el_is ?_ eg.symm
  refine Evl.el_lcL (K := K) (fun _ => false) _ (Evl.ev_var rfl) (Evl.sq_of hl4) (by omega) (fun _ => rfl) (fun k x H5 e5 hxk => ?_) fun k x H5 e5 hxk hf => by cases hf
  obtain ⟨r, hr1, isp⟩ := hx4.get hxk
  have hrm := List.mem_of_getElem? hr1
  have et := ev_g (σ := [some (V.ref a), some (V.ref l), some x, none, none, none]) (ta := tCons (tVar 2) tNil) (E := E0) (Evl.ea_cons (Evl.ev_var rfl) Evl.ea_nil) (sv_text (isp.ex e5) (ok.ok r hrm))
  have er : EvP (ClX.tCMeth (He.ga K "Row") (spRowRead K) E0 (tC (.ref (He.ga K "Row"))) (tCons (fun σ H Q => tCons (tVar 2) tNil σ H fun vs H1 => spText K vs H1 Q E0) tNil)) [some (V.ref a), some (V.ref l), some x, none, none, none] H5 (fun v H' => IsRow K H' v r) := fun H6 e6 Q q =>
    ⟨rfl, (Evl.ea_cons et Evl.ea_nil) H6 e6 _ fun H7 e7 => sp_rowRead ok.sd (ok.ok r hrm) H7 (Ex.refl _) Q (fun v H8 e8 hv => q v H8 (e7.trans e8) hv) E0⟩
  refine Evl.et_is (Evl.et_test (ev_opQ er (fun H6 e6 => Evl.ev_var rfl) (fun y H6 e6 hy6 => fun H7 e7 Q q => ?_) fun v H H' e h => h.ex e)) (b := false) (a := !(rs.contains r)) (by rw [List.contains_iff_mem.mpr hrm]; rfl)
  have hv7 := hv4.ex ((e5.trans e6).trans e7)
  obtain ⟨a7, dx7, p7, xs7, ea7, ha7, hp7, hx7, ok7⟩ := id hv7
  obtain rfl := V.ref.inj ea7
  exact ⟨a, _, dx7, _, 3, spEndIn K, rfl, ha7, og_endIn T ok.sd, hr.mono (by decide), sv_endIn (o := some r) hv7 (fun H' e' => (hy6.ex e7).ex e') H7 (Ex.refl _) _ (fun H8 e8 => ⟨_, rfl, q H8 e8⟩) E0⟩
end
end Mp
set_option maxHeartbeats 4000000
/-! Def: _law_states_right (walks of a generator). -/
namespace Mp
open PySem PySem.Spec PyProof.Rows L2
open Evl (Ex Ev EvL EvU EvT EvA RV SpV given)

theorem filter_skip {pz : Nat → Bool} {i : Nat} : ∀ {j : Nat}, i ≤ j → (∀ k, i ≤ k → k < j → pz k = false) → (List.range j).filter pz = (List.range i).filter pz
  | j, h, hz => by
    induction j with
    | zero =>
      have : i = 0 := by omega
      rw [this]
    | succ j ih =>
      by_cases e : i = j + 1
      · rw [e]
      · rw [List.range_succ, List.filter_append, ih (by omega) fun k a b => hz k a (by omega)]
        simp [hz j (by omega) (by omega)]
/-- [elt for t in <generator>], each by its word -/
theorem el_gen {tG : L2.St → Hp → (List V → Hp → Prop) → Prop} {N : List Str} {wi : TI} {gg : TG} {tc : TT} {te : TE} {g' : TG} {te' : TE} {vs' : List Nat} {σ : L2.St} {H : Hp} {J : It} (n : Nat) (pz : Nat → Bool) (S : L2.St → Prop) (Yd : Nat → V → Hp → Prop) (P : Nat → V → Hp → Prop) (vs0 : List V) (hP : ∀ i, MonoV (P i)) (hn : n ≤ 40000)
    (hG : ∀ H1, Ex H H1 → ∀ R : List V → Hp → Prop, (∀ H2, Ex H1 H2 → R vs0 H2) → tG σ H1 R) (L : GLaw J gg tc te n pz S (fun H' => Ex H H') Yd) (hS : S (start N vs0)) (hw : ∀ σ1 H1, S σ1 → Ex H H1 → wi σ1 H1 fun J' H2 => J' = J ∧ Ex H1 H2 ∧ Ex H H2)
    (item : ∀ i y H1, Ex H H1 → i < n → pz i = true → Yd i y H1 → ∃ σ2, wipe σ2 vs' = wipe σ vs' ∧ (∀ Q : L2.St → Hp → Prop, (∀ H3, Ex H1 H3 → Q σ2 H3) → g' y (wipe σ vs') H1 Q) ∧ EvP te' σ2 H1 (P i)) :
    EvLP (tLcG tG N wi gg tc te g' te' vs') σ H (fun ys H2 => Each P H2 ((List.range n).filter pz) ys) := by
  intro H0 e0 Q q
  refine hG H0 e0 _ fun H1 e1 => ⟨J, n, pz, S, fun H' => Ex H H', Yd, L, hS, hw, fun D hD => ?_⟩
  have hD0 : H0 D = none := Evl.fresh_back e1 hD
  refine ⟨fun i H' => i ≤ n ∧ Ex H0 H' ∧ ∃ ys, H' D = some (.lst ys) ∧ Each P H' ((List.range i).filter pz) ys ∧ ys.length ≤ i, ⟨Nat.zero_le _, e1.trans (Ex.new hD), [], upd_same, .nil, Nat.le_refl _⟩, fun i H' ⟨h1, h2, _⟩ => ⟨h1, e0.trans h2⟩, ?_, ?_⟩
  · rintro i H' ⟨hi, ex, ys, hy, ey, ly⟩ hz H2 e2
    rw [← filter_skip hi fun k a b => hz k a b] at ey
    exact q D ys H2 hD0 (ex.trans e2) (e2 _ _ hy) (L2.Paired.mapP ey fun k y p => hP k y D ys H' H2 hy (fun b o _ z => e2 b o z) p)
  · rintro i H' ⟨hi, ex, ys, hy, ey, ly⟩ j y H2 hij hjn hpz hz e2 hYd
    obtain ⟨σ2, hw2, hg, he⟩ := item j y H2 ((e0.trans ex).trans e2) hjn hpz hYd
    refine hg _ fun H3 e3 => ⟨hw2, he H3 e3 _ fun z H4 e4 pz4 => ?_⟩
    have e24 := (e2.trans e3).trans e4
    have hy4 := e24 _ _ hy
    have ey4 : Each P H4 ((List.range j).filter pz) ys := by
      rw [filter_skip hij hz]
      exact L2.Paired.mapP ey fun k y p => hP k y D ys H' H4 hy (fun b o _ z => e24 b o z) p
    have xb : ExB D H4 (upd H4 D (.lst (ys ++ [z]))) := fun b o hb z => by rw [upd_ne hb]; exact z
    refine ⟨ys, hy4, Evl.sz_lt (by omega), hjn, Ex.mut (ex.trans e24) hD0, ys ++ [z], upd_same, ?_, by rw [List.length_append, List.length_singleton]; omega⟩
    have er : (List.range (j + 1)).filter pz = (List.range j).filter pz ++ [j] := by
      rw [List.range_succ, List.filter_append]
      simp [hpz]
    rw [er]
    exact PySem.Paired.snoc (L2.Paired.mapP ey4 fun k y p => hP k y D ys H4 _ hy4 xb p) (hP j z D ys H4 _ hy4 xb pz4)
/-- an index and a text -/
def IsAt (i : Nat) (a : Str) (y : V) (H : Hp) : Prop := ∃ t, y = .ref t ∧ H t = some (.tup [.int (i : Int), .str a])
theorem IsAt.mono {i : Nat} {a : Str} : MonoV (IsAt i a) := fun y D xs H H' hD e ⟨t, ey, ht⟩ => ⟨t, ey, tup_mono hD e ht⟩
theorem IsAt.ex {i : Nat} {a : Str} {y : V} {H H' : Hp} (e : Ex H H') (h : IsAt i a y H) : IsAt i a y H' := by
  obtain ⟨t, ey, ht⟩ := h
  exact ⟨t, ey, e _ _ ht⟩
def atsD (P : Nat → Str) (is : List Nat) : List PyData := is.map fun (i : Nat) => .tuple [.int (i : Int), .str (P i)]
theorem atsD_ok {P : Nat → Str} (h : ∀ i, PyData.strOk (P i) = true) : ∀ is : List Nat, PyData.canLayAll0 (atsD P is) = true ∧ PyData.depthAll (atsD P is) ≤ 1
  | [] => ⟨rfl, Nat.zero_le _⟩
  | a :: l => by
    have z := atsD_ok h l
    refine ⟨?_, ?_⟩
    · show ((true && (PyData.strOk (P a) && true)) && PyData.canLayAll0 (atsD P l)) = true
      rw [h a, z.1]; rfl
    · show max _ (PyData.depthAll (atsD P l)) ≤ 1
      exact Nat.max_le.mpr ⟨Nat.le_refl 1, z.2⟩
theorem ats_shaped {P : Nat → Str} (h : ∀ i, PyData.strOk (P i) = true) (is : List Nat) : SeqAt.shaped (.list (atsD P is)) = true := by
  have z := atsD_ok h is
  unfold SeqAt.shaped
  simp only [PyData.canLay0, PyData.depth, z.1, Bool.true_and]
  exact decide_eq_true (Nat.le_trans (Nat.succ_le_succ z.2) (by decide : 2 ≤ 64))
theorem atsD_eqv {P : Nat → Str} : ∀ is : List Nat, PyData.eqvAll (atsD P is) (atsD P is) = true
  | [] => rfl
  | a :: l => by
    show (((a : Int) == (a : Int)) && ((P a == P a) && true) && PyData.eqvAll (atsD P l) (atsD P l)) = true
    rw [atsD_eqv l]
    simp
theorem each_ats {K : PySem.W.Frag} {H : Hp} {P : Nat → Str} {is : List Nat} {ys : List V} (h : Each (fun i y H => IsAt i (P i) y H) H is ys) : DpAll K H ys (atsD P is) := by
  induction h with
  | nil => exact .nil
  | cons e _ ih =>
    obtain ⟨t, rfl, ht⟩ := e
    exact .cons (.tup (.inl (.inl ht)) (.cons (.int _) (.cons (.str _) .nil))) ih
theorem each_ats_ex {P : Nat → Str} {is : List Nat} {ys : List V} {H H' : Hp} (e : Ex H H') (h : Each (fun i y H => IsAt i (P i) y H) H is ys) : Each (fun i y H => IsAt i (P i) y H) H' is ys := L2.Paired.mapP h fun _ _ z => z.ex e
def spStates (K : PySem.W.Frag) : Sp := fun vs H Q _ => ∃ (v : V) (l : Addr) (xs : List V) (rs : List Rw) (side : Str), vs = [v, .ref l] ∧ IsEnd K H v side rs ∧ H l = some (.lst xs) ∧ Plains K H xs rs ∧ PlOk side rs ∧ ∀ H', Ex H H' → Q (.bl true) H'
section
variable {w : World} {K : PySem.W.Frag} {mg : Str → Option Value} {base : Heap}
abbrev nSr : List Str := ["_law_end", "_law_rows_here", "_law_state", "_law_told", "_law_at", "_law_row_here", "_law_pair"]
theorem sc_states : FnScope nSr ["_law_end", "_law_rows_here"] (defScope s_law_states_right) := ⟨rfl, rfl, rfl, by decide +kernel, rfl, by decide +kernel, by decide +kernel⟩
abbrev nAs : List Str := ["self", "state", "at", "row"]
theorem sc_at_state : GScope nAs ["self", "state"] (defScope s_End_at_state) := ⟨rfl, rfl, rfl, by decide +kernel, rfl, by decide +kernel, by decide +kernel⟩
/-- the generator's turns over an end: which rows have the state -/
theorem gl_state (T : TX K mg base) {H : Hp} {a dx p : Addr} {xs : List V} {rs : List Rw} {side : Str} {stv : V} (ha : H a = some (.ins (endC K side) dx (endF side p))) (hp : SqT K H p xs) (hx : Rows K H xs rs) (hst : Pl H stv) :
    GLaw (IteT K p) (gTup K 2 (gCons (gName 2) (gCons (gName 3) gNil))) (tB (fun σ H Q => tCons (tVar 1) (tCons (tFld K (tVar 3) "state") (tCons (tFld K (tVar 3) "state") tNil)) σ H fun vs H1 => spWithin vs H1 Q E0)) (tTup (tCons (tVar 2) (tCons (tVar 3) tNil))) xs.length (fun i => within stv ((rs.getD i r0).state : Int) ((rs.getD i r0).state : Int))
      (fun σ => ∃ s2 s3, σ = [some (.ref a), some stv, s2, s3]) (fun H' => Ex H H') (fun i y H' => ∃ t x, y = .ref t ∧ xs[i]? = some x ∧ H' t = some (.tup [.int (i : Int), x])) where
  go := by
    rintro i σ H1 hi ⟨s2, s3, rfl⟩ ex
    refine ⟨⟨xs, xs[i], Evl.ex_t ex hp, List.getElem?_eq_getElem hi⟩, ?_⟩
    rintro v H2 ⟨t, x, rfl, nt, rfl, hy⟩
    have hxi := hy xs (Evl.ex_t ex hp)
    obtain ⟨r, hr1, isr⟩ := hx.get hxi
    have hg : rs.getD i r0 = r := by rw [List.getD_eq_getElem?_getD, hr1]; rfl
    have en : Ex H1 (upd H1 t (.tup [.int (i : Nat), x])) := Ex.new nt
    refine ⟨t, _, rfl, .inl (.inl upd_same), rfl, _, _, rfl, _, _, rfl, rfl, ?_⟩
    have exn := ex.trans en
    generalize upd H1 t (.tup [.int (i : Nat), x]) = H3 at en exn ⊢
    obtain ⟨b, dxb, pd, pe, pf, pk, zs, rfl, hb, _⟩ := id isr
    rw [hg]
    have ef : ∀ {σ' : L2.St}, σ'[3]? = some (some (V.ref b)) → Ev (tFld K (tVar 3) "state") σ' H3 (iV r.state) := fun h3 => ev_fld (Evl.ev_var h3) (exn _ _ hb) (cls_Row T) T.no_Row_state rfl
    refine (Evl.et_B (ev_g (E := E0) (Evl.ea_cons (Evl.ev_var rfl) (Evl.ea_cons (ef rfl) (Evl.ea_cons (ef rfl) Evl.ea_nil))) (sv_within (hst.ex exn)))) H3 (Ex.refl _) _ fun H4 e4 => ⟨rfl, ?_⟩
    split
    · refine (ep_tup (Evl.ea_cons (Evl.ev_var rfl) (Evl.ea_cons (Evl.ev_var rfl) Evl.ea_nil)) (by show 2 ≤ 1000; decide)) H4 (Ex.refl _) _ fun y H5 e5 ⟨t2, ey, ht2⟩ => ?_
      exact ⟨⟨t2, _, ey, hxi, ht2⟩, ⟨_, _, rfl⟩, (exn.trans e4).trans e5, (en.trans e4).trans e5⟩
    · exact ⟨⟨_, _, rfl⟩, exn.trans e4, en.trans e4⟩
  stop := fun σ H1 _ ex => ⟨xs, Evl.ex_t ex hp, Nat.le_refl _⟩
theorem el_lcRP {σ : L2.St} {H : Hp} {te : TE} {tt : TT} {ta : TA} {j : Nat} {vs : List Nat} {n : Nat} (f : Nat → Bool) (P : Nat → V → Hp → Prop) (hP : ∀ i, MonoV (P i)) (h : EvA ta σ H [.int (n : Int)]) (hn : n ≤ 40000) (hw : ∀ x, wipe ((wipe σ vs).set j (some x)) vs = wipe σ vs)
    (turn : ∀ (i : Nat) H1, Ex H H1 → i < n → EvT tt ((wipe σ vs).set j (some (.int (i : Int)))) H1 (f i) ∧ (f i = true → EvP te ((wipe σ vs).set j (some (.int (i : Int)))) H1 (P i))) :
    EvLP (tLc (iRng1 ta) (gName j) tt te vs) σ H (fun ys H2 => Each P H2 ((List.range n).filter f) ys) := by
  refine el_lcP n f P hP hn (J := Itr 0 n) (fun H1 e R r => h H1 e _ fun H2 e2 => ⟨(n : Int), rfl, by omega, by omega, ?_⟩) (fun i H1 e hi => hi) (fun H1 e => Nat.le_refl _) fun i x H1 H2 e hi hy => ?_
  · rw [Int.toNat_natCast]
    exact r H2 e2
  · obtain ⟨rfl, rfl⟩ := hy
    rw [Int.zero_add]
    obtain ⟨t1, t2⟩ := turn i _ e hi
    exact ⟨Ex.refl _, _, hw _, fun Q q => q _ (Ex.refl _), t1, t2⟩
theorem q_forLP {σ : L2.St} {H : Hp} {tl : TE} {tu tz : TS} {D : Ends} {j : Nat} {R : List V → Hp → Prop} (h : EvLP tl σ H R) (Pv : Addr → List V → Nat → L2.St → Hp → Prop) (h0 : ∀ p ys H1, Ex H H1 → H1 p = some (.lst ys) → R ys H1 → Pv p ys 0 σ H1) (hl : ∀ p ys i σ' H', Pv p ys i σ' H' → SqL K H' p ys)
    (hs : ∀ p ys i x σ' H', ys[i]? = some x → Pv p ys i σ' H' → tu { D with nx := Pv p ys (i + 1), ct := Pv p ys (i + 1), bk := tz D } (σ'.set j (some x)) H') (hd : ∀ p ys σ' H', Pv p ys ys.length σ' H' → tz D σ' H') : tSeq (tFor (iList K tl) (gName j) tu) tz D σ H :=
  h H (Ex.refl H) _ fun p ys H1 hp e h1 r => ⟨p, rfl, ⟨ys, Evl.sq_of h1⟩, for_list (D := { D with nx := tz D }) (Pv p ys) (h0 p ys H1 e h1 r) (fun i σ' H' _ hv => hl p ys i σ' H' hv) (fun i x σ' H' hx hv => hs p ys i x σ' H' hx hv) (fun σ' H' hv => hd p ys σ' H' hv)⟩
theorem EvLP.imp {te : TE} {σ : L2.St} {H : Hp} {R R' : List V → Hp → Prop} (h : EvLP te σ H R) (k : ∀ ys H1, R ys H1 → R' ys H1) : EvLP te σ H R' := fun H1 e Q q => h H1 e Q fun p ys H2 n e2 hp r => q p ys H2 n e2 hp (k ys H2 r)
theorem q_asgLP {σ : L2.St} {H : Hp} {te : TE} {tz : TS} {D : Ends} {i : Nat} {R : List V → Hp → Prop} (h : EvLP te σ H R) (k : ∀ p ys H1, Ex H H1 → H1 p = some (.lst ys) → R ys H1 → tz D (σ.set i (some (.ref p))) H1) : tSeq (tAsg te (gName i)) tz D σ H := h H (Ex.refl H) _ fun p ys H1 _ e h1 r => k p ys H1 e h1 r
theorem meth_at_state (T : TX K mg base) {side : Str} (h : IsSide side) : Meth K (endC K side) "at_state" (He.ma K (He.ga K "End") "at_state") := ⟨at_end h T.at_Sender_at_state T.at_Receiver_at_state, T.fn_End_at_state, T.kf_End_at_state⟩
theorem within_eq (k : Int) (s : Nat) : within (.int k) (s : Int) (s : Int) = decide (V.int (s : Int) = V.int k) := by
  unfold within
  rw [Bool.eq_iff_iff, Bool.and_eq_true, decide_eq_true_eq, decide_eq_true_eq, decide_eq_true_eq]
  exact ⟨fun ⟨a, b⟩ => congrArg V.int (by omega), fun e => by injection e with e; omega⟩
theorem k_states (T : TX K mg base) : FG RP w K mg base 12 "_law_states_right" (spStates K) := by
  refine fg_of T.g_law_states_right T.kf_law_states_right (fr_of T.d_law_states_right sc_states (fun vs H Q E h => by obtain ⟨v, l, xs, rs, side, rfl, _⟩ := h; rfl) (fun _ _ _ _ _ _ us hl => match us, hl with | [_, _], _ => rfl) fun cdv A outer s H vs Q E hr h => ?_)
  obtain ⟨fd, F⟩ := T.d_End_at_state
  obtain ⟨oc, od, dV, kV, doc, pm, an, cdg, ct, osl, efd, lk, hcd, hd, hk⟩ := F.ex
  have hdv : dV = .none := by
    rcases hd with ⟨_, e⟩ | ⟨e, _⟩
    · exact e
    · exact absurd rfl e
  subst hdv
  subst efd
  have hb1 : ∀ us : List Value, us.length = ["self", "state"].length → bindArgs (PySem.W.fnOf "at_state" "End.at_state" (defArgs s_End_at_state) (defBody s_End_at_state) (defScope s_End_at_state) .none kV doc pm an cdg ct) ⟨us, []⟩ = pure ((["self", "state"] : List Str).zip us) := fun us hl => match us, hl with | [_, _], _ => rfl
  have hb2 : ∀ (u : Value) (ws : List Value), ws.length = (["state"] : List Str).length → bindArgs (PySem.W.fnOf "at_state" "End.at_state" (defArgs s_End_at_state) (defBody s_End_at_state) (defScope s_End_at_state) .none kV doc pm an cdg ct) ⟨[u], (["state"] : List Str).zip ws⟩ = pure ((["self", "state"] : List Str).zip (u :: ws)) := fun u ws hl => match ws, hl with | [_], _ => rfl
  have hr2 : ∀ env : Env, Room 2 ((cxOf CX0 RP w K mg base nSr "_law_states_right" (defScope s_law_states_right) (He.ga K "_law_states_right") cdv A outer s H E).nox.A.in1.deeper env) := fun env => ((hr.mono (by decide : 4 ≤ 11)).in1).deeper env
  have hdep : (cxOf CX0 RP w K mg base nSr "_law_states_right" (defScope s_law_states_right) (He.ga K "_law_states_right") cdv A outer s H E).nox.A.depth < recursionLimit := by have := hr.dp; show (A.deeper _).depth < _; omega
  refine ⟨_,
    pss_cons (ps_for PassesOwn.never rfl (pi_list (pe_lst (pa_cons pe_int (pa_cons pe_int (pa_cons pe_int (pa_cons pe_int (pa_cons pe_int pa_nil))))))) (pg_name (i := 2) sc_states.nd rfl (Or.inr rfl))
      (pss_cons (ps_setLcG (i := 3) (own := [("_law_at", 4), ("_law_row_here", 5)]) (N := nAs) (scG := defScope s_End_at_state) (f := He.ma K (He.ga K "End") "at_state") (cd := cdg) (qual := "End.at_state") (wi := iEnumT K (tCons (tFld K (tVar 0) "own_rows") tNil)) (gg := gTup K 2 (gCons (gName 2) (gCons (gName 3) gNil))) (tc := tB (fun σ H Q => tCons (tVar 1) (tCons (tFld K (tVar 3) "state") (tCons (tFld K (tVar 3) "state") tNil)) σ H fun vs H1 => spWithin vs H1 Q E0)) (te := tTup (tCons (tVar 2) (tCons (tVar 3) tNil))) (g' := gTup K 2 (gCons (gName 4) (gCons (gName 5) gNil))) (te' := tTup (tCons (tVar 4) (tCons (tCB (rStrO (cxOf CX0 RP w K mg base nSr "_law_states_right" (defScope s_law_states_right) (He.ga K "_law_states_right") cdv A outer s H E).nox) (tCons (tVar 5) tNil)) tNil))) rfl rfl (sw_true rfl rfl rfl (by decide +kernel)) rfl sc_states.nd hdep (blkOk_by (own := [("_law_at", 4), ("_law_row_here", 5)]) (N := nSr) (sc := defScope s_law_states_right) (by decide +kernel)) (fun _ _ => rfl) (fun _ => rfl) rfl rfl
          (pgn_mv (k := 0) lk hcd sc_at_state hb1 (pv 0) (pa_cons (pv 2) pa_nil)) (fun _ => rfl) (fun _ _ => rfl)
          (fun _ _ _ => pi_enumT rfl T.f_enumerate (pa_cons (pe_fld (pv 0) rfl) pa_nil))
          (fun _ _ _ => pg_tup rfl (pgs_cons (pg_name (i := 2) sc_at_state.nd rfl (Or.inl rfl)) (pgs_cons (pg_name (i := 3) sc_at_state.nd rfl (Or.inl rfl)) pgs_nil)))
          (fun _ _ _ => pt_val (pe_g (k_is_within T) (hr2 _) (pa_cons (pv 1) (pa_cons (pe_fld (pv 3) rfl) (pa_cons (pe_fld (pv 3) rfl) pa_nil)))))
          (fun _ _ _ => pe_tup (pa_cons (pv 2) (pa_cons (pv 3) pa_nil)))
          (fun _ _ _ _ _ => pg_tup rfl (pgs_cons (pg_name (i := 4) sc_states.nd rfl (Or.inl rfl)) (pgs_cons (pg_name (i := 5) sc_states.nd rfl (Or.inl rfl)) pgs_nil)))
          (fun _ _ _ _ _ => pe_tup (pa_cons (pv 4) (pa_cons (pe_callTy call_strO rfl T.f_str (by decide +kernel) (pa_cons (pv 5) pa_nil)) pa_nil))))
      (pss_one (ps_if (pt_cmpR (r := rNeD K) (op_neD hr.units) (pv 3)
        (pe_lc (own := [("_law_at", 4)]) (g := gName 4) (tt := tTest (tOp rEq (tOp (rIxT K) (tOp (rIxL K) (tVar 1) (tVar 4)) (tC (.int 0))) (tVar 2))) rfl sc_states.nd (pi_range1 rfl T.f_range (pa_cons (pe_callB (r := Evl.rLenS K) call_len_seq rfl T.f_len PySem.boot_len (pa_cons (pv 1) pa_nil)) pa_nil)) (blkOk_by (own := [("_law_at", 4)]) (N := nSr) (sc := defScope s_law_states_right) (by decide +kernel)) (fun _ _ _ _ _ => pg_name (i := 4) sc_states.nd rfl (Or.inl rfl))
          (fun _ _ _ _ _ => pts_one (pt_cmpR op_eq (pe_ix (r := rIxT K) ix_tup (pe_ix (r := rIxL K) ix_list (pv 1) (pv 4) (fun _ _ => rfl)) pe_int (fun _ _ => rfl)) (pv 2) (nomark _))) (fun _ _ _ _ _ => pe_tup (pa_cons (pv 4) (pa_cons (pe_g (k_text T) (hr.mono (by decide)) (pa_cons (pe_ix (r := rIxL K) ix_list (pv 1) (pv 4) (fun _ _ => rfl)) pa_nil)) pa_nil)))) (nomark _))
        (pss_one (ps_ret pe_bl)) pss_nil))))
    (pss_cons (ps_for PassesOwn.never rfl (pi_list (pe_lst (pa_cons pe_non (pa_cons pe_bl (pa_cons pe_str (pa_cons pe_int (pa_cons (pe_un un_neg pe_int) (pa_cons (pe_tup (pa_cons pe_int pa_nil)) pa_nil)))))))) (pg_name (i := 2) sc_states.nd rfl (Or.inr rfl))
      (pss_one (ps_if (pt_cmpR (r := rNeD K) (op_neD hr.units)
        (pe_lcG (own := [("_law_pair", 6)]) (N := nAs) (scG := defScope s_End_at_state) (f := He.ma K (He.ga K "End") "at_state") (cd := cdg) (qual := "End.at_state") (wi := iEnumT K (tCons (tFld K (tVar 0) "own_rows") tNil)) (gg := gTup K 2 (gCons (gName 2) (gCons (gName 3) gNil))) (tc := tB (fun σ H Q => tCons (tVar 1) (tCons (tFld K (tVar 3) "state") (tCons (tFld K (tVar 3) "state") tNil)) σ H fun vs H1 => spWithin vs H1 Q E0)) (te := tTup (tCons (tVar 2) (tCons (tVar 3) tNil))) (g' := gName 6) (te' := tVar 6) rfl sc_states.nd hdep (blkOk_by (own := [("_law_pair", 6)]) (N := nSr) (sc := defScope s_law_states_right) (by decide +kernel)) (fun _ _ => rfl) (fun _ => rfl) rfl rfl
          (pgn_mvK (k := 0) (ks := ["state"]) lk hcd sc_at_state hb2 (pv 0) (pk_cons (pv 2) pk_nil) rfl) (fun _ => rfl) (fun _ _ => rfl)
          (fun _ _ _ => pi_enumT rfl T.f_enumerate (pa_cons (pe_fld (pv 0) rfl) pa_nil))
          (fun _ _ _ => pg_tup rfl (pgs_cons (pg_name (i := 2) sc_at_state.nd rfl (Or.inl rfl)) (pgs_cons (pg_name (i := 3) sc_at_state.nd rfl (Or.inl rfl)) pgs_nil)))
          (fun _ _ _ => pt_val (pe_g (k_is_within T) (hr2 _) (pa_cons (pv 1) (pa_cons (pe_fld (pv 3) rfl) (pa_cons (pe_fld (pv 3) rfl) pa_nil)))))
          (fun _ _ _ => pe_tup (pa_cons (pv 2) (pa_cons (pv 3) pa_nil)))
          (fun _ _ _ _ _ => pg_name (i := 6) sc_states.nd rfl (Or.inl rfl)) (fun _ _ _ _ _ => pv 6)) (pe_lst pa_nil) (nomark _))
        (pss_one (ps_ret pe_bl)) pss_nil)))
    (pss_one (ps_ret pe_bl))), ?_⟩
  obtain ⟨v, l, xs, rs, side, rfl, hv, hl, hx, ok, hq⟩ := h
  have hlx := hx.len
  have hnl := ok.len
  have hsP : ∀ i, PyData.strOk ((rs.map Rw.txt).getD i "") = true := fun i => by
    rw [List.getD_eq_getElem?_getD, List.getElem?_map]
    cases e : rs[i]? with
    | none => show PyData.strOk "" = true; decide +kernel
    | some r => exact Rw.txt_ok (ok.ok r (List.mem_of_getElem? e))
  refine Evl.q_forNLn (Evl.el_lst (Evl.ea_cons Evl.ev_c (Evl.ea_cons Evl.ev_c (Evl.ea_cons Evl.ev_c (Evl.ea_cons Evl.ev_c (Evl.ea_cons Evl.ev_c Evl.ea_nil))))) (by show 5 ≤ 100000; decide)) (fun p i σ' H' => ∃ s2 s3, σ' = [some v, some (.ref l), s2, s3, none, none, none] ∧ Ex H H' ∧ H' p = some (.lst [.int 0, .int 1, .int 2, .int 23, .int 7]))
    (fun p H1 _ e1 hp => ⟨none, none, rfl, e1, hp⟩) (fun p i σ' H' _ ⟨_, _, _, _, hp⟩ => Evl.sq_of hp) ?_ ?_
  · rintro p i x σ' H1 hxi ⟨s2, s3, rfl, ex, hp⟩
    obtain ⟨k, rfl⟩ : ∃ k : Int, x = .int k := by
      have hm := List.mem_of_getElem? hxi
      simp only [List.mem_cons, List.not_mem_nil, or_false] at hm
      rcases hm with rfl | rfl | rfl | rfl | rfl <;> exact ⟨_, rfl⟩
    have hv1 := hv.ex ex
    obtain ⟨a, dx, pr, zs, rfl, ha, hpr, hz, ok'⟩ := id hv1
    have hlz := hz.len
    have hl1 := ex _ _ hl
    have hx1 := hx.ex ex
    refine q_asgLP (R := fun ys H2 => Each (fun i y H => IsAt i ((rs.map Rw.txt).getD i "") y H) H2 ((List.range zs.length).filter (fun i => within (.int k) ((rs.getD i r0).state : Int) ((rs.getD i r0).state : Int))) ys) (el_gen zs.length _ (fun σ => ∃ s2 s3, σ = [some (.ref a), some (.int k), s2, s3]) _ _ [.ref a, .int k] (fun i => IsAt.mono) (by omega) (fun H2 e2 R r => ?_) (gl_state T ha hpr hz (.int k)) ⟨none, none, rfl⟩ ?_ ?_) fun pt ys H2 e2 hpt hys => ?_
    · exact ⟨.ref a, rfl, ⟨a, _, dx, _, rfl, e2 _ _ ha, rfl, cls_End T ok.sd, meth_at_state T ok.sd, hr.mono (by decide)⟩, .int k, rfl, rfl, r H2 (Ex.refl _)⟩
    · rintro σ1 H2 ⟨s4, s5, rfl⟩ e2
      exact (Evl.ea_cons (ev_fld (Evl.ev_var rfl) (e2 _ _ ha) (cls_End T ok.sd) (no_own_rows T ok.sd) rfl) Evl.ea_nil) H2 (Ex.refl _) _ fun H3 e3 => ⟨pr, zs, rfl, Evl.ex_t (e2.trans e3) hpr, rfl, e3, e2.trans e3⟩
    · rintro i y H2 e2 hi hpz ⟨t, x, rfl, hxi2, ht⟩
      obtain ⟨r, hr1, isr⟩ := hz.get hxi2
      have hg : (rs.map Rw.txt).getD i "" = r.txt := by rw [List.getD_eq_getElem?_getD, List.getElem?_map, hr1]; rfl
      refine ⟨[some (V.ref a), some (V.ref l), some (.int k), s3, some (.int (i : Int)), some x, none], rfl, fun Q q => ⟨t, _, rfl, .inl (.inl ht), rfl, _, _, rfl, _, _, rfl, rfl, q _ (Ex.refl _)⟩, ?_⟩
      rw [hg]
      exact ep_tup (Evl.ea_cons (Evl.ev_var rfl) (Evl.ea_cons (ev_strR (og_rowStr T) (hr.mono (by decide)) (EvP.of (Evl.ev_var rfl) fun H5 e5 => isr.ex (e2.trans e5))) Evl.ea_nil)) (by show 2 ≤ 1000; decide)
    · have hl2 := e2 _ _ hl1
      have hx2 := hx1.ex e2
      refine Evl.s_when (b := false) (Evl.et_is (a := !PyData.eqv (.list (atsD (fun i => (rs.map Rw.txt).getD i "") ((List.range xs.length).filter fun i => decide (V.int ((rs.getD i r0).state : Int) = V.int k)))) (.list (atsD (fun i => (rs.map Rw.txt).getD i "") ((List.range xs.length).filter fun i => decide (V.int ((rs.getD i r0).state : Int) = V.int k))))) (Evl.et_test (ev_opP (Evl.ev_var rfl) (EvLP.toP (el_lcRP (n := xs.length) (fun i => decide (V.int ((rs.getD i r0).state : Int) = V.int k)) (fun i y H => IsAt i ((rs.map Rw.txt).getD i "") y H) (fun i => IsAt.mono) (Evl.ea_cons (ev_lenT (Evl.ev_var rfl) (.inl (Evl.sq_of hl2))) Evl.ea_nil) (by omega) (fun _ => rfl) fun i H3 e3 hi => ?_)) fun y H3 e3 ⟨p', zs', ey, hp', hz'⟩ => ?_)) ?_) (fun h => by cases h) fun _ H3 e3 => ⟨_, _, rfl, (ex.trans e2).trans e3, (e2.trans e3) _ _ hp⟩
      · have hxi3 : xs[i]? = some xs[i] := List.getElem?_eq_getElem hi
        obtain ⟨r, hr1, isp⟩ := hx2.get hxi3
        have hg : rs.getD i r0 = r := by rw [List.getD_eq_getElem?_getD, hr1]; rfl
        have hg2 : (rs.map Rw.txt).getD i "" = r.txt := by rw [List.getD_eq_getElem?_getD, List.getElem?_map, hr1]; rfl
        rw [hg, hg2]
        have hat : ∀ H4, Ex H3 H4 → Ev (tOp (rIxL K) (tVar 1) (tVar 4)) [some (V.ref a), some (V.ref l), some (V.int k), some (.ref pt), some (V.int (i : Int)), none, none] H4 xs[i] := fun H4 e4 => Evl.ev_op (Evl.ev_var rfl) (Evl.ev_var rfl) (Evl.rv_ixL (Evl.sq_of ((e3.trans e4) _ _ hl2)) (atI_nat hxi3))
        obtain ⟨t, te, tf, td, et, ht, _⟩ := id isp
        refine ⟨Evl.et_test (Evl.ev_op (Evl.ev_op (x := .ref t) (Evl.ev_is (hat H3 (Ex.refl _)) et) Evl.ev_c (Evl.rv_ixT (v := iV r.state) (.inl (.inl (e3 _ _ ht))) rfl)) (Evl.ev_var rfl) (Evl.rv_eq rfl)), fun _ => ?_⟩
        exact ep_tup (Evl.ea_cons (Evl.ev_var rfl) (Evl.ea_cons (ev_g (Evl.ea_cons (hat H3 (Ex.refl _)) Evl.ea_nil) (sv_text (isp.ex e3) (ok.ok r (List.mem_of_getElem? hr1)))) Evl.ea_nil)) (by show 2 ≤ 1000; decide)
      · subst ey
        have hf : (fun i => within (.int k) ((rs.getD i r0).state : Int) ((rs.getD i r0).state : Int)) = fun i => decide (V.int ((rs.getD i r0).state : Int) = V.int k) := funext fun i => within_eq k _
        rw [hf, hlz, ← hlx] at hys
        exact rv_neD (fun H4 e4 => .lst (Evl.sq_of ((e3.trans e4) _ _ hpt)) (each_ats (P := fun i => (rs.map Rw.txt).getD i "") (each_ats_ex (P := fun i => (rs.map Rw.txt).getD i "") (e3.trans e4) hys))) (fun H4 e4 => .lst (Evl.sq_of (e4 _ _ hp')) (each_ats (P := fun i => (rs.map Rw.txt).getD i "") (each_ats_ex (P := fun i => (rs.map Rw.txt).getD i "") e4 hz'))) (ats_shaped hsP _) (ats_shaped hsP _)
      · show (!PyData.eqvAll _ _) = false
        rw [atsD_eqv]
        rfl
  rintro p σ' H1 ⟨s2, s3, rfl, ex, _⟩
  -- what is no state
  refine q_forLP (R := fun ys H' => ∃ t, ys = [.non, .bl true, .str "0", .int 24, .int (-1), .ref t] ∧ H' t = some (.tup [.int 0])) (fun H2 e2 Q q => ⟨1, rfl, ⟨by show 1 ≤ sizeLine; decide, fun t nt => ⟨by show 6 ≤ sizeLine; decide, fun p np => q p _ _ (Evl.fresh_back (Ex.new nt) np) ((Ex.new nt).trans (Ex.new np)) upd_same ⟨t, rfl, Ex.new np _ _ upd_same⟩⟩⟩⟩)
    (fun p ys i σ' H' => ∃ s2, σ' = [some v, some (.ref l), s2, s3, none, none, none] ∧ Ex H H' ∧ H' p = some (.lst ys) ∧ ∃ t, ys = [.non, .bl true, .str "0", .int 24, .int (-1), .ref t] ∧ H' t = some (.tup [.int 0]))
    (fun p ys H2 e2 hp ⟨t, ey, ht⟩ => ⟨_, rfl, ex.trans e2, hp, t, ey, ht⟩) (fun p ys i σ' H' ⟨_, _, _, hp, _⟩ => Evl.sq_of hp) ?_ ?_
  · rintro p ys i x σ' H2 hxi ⟨s2, rfl, ex2, hp, t, rfl, ht⟩
    have hv2 := hv.ex ex2
    obtain ⟨a, dx, pr, zs, rfl, ha, hpr, hz, ok'⟩ := id hv2
    have hlz := hz.len
    have hpl : Pl H2 x ∧ ∀ s : Nat, s ≤ 23 → within x (s : Int) (s : Int) = false := by
      have hm := List.mem_of_getElem? hxi
      simp only [List.mem_cons, List.not_mem_nil, or_false] at hm
      rcases hm with rfl | rfl | rfl | rfl | rfl | rfl
      · exact ⟨.non, fun _ _ => rfl⟩
      · exact ⟨.bl _, fun _ _ => rfl⟩
      · exact ⟨.str _, fun _ _ => rfl⟩
      · refine ⟨.int _, fun s hs => ?_⟩
        rw [within_eq]
        exact decide_eq_false fun e => by injection e with e; omega
      · refine ⟨.int _, fun s hs => ?_⟩
        rw [within_eq]
        exact decide_eq_false fun e => by injection e with e; omega
      · exact ⟨.tup t _ ht, fun _ _ => rfl⟩
    obtain ⟨hpl, hno⟩ := hpl
    refine Evl.s_when (b := false) (Evl.et_is (a := !PyData.eqv (.list []) (.list [])) (Evl.et_test (ev_opPP (R := fun ys H3 => ys = []) (R' := fun ys H3 => ys = []) ?_ (fun H3 e3 Q q => Evl.el_lst (σ := [some (V.ref a), some (V.ref l), some x, s3, none, none, none]) (H := H3) Evl.ea_nil (by simp) H3 (Ex.refl _) Q fun p H4 np e4 hp4 => q p [] H4 np e4 hp4 rfl) (fun _ _ _ _ h => h) fun p q ys zs H3 hp hq r1 r2 => ?_)) rfl) (fun h => by cases h) fun _ H3 e3 => ⟨_, rfl, ex2.trans e3, e3 _ _ hp, t, rfl, e3 _ _ ht⟩
    · refine EvLP.imp (el_gen zs.length _ (fun σ => ∃ s2 s3, σ = [some (.ref a), some x, s2, s3]) _ (fun _ _ _ => True) [.ref a, x] (fun i _ _ _ _ _ _ _ _ => trivial) (by omega) (fun H3 e3 R r => ?_) (gl_state T ha hpr hz hpl) ⟨none, none, rfl⟩ ?_ ?_) fun ys H4 he => ?_
      · exact ⟨.ref a, rfl, ⟨a, _, dx, _, rfl, e3 _ _ ha, rfl, cls_End T ok.sd, meth_at_state T ok.sd, hr.mono (by decide)⟩, x, rfl, rfl, r H3 (Ex.refl _)⟩
      · rintro σ1 H3 ⟨s4, s5, rfl⟩ e3
        exact (Evl.ea_cons (ev_fld (Evl.ev_var rfl) (e3 _ _ ha) (cls_End T ok.sd) (no_own_rows T ok.sd) rfl) Evl.ea_nil) H3 (Ex.refl _) _ fun H4 e4 => ⟨pr, zs, rfl, Evl.ex_t (e3.trans e4) hpr, rfl, e4, e3.trans e4⟩
      · rintro i y H3 e3 hi hpz _
        exfalso
        have hi2 : i < rs.length := by omega
        have hg : rs.getD i r0 = rs[i] := by rw [List.getD_eq_getElem?_getD, List.getElem?_eq_getElem hi2]; rfl
        rw [hg, hno _ (ok.ok _ (List.getElem_mem hi2)).state] at hpz
        cases hpz
      · have hf : (List.range zs.length).filter (fun i => within x ((rs.getD i r0).state : Int) ((rs.getD i r0).state : Int)) = [] := List.filter_eq_nil_iff.mpr fun i hi => by
          have hi2 : i < rs.length := by have := List.mem_range.mp hi; omega
          have hg : rs.getD i r0 = rs[i] := by rw [List.getD_eq_getElem?_getD, List.getElem?_eq_getElem hi2]; rfl
          rw [hg, hno _ (ok.ok _ (List.getElem_mem hi2)).state]
          simp
        rw [hf] at he
        cases he
        rfl
    · subst r1 r2
      exact rv_neD (fun H4 e4 => .lst (Evl.sq_of (e4 _ _ hp)) .nil) (fun H4 e4 => .lst (Evl.sq_of (e4 _ _ hq)) .nil) (by decide +kernel) (by decide +kernel)
  · rintro p ys σ' H2 ⟨s2, rfl, ex2, _⟩
    exact Evl.s_ret Evl.ev_c fun H3 e3 => hq H3 (ex2.trans e3)
end
end Mp
set_option maxHeartbeats 4000000
/-! A caught exception that is kept behind its clause; _law_heard. -/
namespace Mp
open PySem PySem.Spec PyProof.Rows L2
open Evl (Ex Ev EvL EvU EvT EvA RV SpV given)

/-- an exception that stands: its class, its dict -/
def KeptP (a : Addr) (cls : Value) (d : Option Addr) (h : Heap) : Prop := ∃ oe, h.get? a = some oe ∧ Zc cls d oe ∧ ∃ vs, oe.data = .fields vs
def kept (a : Addr) (cls : Value) (d : Option Addr) : HO := .ext (KeptP a cls d)
theorem kept_ok {P : Program} {w : World} {H : Hp} {h : Heap} {a : Addr} {cls : Value} {d : Option Addr} (e : KeptP a cls d h) : ObjOk P w H h a (kept a cls d) := by
  obtain ⟨oe, ho, r⟩ := e
  exact ⟨⟨oe, ho, r⟩, ⟨oe, ho⟩, fun h1 h2 ⟨o, e1, r⟩ k => ⟨o, k _ e1, r⟩⟩
theorem kept_at {P : Program} {w : World} {H : Hp} {h : Heap} {a : Addr} {cls : Value} {d : Option Addr} (hok : HOk P w H h) (e : H a = some (kept a cls d)) : KeptP a cls d h := by
  have x : ObjOk P w H h a (.ext (KeptP a cls d)) := hok a _ e
  exact x.1
section
variable {X : Cx} {pins : List (Addr × Obj)} {σ : L2.St} {H : Hp} {s : Shared} {a : Addr} {oe : Obj} {cls : Value} {d : Option Addr}
/-- what was pinned is tracked from now on -/
theorem inv_track (I : Inv X ((a, oe) :: pins) σ H s) (hnew : X.s_0.heap.get? a = none) (hap : ∀ p ∈ X.pn ++ pins, p.1 ≠ a) (hz : Zc cls d oe) (hd : ∃ vs, oe.data = .fields vs) : Inv X pins σ (upd H a (kept a cls d)) s := by
  obtain ⟨ha, hna, hL, hF, hC⟩ := I.pin (a, oe) (List.mem_append_right _ List.mem_cons_self)
  have ha : s.heap.get? a = some oe := ha
  have hna : H a = none := hna
  have old : ∀ {b : Addr} {o : Obj}, X.s_0.heap.get? b = some o → b ≠ a := fun {b o} e z => by rw [z, hnew] at e; cases e
  have tr : ∀ {b : Addr} {u : HO}, H b = some u → b ≠ a := fun {b u} e z => by rw [z, hna] at e; cases e
  have sub : ∀ {b : Addr} {u : HO}, H b = some u → upd H a (kept a cls d) b = some u := fun {b u} e => by rw [upd_ne (tr e)]; exact e
  refine ⟨I.ok, I.os, I.bare, ⟨I.base.keep, I.base.slot, fun b o e n hb => ?_, I.base.there, fun b xs e => sub (I.base.tups b xs e), fun b o u e => sub (I.base.frzs b o u e), fun b ps e => ?_⟩, I.loc, I.cell, ?_, fun x c e => ?_, fun p hp => ?_, fun b o e => ?_, I.len⟩
  · rw [upd_ne (old e)]
    exact I.base.free b o e n hb
  · obtain ⟨more, q⟩ := I.base.tbls b ps e
    exact ⟨more, sub q⟩
  · rw [upd_ne (fun z => hL (by rw [z]))]
    exact I.free
  · obtain ⟨v, o, ho, hv⟩ := I.cell x c e
    rw [upd_ne (fun z => by
      rw [z, ha] at ho
      cases ho
      exact hC v hv)]
    exact I.freeC x c e
  · obtain ⟨e1, n, r⟩ := I.pin p ((List.mem_append.mp hp).elim (List.mem_append_left _) fun z => List.mem_append_right _ (List.mem_cons_of_mem _ z))
    exact ⟨e1, by rw [upd_ne (hap p hp)]; exact n, r⟩
  · by_cases hb : b = a
    · subst hb
      rw [upd_same] at e
      cases e
      exact kept_ok ⟨oe, ha, hz, hd⟩
    · rw [upd_ne hb] at e
      exact (I.hok b o e).stay (fun _ _ _ q => q) (fun _ q => sub q) fun _ _ q => sub q
end
/-- try: body, except c as n: suite; the exception stands behind it -/
def wKeep (K : PySem.W.Frag) (c : Value) (n i : Nat) (ts : Addr → Value → Option Addr → TS) (D : Ends) : WX := fun cls d σ H =>
  PySem.W.exmOne K cls c = some true ∧ ∀ a, H a = none → σ.length = n → ts a cls d { nx := fun σ' H' => H' a = none → D.nx (σ'.set i none) (upd H' a (kept a cls d)), rt := fun _ _ => False, bk := fun _ _ => False, ct := fun _ _ => False } (σ.set i (some (.ref a))) H
section
variable {X : Cx} {x n : Str} {c : Value} {i : Nat} {body suite : List Stmt} {b₀ : Stmt} {np pos pos' : Pos} {tb : WX → TS} {ts : Addr → Value → Option Addr → TS}
theorem ps_try_keep (hs : X.stack = X.env :: X.outer) (hf : X.env.frame = some X.env.locals) (hex : X.ex = []) (hN : X.N.Nodup) (hi : X.N[i]? = some n) (hln : X.env.kindOf n = some .local) (hc : Names X x c)
    (hb : ∀ (W : WX) (pn : List (Addr × Obj)) (xe : Value → Shared → Prop), Takes (X.tr pn xe) W → PassesOwn (model X.prog X.w) X.A X.env xe → PSs (X.tr pn xe) body (tb W))
    (hsu : ∀ (a : Addr) (oe : Obj) (cls : Value) (d : Option Addr) (pn : List (Addr × Obj)), Zc cls d oe → (∃ vs, oe.data = .fields vs) → PSs (X.suite a ((a, oe) :: pn)) (b₀ :: suite) (ts a cls d)) :
    PS X (.Try body [.ExceptHandler (some (.Name x np)) (some n) (b₀ :: suite) pos'] [] [] pos) (fun D σ H => tb (wKeep X.K c X.N.length i ts D) D σ H) := by
  refine ⟨fun pins s σ H D I h => wpAny_Try_except ?_⟩
  have ok := I.ok
  have frames : X.A.frames = some (X.env :: X.outer) := ok.frames.trans (congrArg some hs)
  refine wpAny_mono ((hb (wKeep X.K c X.N.length i ts D) (X.pn ++ pins) (fun e s₁ => wpAny (model X.prog X.w) X.A (noteFrame e X.env) (fun _ s₂ => wpAny (model X.prog X.w) X.A (setFlight e none)
    (fun _ s₃ => wpAny (model X.prog X.w) X.A (handleBy e X.env [.ExceptHandler (some (.Name x np)) (some n) (b₀ :: suite) pos']) (SP X pins D) X.xe s₃) X.xe s₂) X.xe s₁) (fun u s' air => ?_) PassesOwn.looking).run [] s σ H D (I.toTry _) h) (fun f s1 q => ?_) fun _ _ q => q
  · obtain ⟨a, B, sI, pins', σ', H', cls, d, rfl, J0, nb, up, sky, na, os, ag, hm, hts⟩ := air
    have J : Inv X pins σ' H' sI := J0.ofTry ok
    rw [hs] at sky
    refine Sky.land Zc.steady frames hf sky fun h3 fl3 up3 => ?_
    have J3 : Inv X pins σ' H' { s' with heap := h3 } := J.landed nb fl3.1 (up.trans up3) os ag
    obtain ⟨oe3, vs3, he3, hz3, hd3⟩ := fl3.there
    have nfr : a ∉ frs (X.env :: X.outer) := fun hm => by
      obtain ⟨_, o', e', no⟩ := fl3.2.2.1.mem hm
      rw [he3] at e'
      cases e'
      exact no _ hd3
    have nL : a ≠ X.env.locals := fun z => nfr (List.mem_filterMap.mpr ⟨X.env, List.mem_cons_self, hf.trans (congrArg some z.symm)⟩)
    have nF : a ∉ X.fs := fun hm => by
      obtain ⟨e, he, q⟩ := List.mem_filterMap.mp hm
      exact nfr (List.mem_filterMap.mpr ⟨e, List.mem_cons_of_mem _ he, q⟩)
    -- a is younger than the try
    have nI : sI.heap.get? a = none := by
      cases e : sI.heap.get? a with
      | none => rfl
      | some o =>
        have z := nb a o e (by rw [hs]; exact nfr)
        rw [fl3.2.1] at z
        cases z
    have n0 : X.s_0.heap.get? a = none := by
      cases e : X.s_0.heap.get? a with
      | none => rfl
      | some o =>
        obtain ⟨o', z⟩ := J.base.there a o e (by rw [hex]; simp)
        rw [nI] at z
        cases z
    have hap : ∀ p ∈ X.pn ++ pins, p.1 ≠ a := fun p hp z => by
      have q := (J.pin p hp).1
      rw [z, nI] at q
      cases q
    have S3 := J3.suite he3 hd3 na nL nF
    refine wpAny_handleBy_cons (codeAny_handlers_test ?_) (fun q => by cases q)
    have LT : PySem.W.Looks (model X.prog X.w) h3 (typeOf (.ref a)) cls := fun A Q E s k q => wpAny_typeOf_ref (k _ _ he3) (by rw [hz3.1]; exact q)
    have LM := PySem.W.exm_one (M := model X.prog X.w) J3.kIn LT hm
    have named : ∀ {Q : Value → Shared → Prop} {E : Value → Shared → Prop}, Q c { s' with heap := h3 } → wpAny (model X.prog X.w) (X.A.mark (some (.ref a))) (eval (.Name x np) X.env) Q E { s' with heap := h3 } := fun {Q E} q => by
      obtain ⟨hg, hdbg, hm | ⟨hm, hv, hnn⟩⟩ := hc
      · exact ld_glob (X := X.suite a ((a, oe3) :: (X.pn ++ pins))) S3 hg hm q hdbg
      · exact ld_blt (X := X.suite a ((a, oe3) :: (X.pn ++ pins))) S3 hg hm hv q hnn hdbg
    refine named (LM.here (codeAny_handlers_suite_as (HandSPX.lands_againZ fl3 fun h4 fl4 up4 => ?_)))
    have J4 : Inv X pins σ' H' { s' with heap := h4 } := J.landed nb fl4.1 ((up.trans up3).trans up4) os ag
    obtain ⟨oe4, vs4, he4, hz4, hd4⟩ := fl4.there
    have S4 := J4.suite he4 hd4 na nL nF
    refine store_ok (X := X.suite a ((a, oe4) :: (X.pn ++ pins))) (v := .ref a) S4 hN hi (.inl hln) rfl (fun s5 S5 => ?_) (.inr hln)
    refine wpAny_mono ((hsu a oe4 cls d (X.pn ++ pins) hz4 ⟨_, hd4⟩).run [] s5 _ H' _ S5 (hts a na J.len)) (fun f s6 hsp => ?_) fun _ _ z => False.elim z
    cases f with
    | next =>
      obtain ⟨σ6, H6, S6, q6⟩ := hsp
      have I6 : Inv X ((a, oe4) :: pins) σ6 H6 s6 := ⟨ok, S6.os, S6.bare, S6.base, S6.loc, S6.cell, S6.free, S6.freeC, fun p hp => S6.pin p (List.mem_append_left _ (by
        rcases List.mem_append.mp hp with z | z
        · exact List.mem_cons_of_mem _ (List.mem_append_left _ z)
        · rcases List.mem_cons.mp z with z | z
          · exact z ▸ List.mem_cons_self
          · exact List.mem_cons_of_mem _ (List.mem_append_right _ z))), S6.hok, S6.len⟩
      refine gone_ok I6 hN hi hln fun s7 I7 => ?_
      exact ⟨_, _, inv_track I7 n0 hap hz4 ⟨_, hd4⟩, q6 (I7.pin (a, oe4) (List.mem_append_right _ List.mem_cons_self)).2.1⟩
    | brk => obtain ⟨_, _, _, q⟩ := hsp; exact q.elim
    | cont => obtain ⟨_, _, _, q⟩ := hsp; exact q.elim
    | ret u => obtain ⟨_, _, _, _, _, q⟩ := hsp; exact q.elim
  · match f, q with
    | .next, ⟨σ', H', J, q⟩ => exact wpAny_execs_nil ⟨σ', H', J.ofTry ok, q⟩
    | .brk, ⟨σ', H', J, q⟩ => exact ⟨σ', H', J.ofTry ok, q⟩
    | .cont, ⟨σ', H', J, q⟩ => exact ⟨σ', H', J.ofTry ok, q⟩
    | .ret u, ⟨v, σ', H', J, r, q⟩ => exact ⟨v, σ', H', J.ofTry ok, r, q⟩
end
/-! ### what is asked of a kept exception -/
theorem kept_inst {P : Program} {w : World} {H : Hp} {h : Heap} {a d C : Addr} {u : V} {g : Str} (hok : HOk P w H h) (e : H a = some (kept a (.ref C) (some d))) (e2 : H d = some (.xd [(g, u)])) :
    ∃ oe od uu, PySem.W.InstAt h a oe C (some od) ∧ PySem.W.lookIn g od = some (some uu) ∧ RelV u uu := by
  obtain ⟨oe, ho, hz, vs, hd⟩ := kept_at hok e
  have hx : ObjOk P w H h d (.xd [(g, u)]) := hok d _ e2
  obtain ⟨mA, hns, hr⟩ := hx
  obtain ⟨od, ho2, hl⟩ := lookIn_ns hns
  have l : List.lookup g [(g, u)] = some u := by simp [List.lookup]
  obtain ⟨uu, hu, ru⟩ := RelO.some_of (v := u) (o := mA g) (by rw [← l]; exact hr g)
  exact ⟨oe, od, uu, ⟨ho, hz.1, by unfold PySem.W.notCls; rw [hd] <;> rfl, by rw [hz.2]; exact ho2⟩, by rw [hl, hu], ru⟩
/-- isinstance(e, NoRow) -/
def rIsK (K : PySem.W.Frag) : List V → Hp → VK → Prop := fun xs H Q => ∃ a d u, xs = [.ref a, .ref (He.ga K "NoRow")] ∧ H a = some (kept a (.ref (He.ga K "NoRow")) (some d)) ∧ H d = some (.xd [(("at" : Str), u)]) ∧ Q (.bl true) H
theorem call_isK {X : Cx} {base : Heap} {mg : Str → Option Value} (T : TX X.K mg base) : CallR X (.builtin "isinstance") (rIsK X.K) := by
  intro pins s σ H xs us Q I r h
  obtain ⟨a, d, u, rfl, ea, ed, q⟩ := h
  cases r with
  | cons rx rr =>
    cases rr with
    | cons rt rr =>
      cases rr
      cases rx
      cases rt
      obtain ⟨oe, od, uu, J, _⟩ := kept_inst I.hok ea ed
      exact PySem.W.kia_one (PySem.W.kitx_exc T.ex_ic T.ex_ga T.ex_gt T.ex_be T.ex_cl T.ocGet T.ocTk T.ex_ob) I.kIn J T.kit_NoRow_NoRow (fun z => nomatch z) fun tk => ⟨.bl true, H, I.kept (t' := tk) fun _ _ z => z, rfl, q⟩
/-- e.at -/
def tAtK (K : PySem.W.Frag) (te : TE) : TE := fun σ H Q => te σ H fun x H1 => ∃ a d u, x = .ref a ∧ H1 a = some (kept a (.ref (He.ga K "NoRow")) (some d)) ∧ H1 d = some (.xd [(("at" : Str), u)]) ∧ Q u H1
theorem pe_atK {X : Cx} {base : Heap} {mg : Str → Option Value} {e : Expr} {te : TE} {pos : Pos} (T : TX X.K mg base) (he : PE X e te) (hb : attributeBase e "at" X.env (eval e X.env) = eval e X.env := by rfl) : PE X (.Attribute e "at" pos) (tAtK X.K te) := by
  refine ⟨fun pins s σ H Q I h => attr_of hb (thn (he.run pins s σ H _ I h) fun u s1 hh => ?_)⟩
  obtain ⟨x, H1, I1, rx, a, d, v, rfl, ea, ed, q⟩ := hh
  obtain rfl : u = Value.ref a := rx
  obtain ⟨oe, od, uu, J, hl, ru⟩ := kept_inst I1.hok ea ed
  exact HandSPX.exc_get I1.kIn J T.ex_ga T.ex_gt T.ex_be (PySem.W.findObj_own T.ex_hd T.ex_at rfl hl) (handed_of ru) ⟨v, H1, I1.tok _, ru, q⟩
/-- heard: what was asked raised NoRow, at u -/
def TTheard (K : PySem.W.Frag) : (XK → Hp → VK → Prop) → Hp → VK → Prop := fun tl H Q => ∀ Qn : VK,
  tl (fun cls d H' => cls = .ref (He.ga K "NoRow") ∧ ∃ (od : Addr) (u : V) (D : PyData), d = some od ∧ H' od = some (.xd [(("at" : Str), u)]) ∧ (∀ H1, Ex H' H1 → Dp K H1 u D) ∧ D.canLay0 = true ∧ D.showable = true ∧ D.depth ≤ 60 ∧ D.shown.length ≤ 100000 ∧
    ∀ t H1, Ex H' H1 → H1 t = some (.tup [.str "norow", .str D.shown]) → Q (.ref t) H1) H Qn
abbrev nHd : List Str := ["_law_ask", "_law_caught", "error"]
theorem sc_heard : FnScope nHd ["_law_ask"] (defScope s_law_heard) := ⟨rfl, rfl, rfl, by decide +kernel, rfl, by decide +kernel, by decide +kernel⟩
theorem lam_passes {X : Cx} {A : Around} {outer : List Env} {s : Shared} {H : Hp} {E : XK} {scope : Scope} {f c' : Addr} : Passes (CX X.prog X.w) (LamX.lamCx X A outer s H E scope f c') E :=
  passes_call (takes_of (X := LamX.lamCx X A outer s H E scope f c') rfl rfl rfl rfl) fun _ _ _ _ h => h
theorem heard_gives {X : Cx} {base : Heap} {g : Addr} {cdg : Value} {q : Str} {k : Nat} (T : TX X.K X.mg base) (hgd : X.A.guards = some []) (hr : Room (k + 5) X.A) :
    LamX.GivesTo X nHd "_law_heard" (defScope s_law_heard) g cdg (defBody s_law_heard) "_law_ask" q (TTheard X.K) := by
  intro f c' s H Q tl act hc h
  refine ⟨_,
    pss_cons (ps_set (i := 1) sc_heard.nd rfl (Or.inl rfl) pe_non)
    (pss_cons (ps_try_keep (X := (cxOf C8.CX0 X.prog X.w X.K X.mg X.base nHd "_law_heard" (defScope s_law_heard) g cdg X.A X.stack s H C8.E0).nox) (i := 2) (c := .ref (He.ga X.K "LinkError"))
      (tb := fun W D σ H => ∃ Ech : XK, (∀ cls d σ' H', Ech cls d H' → W cls d σ' H') ∧ σ[0]? = some (some (.ref f)) ∧ H c' = some (LamX.CodeO c' q) ∧ ∀ Qn : VK, tl Ech H Qn)
      rfl rfl rfl sc_heard.nd rfl rfl ⟨rfl, by decide, .inl T.g_LinkError⟩ (fun W pn xe tk _ => ?_)
      (fun a oe cls d pn hz hd => pss_one (ps_set (i := 1) sc_heard.nd rfl (Or.inl rfl) (pv 2))))
    (pss_one (ps_ret (pe_ifExp (pt_val (pe_callB (r := rIsK X.K) (call_isK T) rfl T.f_isinstance (by decide +kernel) (pa_cons (pv 1) (pa_cons (pe_gR T.g_NoRow) pa_nil))))
      (pe_tup (pa_cons pe_str (pa_cons (pe_callB (r := rReprD X.K) (call_reprD hgd (by have := (Room.deeper (k := k + 4) hr (envOfC "_law_heard" (defScope s_law_heard) s.heap.objs.size g cdg)).un; show (X.A.deeper (envOfC "_law_heard" (defScope s_law_heard) s.heap.objs.size g cdg)).units + 70 < cLine; omega)) rfl T.f_repr (by decide +kernel) (pa_cons (pe_atK T (pv 1)) pa_nil)) pa_nil)))
      (pe_tup (pa_cons pe_str pa_nil)))))), ?_⟩
  · refine ⟨fun pins s' σ H' D I h' => ?_⟩
    obtain ⟨Ech, hW, h1, h2, h3⟩ := h'
    exact (pss_one (ps_ret (pe_lst (pa_cons (act W pn xe Ech _ _ tk hW) pa_nil)))).run pins s' σ H' D I ⟨h1, h2, h3 _⟩
  · refine ⟨fun cls d H' => cls = .ref (He.ga X.K "NoRow") ∧ ∃ (od : Addr) (u : V) (D : PyData), d = some od ∧ H' od = some (.xd [(("at" : Str), u)]) ∧ (∀ H1, Ex H' H1 → Dp X.K H1 u D) ∧ D.canLay0 = true ∧ D.showable = true ∧ D.depth ≤ 60 ∧ D.shown.length ≤ 100000 ∧
      ∀ t H1, Ex H' H1 → H1 t = some (.tup [.str "norow", .str D.shown]) → Q (.ref t) H1, fun cls d σ' H' h' => ?_, rfl, hc, h⟩
    obtain ⟨rfl, od, u, D, rfl, hd, hD, d1, d2, d3, d4, hq⟩ := h'
    refine ⟨T.ex_m, fun a na hl => ?_⟩
    obtain ⟨x, y, z, rfl⟩ : ∃ x y z, σ' = [x, y, z] := by
      match σ', hl with
      | [x, y, z], _ => exact ⟨x, y, z, rfl⟩
    refine ⟨.ref a, rfl, fun na2 => ?_⟩
    have nod : od ≠ a := fun z => by rw [z, na] at hd; cases hd
    have ea : L2.upd H' a (kept a (.ref (He.ga X.K "NoRow")) (some od)) a = some (kept a (.ref (He.ga X.K "NoRow")) (some od)) := upd_same
    have ex : Ex H' (L2.upd H' a (kept a (.ref (He.ga X.K "NoRow")) (some od))) := Ex.new na
    have hc : ∀ H3, Ex (L2.upd H' a (kept a (.ref (He.ga X.K "NoRow")) (some od))) H3 → H3 a = some (kept a (.ref (He.ga X.K "NoRow")) (some od)) ∧ H3 od = some (.xd [(("at" : Str), u)]) := fun H3 e3 => ⟨e3 _ _ ea, e3 _ _ (ex _ _ hd)⟩
    have tst : EvT (tB (tCB (rIsK X.K) (tCons (tVar 1) (tCons (tC (V.ref (He.ga X.K "NoRow"))) tNil)))) [x, some (.ref a), none] (L2.upd H' a (kept a (.ref (He.ga X.K "NoRow")) (some od))) true := Evl.et_B fun H3 e3 Q3 q3 =>
      ⟨.ref a, rfl, a, od, u, rfl, (hc H3 e3).1, (hc H3 e3).2, q3 H3 (Ex.refl _)⟩
    have hat : ∀ H2, Ex (L2.upd H' a (kept a (.ref (He.ga X.K "NoRow")) (some od))) H2 → Ev (tAtK X.K (tVar 1)) [x, some (.ref a), none] H2 u := fun H2 e2 H3 e3 Q3 q3 =>
      ⟨.ref a, rfl, a, od, u, rfl, (hc H3 (e2.trans e3)).1, (hc H3 (e2.trans e3)).2, q3 H3 (Ex.refl _)⟩
    refine tst _ (Ex.refl _) _ fun H2 e2 => ?_
    have tup := ep_tup (Evl.ea_cons (Evl.ev_c (v := .str "norow")) (Evl.ea_cons (ev_repr (hat H2 e2) (fun H3 e3 => hD H3 ((ex.trans e2).trans e3)) d1 d2 d3 d4) Evl.ea_nil)) (by show 2 ≤ 1000; decide)
    exact tup H2 (Ex.refl _) _ fun v H3 e3 ⟨t, et, ht⟩ => by
      subst et
      exact hq t H3 ((ex.trans e2).trans e3) ht
end Mp
set_option maxHeartbeats 4000000
/-! Def: law. -/
namespace Mp
open PySem PySem.Spec PyProof.Rows L2
open Evl (Ex Ev EvL EvU EvT EvA RV SpV given)

/-! ### what stays while a table grows -/
section
variable {K : PySem.W.Frag} {H H' : Hp} {a : Addr} {xs : List V}
theorem rd_en {u : HO} (hu : ∀ ps, u ≠ .tbl ps) (e : LamX.ExtN H H') (h : Rd H a u) : Rd H' a u := by
  rcases h with h | ⟨o, h⟩
  · exact .inl (e a _ h hu)
  · exact .inr ⟨o, e a _ h fun _ z => by cases z⟩
theorem sqT_en (e : LamX.ExtN H H') (h : SqT K H a xs) : SqT K H' a xs := h.elim (fun z => .inl (rd_en (fun _ z => by cases z) e z)) .inr
theorem ins_en {C dx : Addr} {fs : List (Str × V)} (e : LamX.ExtN H H') (h : H a = some (.ins C dx fs)) : H' a = some (.ins C dx fs) := e a _ h fun _ z => by cases z
theorem tup_en (e : LamX.ExtN H H') (h : H a = some (.tup xs)) : H' a = some (.tup xs) := e a _ h fun _ z => by cases z
theorem lst_en (e : LamX.ExtN H H') (h : H a = some (.lst xs)) : H' a = some (.lst xs) := e a _ h fun _ z => by cases z
theorem IsDeed.en {v : V} {d : Dd} (e : LamX.ExtN H H') (h : IsDeed K H v d) : IsDeed K H' v d := by
  obtain ⟨o, a, dx, r, z⟩ := h
  exact ⟨o, a, dx, r, ins_en e z⟩
theorem RowParts.en {r : Rw} {pd pe pf : Addr} (h : RowParts K H r pd pe pf xs) (e : LamX.ExtN H H') : RowParts K H' r pd pe pf xs := ⟨sqT_en e h.deeds, L2.Paired.mapP h.each fun _ _ z => z.en e, sqT_en e h.empty, sqT_en e h.full⟩
theorem IsRow.en {v : V} {r : Rw} (e : LamX.ExtN H H') (h : IsRow K H v r) : IsRow K H' v r := by
  obtain ⟨a, dx, pd, pe, pf, pk, xs, rfl, ha, hk, hp, ok⟩ := h
  exact ⟨a, dx, pd, pe, pf, pk, xs, rfl, ins_en e ha, tup_en e hk, hp.en e, ok⟩
theorem IsEnd.en {v : V} {side : Str} {rs : List Rw} (e : LamX.ExtN H H') (h : IsEnd K H v side rs) : IsEnd K H' v side rs := by
  obtain ⟨a, dx, p, xs, rfl, ha, hp, hx, ok⟩ := h
  exact ⟨a, dx, p, xs, rfl, ins_en e ha, sqT_en e hp, L2.Paired.mapP hx fun _ _ z => z.en e, ok⟩
theorem Plains.en {rs : List Rw} (e : LamX.ExtN H H') (h : Plains K H xs rs) : Plains K H' xs rs := L2.Paired.mapP h fun v r z => by
  obtain ⟨t, te, tf, td, rfl, h1, h2, h3, h4⟩ := z
  exact ⟨t, te, tf, td, rfl, tup_en e h1, sqT_en e h2, sqT_en e h3, sqT_en e h4⟩
theorem Pen.en {p c : Addr} {cells : List Int} {m : Nat} (h : Pen p c cells m H) (e : LamX.ExtN H H') : Pen p c cells m H' := by
  obtain ⟨a, b, h1, h2, h3, h4⟩ := h
  exact ⟨a, b, lst_en e h1, lst_en e h2, h3, h4⟩
theorem tabs_exb {T : List (Addr × Str)} {p : Addr} {ys : List V} (hp : H p = some (.lst ys)) (e : ExB p H H') (h : LamX.Tabs T H) : LamX.Tabs T H' := fun q hq => by
  obtain ⟨ps, h1, h2, h3⟩ := h q hq
  refine ⟨ps, e _ _ (fun z => ?_) h1, h2, fun pos cv hc => ?_⟩
  · rw [z, hp] at h1
    cases h1
  · obtain ⟨c, e1, e2⟩ := h3 pos cv hc
    refine ⟨c, e1, e _ _ (fun z => ?_) e2⟩
    rw [z, hp] at e2
    cases e2
end
section
variable {w : World} {K : PySem.W.Frag} {mg : Str → Option Value} {base : Heap}
abbrev nLw : List Str := ["_law_script", "_law_pen_here", "_law_turn_so", "_law_side", "_law_rows_here", "_law_end", "_law_other", "_law_strange", "_law_odd", "_law_again", "_law_told"]
theorem sc_law : FnScope nLw ["_law_script"] (defScope s_law) := ⟨rfl, rfl, rfl, by decide +kernel, rfl, by decide +kernel, by decide +kernel⟩
/-- _law_end[_law_odd], as the lambda asks it -/
def tAsk (K : PySem.W.Frag) (E : XK) : TE := fun σ H Q => ∃ (a dx : Addr) (fs : List (Str × V)) (y : V) (side : Str), IsSide side ∧ σ[5]? = some (some (.ref a)) ∧ σ[8]? = some (some y) ∧ H a = some (.ins (endC K side) dx fs) ∧ spEndGet K [.ref a, y] H Q E
abbrev xLw (w : World) (K : PySem.W.Frag) (mg : Str → Option Value) (base : Heap) (cL : Addr) (A : Around) (outer : List Env) (s : Shared) (H : Hp) : Cx := (cxOf CX0 RP w K mg base nLw "law" (defScope s_law) (He.ga K "law") (.ref cL) A outer s H E0).nox
/-- the lambda's name -/
abbrev qLm : Str := ("law" : Str) ++ ".<locals>." ++ "<lambda>"
theorem pe_heard {cL PL : Addr} {A : Around} {outer : List Env} {s : Shared} {H : Hp} (T : TX K mg base) (TB : LamX.TabB base mg cL PL) (hgd : A.guards = some []) (hr : Room 12 (A.deeper (envOfC "law" (defScope s_law) s.heap.objs.size (He.ga K "law") (.ref cL)))) {params : Arguments} {p1 p2 p3 p4 p5 pos : Pos}
    (hdef : defaultsOf params (xLw w K mg base cL A outer s H).env = ([], [])) (hbind : ∀ (q : Str) (cl : List (Str × Addr)) (pm cv ctv : Value) (body : Expr) (scope : Scope), bindArgs (PySem.W.kla_fn "<lambda>" q params body scope cl pm cv ctv) ⟨[], []⟩ = pure []) :
    PE (xLw w K mg base cL A outer s H) (.Call (.Name "_law_heard" p1) [.Lambda params (.Subscript (.Name "_law_end" p2) (.Name "_law_odd" p3) p4) { kind := .function, names := [("_law_end", .free), ("_law_odd", .free)], isGenerator := false, isCoroutine := false, more := [] } p5] [] pos)
      (LamX.tLam [(PL, qLm)] (TTheard K) (tAsk K)) := by
  obtain ⟨fd, F⟩ := T.d_law_heard
  obtain ⟨oc, od, dV, kV, doc, pm, an, cdg, ct, osl, efd, lk, hcd, hd, hk⟩ := F.ex
  have hdv : dV = .none := by
    rcases hd with ⟨_, e⟩ | ⟨e, _⟩
    · exact e
    · exact absurd rfl e
  subst hdv
  subst efd
  have hb : L2.Binds K (PySem.W.fnOf "_law_heard" "_law_heard" (defArgs s_law_heard) (defBody s_law_heard) (defScope s_law_heard) .none kV doc pm an cdg ct) ["_law_ask"] [] := Binds.all fun us hl => match us, hl with | [_], _ => rfl
  have hG := heard_gives (X := xLw w K mg base cL A outer s H) (g := He.ga K "_law_heard") (cdg := cdg) (q := qLm) (k := 0) T hgd (hr.mono (by decide))
  have hL : LamX.LamS (defScope s_law) { kind := .function, names := [("_law_end", .free), ("_law_odd", .free)], isGenerator := false, isCoroutine := false, more := [] } := LamX.lamS_by (by decide +kernel)
  have hu : ∀ p ∈ [(PL, qLm)], p.1 = PL → p.2 = qLm := fun p hp _ => by
    rcases List.mem_cons.mp hp with rfl | z
    · rfl
    · cases z
  have hm : (PL, qLm) ∈ [(PL, qLm)] := List.mem_cons_self
  have hr10 : Room (8 + 2) (xLw w K mg base cL A outer s H).A := hr.mono (by decide)
  refine LamX.pe_lamcall (X := xLw w K mg base cL A outer s H) (T := [(PL, qLm)]) (x := "_law_heard") (a := "_law_ask") (g := He.ga K "_law_heard") (c := cL) (P := PL) (k := 8) (Ng := nHd) (t := tAsk K) (by rfl) T.g_law_heard T.kf_law_heard lk hcd hb sc_heard rfl (Or.inl rfl)
    hG TB rfl hm hu hr10 hL hdef (fun q cl pm cv ctv => hbind q cl pm cv ctv _ _) fun A2 outer2 s2 H2 E f c' hr2 => ⟨fun pins s3 σ H3 Q I h => ?_⟩
  obtain ⟨a, dx, fs, y, side, hsd, h5, h8, ha, hsp⟩ := h
  refine (pe_ixO (X := LamX.lamCx (xLw w K mg base cL A outer s H) A2 outer2 s2 H2 E { kind := .function, names := [("_law_end", .free), ("_law_odd", .free)], isGenerator := false, isCoroutine := false, more := [] } f c') (E := E) lam_passes
    (pe_var (i := 5) rfl (Or.inr (Or.inr rfl))) (pe_var (i := 8) rfl (Or.inr (Or.inr rfl)))).run pins s3 σ H3 Q I ⟨.ref a, h5, y, h8, a, endC K side, dx, fs, 4, spEndGet K, rfl, ha, ox_endGet T hsd, hr2.mono (by decide), hsp⟩
end
end Mp
set_option maxHeartbeats 4000000
/-! What law asks of an end. -/
namespace Mp
open PySem PySem.Spec PyProof.Rows L2
open Evl (Ex Ev EvL EvU EvT EvA RV SpV given)

/-- neither a row nor an end -/
def Strange (K : PySem.W.Frag) (H : Hp) (u : V) : Prop := ∃ t, (∀ H', Ex H H' → TyX K H' u t) ∧ PySem.W.kitOne K t (.ref (He.ga K "Row")) = some false ∧ PySem.W.kitOne K t (.ref (He.ga K "End")) = some false ∧ ∀ side, IsSide side → PySem.W.notFirst K (endC K side) t = true
section
variable {K : PySem.W.Frag} {mg : Str → Option Value} {base : Heap} {H : Hp} {u v : V} {side : Str} {rs : List Rw}
theorem nf_side {t : Value} (h : IsSide side) (h1 : PySem.W.notFirst K (He.ga K "Sender") t = true) (h2 : PySem.W.notFirst K (He.ga K "Receiver") t = true) : PySem.W.notFirst K (endC K side) t = true :=
  side_cases (P := fun s => PySem.W.notFirst K (endC K s) t = true) h (by rw [endC_s]; exact h1) (by rw [endC_r]; exact h2)
theorem nf_ends (T : TX K mg base) {side' : Str} (h : IsSide side) (h' : IsSide side') : PySem.W.notFirst K (endC K side) (.ref (endC K side')) = true :=
  side_cases (P := fun s => PySem.W.notFirst K (endC K side) (.ref (endC K s)) = true) h' (by rw [endC_s]; exact nf_side h T.nf_Sender_Sender T.nf_Receiver_Sender) (by rw [endC_r]; exact nf_side h T.nf_Sender_Receiver T.nf_Receiver_Receiver)
theorem str_N (T : TX K mg base) : Strange K H .non := ⟨_, fun _ _ => .base .non, T.kit_N_Row, T.kit_N_End, fun _ h => nf_side h T.nf_Sender_N T.nf_Receiver_N⟩
theorem str_I (T : TX K mg base) (i : Int) : Strange K H (.int i) := ⟨_, fun _ _ => .base (.int i), T.kit_I_Row, T.kit_I_End, fun _ h => nf_side h T.nf_Sender_I T.nf_Receiver_I⟩
theorem str_B (T : TX K mg base) (b : Bool) : Strange K H (.bl b) := ⟨_, fun _ _ => .base (.bl b), T.kit_B_Row, T.kit_B_End, fun _ h => nf_side h T.nf_Sender_B T.nf_Receiver_B⟩
theorem str_S (T : TX K mg base) (z : Str) : Strange K H (.str z) := ⟨_, fun _ _ => .base (.str z), T.kit_S_Row, T.kit_S_End, fun _ h => nf_side h T.nf_Sender_S T.nf_Receiver_S⟩
theorem str_L (T : TX K mg base) {a : Addr} {xs : List V} (e : H a = some (.lst xs)) : Strange K H (.ref a) := ⟨_, fun _ ex => .base (.lst (ex _ _ e)), T.kit_L_Row, T.kit_L_End, fun _ h => nf_side h T.nf_Sender_L T.nf_Receiver_L⟩
theorem str_T (T : TX K mg base) {a : Addr} {xs : List V} (e : H a = some (.tup xs)) : Strange K H (.ref a) := ⟨_, fun _ ex => .base (.tup (ex _ _ e)), T.kit_T_Row, T.kit_T_End, fun _ h => nf_side h T.nf_Sender_T T.nf_Receiver_T⟩
theorem str_D (T : TX K mg base) {a : Addr} {kvs : List (Key × V)} (e : H a = some (.dK kvs)) : Strange K H (.ref a) := ⟨_, fun _ ex => .base (.dK (ex _ _ e)), T.kit_D_Row, T.kit_D_End, fun _ h => nf_side h T.nf_Sender_D T.nf_Receiver_D⟩
theorem Strange.inOk (h : Strange K H u) {H' : Hp} (e : Ex H H') : InOk K H' u none := by
  obtain ⟨t, a, b, c, d⟩ := h
  exact ⟨t, a H' e, b⟩
theorem Strange.eqOk (h : Strange K H u) {H' : Hp} (e : Ex H H') : EqOk K H' u none := by
  obtain ⟨t, a, b, c, d⟩ := h
  exact ⟨t, a H' e, c⟩
end
section
variable {X : Cx} {base : Heap} {mg : Str → Option Value} {H : Hp} {u v : V} {side side' : Str} {rs qs : List Rw}
/-- u in v, v an end -/
theorem rv_inE {o : Option Rw} (G : OG X.prog X.w X.K X.mg X.base 3 (endC X.K side) "__contains__" (spEndIn X.K)) (hr : Room 3 X.A) (hv : IsEnd X.K H v side rs) (hu : ∀ H', Ex H H' → InOk X.K H' u o) : RV (rInO X false) u v H (.bl (o.any fun r => rs.contains r)) := fun H1 e1 Q q => by
  obtain ⟨a, dx, p, xs, rfl, ha, _⟩ := id hv
  exact ⟨a, _, dx, _, 3, spEndIn X.K, rfl, e1 _ _ ha, G, hr, sv_endIn (hv.ex e1) (fun H' e' => hu H' (e1.trans e')) H1 (Ex.refl _) _ (fun H2 e2 => ⟨_, rfl, q H2 e2⟩) E0⟩
/-- v == u, v an end -/
theorem rv_eqE {o : Option (Str × List Rw)} {t : Value} (G : OG X.prog X.w X.K X.mg X.base 4 (endC X.K side) "__eq__" (spEndEq X.K)) (hr : Room 4 X.A) (hv : IsEnd X.K H v side rs) (hu : ∀ H', Ex H H' → EqOk X.K H' u o) (ty : ∀ H', Ex H H' → TyX X.K H' u t) (nf : PySem.W.notFirst X.K (endC X.K side) t = true) :
    RV (rEqO X) v u H (.bl (decide (o = some (side, rs)))) := by
  obtain ⟨a, dx, p, xs, rfl, ha, _⟩ := id hv
  exact rv_eqO ha (fun H1 e => .inl (ty H1 e)) nf G hr (sv_endEq hv hu)
theorem rv_eqEE (T : TX X.K mg base) (G : OG X.prog X.w X.K X.mg X.base 4 (endC X.K side) "__eq__" (spEndEq X.K)) (hr : Room 4 X.A) (hv : IsEnd X.K H v side rs) (hu : IsEnd X.K H u side' qs) : RV (rEqO X) v u H (.bl (decide ((side', qs) = (side, rs)))) := by
  have h1 : IsSide side := by obtain ⟨_, _, _, _, _, _, _, _, ok⟩ := id hv; exact ok.sd
  have h2 : IsSide side' := by obtain ⟨_, _, _, _, _, _, _, _, ok⟩ := id hu; exact ok.sd
  have z := rv_eqE (o := some (side', qs)) G hr hv (fun H' e => hu.ex e) (fun H' e => tyx_end T (hu.ex e)) (nf_ends T h1 h2)
  simpa only [Option.some.injEq] using z
theorem rv_eqES (G : OG X.prog X.w X.K X.mg X.base 4 (endC X.K side) "__eq__" (spEndEq X.K)) (hr : Room 4 X.A) (hv : IsEnd X.K H v side rs) (hu : Strange X.K H u) : RV (rEqO X) v u H (.bl false) := by
  have h1 : IsSide side := by obtain ⟨_, _, _, _, _, _, _, _, ok⟩ := id hv; exact ok.sd
  obtain ⟨t, a, b, c, d⟩ := id hu
  exact rv_eqE (o := none) G hr hv (fun H' e => hu.eqOk e) a (d _ h1)
/-- v != u, both ends -/
theorem rv_neEE (T : TX X.K mg base) (ne : PySem.W.findIn X.K (.ref (endC X.K side)) "__ne__" = some (some (.builtin "object.__ne__"))) (ob : PySem.W.mroIn X.K (endC X.K side) (.type "object") = some true) (G : OG X.prog X.w X.K X.mg X.base 4 (endC X.K side) "__eq__" (spEndEq X.K)) (hr : Room 5 X.A) (hv : IsEnd X.K H v side rs) (hu : IsEnd X.K H u side' qs) :
    RV (rNeO X) v u H (.bl (!decide ((side', qs) = (side, rs)))) := fun H1 e1 Q q => by
  have h1 : IsSide side := by obtain ⟨_, _, _, _, _, _, _, _, ok⟩ := id hv; exact ok.sd
  have h2 : IsSide side' := by obtain ⟨_, _, _, _, _, _, _, _, ok⟩ := id hu; exact ok.sd
  obtain ⟨a, dx, p, xs, rfl, ha, _⟩ := id hv
  refine ⟨a, _, dx, _, 4, spEndEq X.K, _, rfl, e1 _ _ ha, .inl (tyx_end T (hu.ex e1)), nf_ends T h1 h2, ne, ob, G, hr, sv_endEq (o := some (side', qs)) (hv.ex e1) (fun H' e' => hu.ex (e1.trans e')) H1 (Ex.refl _) _ (fun H2 e2 => ⟨_, rfl, ?_⟩) E0⟩
  simpa only [Option.some.injEq] using q H2 e2
theorem ep_Sender {K : PySem.W.Frag} {σ : L2.St} {E : XK} : EvP (StX.tMakeR (He.ga K "Sender") (spEndS K "sender") E tNil) σ H (fun v H' => IsEnd K H' v "sender" []) := fun H1 e Q q => by
  have z := endS_make (K := K) (H := H1) (side := "sender") (xs := []) (E := E) .nil ⟨.inl rfl, by simp, by simp, by simp⟩ q
  rw [endC_s] at z
  exact z
theorem ep_Receiver {K : PySem.W.Frag} {σ : L2.St} {E : XK} : EvP (StX.tMakeR (He.ga K "Receiver") (spEndS K "receiver") E tNil) σ H (fun v H' => IsEnd K H' v "receiver" []) := fun H1 e Q q => by
  have z := endS_make (K := K) (H := H1) (side := "receiver") (xs := []) (E := E) .nil ⟨.inr rfl, by simp, by simp, by simp⟩ q
  rw [endC_r] at z
  exact z
theorem ev_opEP {r : R2} {ta tb : TE} {σ : L2.St} {P P' : V → Hp → Prop} {z : V} (ha : EvP ta σ H P) (hb : EvP tb σ H P') (hP : ∀ v H H', Ex H H' → P v H → P v H') (hr : ∀ x y H1, P x H1 → P' y H1 → RV r x y H1 z) : Ev (tOp r ta tb) σ H z := fun H1 e Q q =>
  ha H1 e _ fun x H2 e2 px => hb H2 (e.trans e2) _ fun y H3 e3 py => hr x y H3 (hP _ _ _ e3 px) py H3 (Ex.refl _) Q fun H4 e4 => q H4 ((e2.trans e3).trans e4)
end
end Mp
set_option maxHeartbeats 4000000
/-! Def: law. -/
namespace Mp
open PySem PySem.Spec PyProof.Rows L2
open Evl (Ex Ev EvL EvU EvT EvA RV SpV given)

section
variable {P : Program} {w : World} {K : PySem.W.Frag} {mg : Str → Option Value} {base : Heap} {k : Nat} {f : Addr} {x qual : Str} {st : Stmt} {N ps : List Str}
/-- one call of a def; its code object is told -/
theorem call_shc {fd : FuncData} {A : Around} {outer : List Env} {s : Shared} {H : Hp} {us : List Value} {vs : List V} {Q : VK} (F : FunD K x qual (defArgs st) (defBody st) (defScope st) [] [] f fd) (S : FnScope N ps (defScope st)) (hr : Room (k + 1) A) (e0 : Env0 P w K mg base A outer s H) (r : Vals vs us) (hl : vs.length = ps.length)
    (hb : bindArgs fd ⟨us, []⟩ = pure (ps.zip us)) (body : Room k (A.deeper (envOfC qual (defScope st) s.heap.objs.size f fd.code)) → ∃ t, PSs (cxOf CX0 P w K mg base N qual (defScope st) f fd.code A outer s H E0) (defBody st) t ∧ t { nx := fun _ H' => Q .non H', rt := Q } (start N vs) H) :
    codeAny (model P w) A (.call (.ref f) ⟨us, []⟩) (CR CX0 outer P w H s Q E0) s := by
  obtain ⟨oc, od, dV, kV, doc, pm, an, cdv, ct, osl, rfl, lk, hcd, _, _⟩ := F.ex
  have inK : K.In s.heap := PySem.W.Frag.In.keeps e0.mod.kin fun b o z => (e0.bs b o z).1
  have nl : s.heap.NoLimit := e0.mod.nolimit.keeps fun b o z => (e0.bs b o z).1
  refine codeAny_call_function hr.depth (inK _ _ lk) rfl S.co S.gen rfl (PySem.W.codeRec_of inK hcd) ?_
  rw [hb]
  refine wpAny_pure ?_
  refine wpAny_newFunctionEnv_cells S.kind (fun y hy => (S.par y.1 (List.of_mem_zip hy).1).imp id fun q => ⟨q, PySem.W.cellsFrom_some _ _ _ (.inl q)⟩) fun env he s1 z => ?_
  subst he
  obtain ⟨t, ht, hq⟩ := body (hr.deeper _)
  refine ⟨nl.keeps z.toInCall.keep, codeAny_func (wpAny_mono (ht.run [] s1 _ _ _ (inv_start S hr.hd e0 hl r z) hq) (fun fl s' hs => ?_) fun e s' hs => hs)⟩
  have done : ∀ {τ : L2.St} {G : Hp} {y : V} {u : Value}, Inv (cxOf CX0 P w K mg base N qual (defScope st) f cdv A outer s H E0) [] τ G s' → RelV y u → Q y G → CE outer P w H s Q u s' := fun {τ G y u} J a b => ⟨y, G, J.os, J.bare, J.base, J.hok, a, b⟩
  match fl, hs with
  | .ret u, ⟨y, τ, G, J, a, b⟩ => exact done J a b
  | .next, ⟨τ, G, J, b⟩ => exact done (y := .non) (u := .none) J rfl b
  | .brk, ⟨_, _, _, b⟩ => exact b.elim
  | .cont, ⟨_, _, _, b⟩ => exact b.elim
end
def spLaw (K : PySem.W.Frag) (PL : Addr) : Sp := fun vs H Q _ => ∃ (a : Addr) (is : List Int), vs = [.ref a] ∧ SqL K H a (is.map V.int) ∧ LamX.Tabs [(PL, qLm)] H ∧ ∀ H', Q (.bl true) H'
section
variable {w : World} {K : PySem.W.Frag} {mg : Str → Option Value} {base : Heap}
/-- no index of n rows; D: as what it is told -/
def Odd (K : PySem.W.Frag) (H : Hp) (n : Nat) (y : V) : Prop := (∀ H', LamX.ExtN H H' → Pl H' y) ∧ within y 0 ((n : Int) - 1) = false ∧ ∃ D : PyData, (∀ H', LamX.ExtN H H' → Dp K H' y D) ∧ D.canLay0 = true ∧ D.showable = true ∧ D.depth ≤ 60 ∧ D.shown.length ≤ 100000 ∧ PyData.strOk D.shown = true
theorem odd_int {H : Hp} {n : Nat} {k : Int} (h : k < 0 ∨ (n : Int) ≤ k) (h1 : (PyData.int k).shown.length ≤ 100000) (h2 : PyData.strOk (PyData.int k).shown = true) (h3 : (PyData.int k).canLay0 = true) (h4 : (PyData.int k).showable = true) : Odd K H n (.int k) :=
  ⟨fun _ _ => .int _, by
    unfold within
    rw [Bool.and_eq_false_iff, decide_eq_false_iff_not, decide_eq_false_iff_not]
    omega, .int k, fun _ _ => .int _, h3, h4, by show 0 ≤ 60; decide, h1, h2⟩
theorem odd_of {H : Hp} {n : Nat} {y : V} {t0 : Addr} (hn : n ≤ 10) (hm : y ∈ [V.non, .bl true, .bl false, .int (-1), .int (n : Int), .int ((n : Int) + 1), .str "0", .ref t0, .int ((10 : Int) ^ (30 : Int).toNat)]) (ht : H t0 = some (.tup [.int 0])) : Odd K H n y := by
  have small : ∀ k ∈ List.range 12, (PyData.int (k : Nat)).shown.length ≤ 100000 ∧ PyData.strOk (PyData.int (k : Nat)).shown = true ∧ (PyData.int (k : Nat)).canLay0 = true ∧ (PyData.int (k : Nat)).showable = true := by decide +kernel
  simp only [List.mem_cons, List.not_mem_nil, or_false] at hm
  rcases hm with rfl | rfl | rfl | rfl | rfl | rfl | rfl | rfl | rfl
  · exact ⟨fun _ _ => .non, rfl, .none, fun _ _ => .non, by decide +kernel, by decide +kernel, by decide +kernel, by decide +kernel, by decide +kernel⟩
  · exact ⟨fun _ _ => .bl _, rfl, .bool true, fun _ _ => .bl _, by decide +kernel, by decide +kernel, by decide +kernel, by decide +kernel, by decide +kernel⟩
  · exact ⟨fun _ _ => .bl _, rfl, .bool false, fun _ _ => .bl _, by decide +kernel, by decide +kernel, by decide +kernel, by decide +kernel, by decide +kernel⟩
  · exact odd_int (.inl (by decide)) (by decide +kernel) (by decide +kernel) (by decide +kernel) (by decide +kernel)
  · obtain ⟨z1, z2, z3, z4⟩ := small n (by simp; omega)
    exact odd_int (.inr (Int.le_refl _)) z1 z2 z3 z4
  · obtain ⟨z1, z2, z3, z4⟩ := small (n + 1) (by simp; omega)
    exact odd_int (.inr (by omega)) z1 z2 z3 z4
  · exact ⟨fun _ _ => .str _, rfl, .str "0", fun _ _ => .str _, by decide +kernel, by decide +kernel, by decide +kernel, by decide +kernel, by decide +kernel⟩
  · exact ⟨fun _ e => .tup _ _ (tup_en e ht), rfl, .tuple [.int 0], fun _ e => .tup (.inl (.inl (tup_en e ht))) (.cons (.int _) .nil), by decide +kernel, by decide +kernel, by decide +kernel, by decide +kernel, by decide +kernel⟩
  · refine odd_int (.inr ?_) (by decide +kernel) (by decide +kernel) (by decide +kernel) (by decide +kernel)
    have : (10 : Int) ≤ (10 : Int) ^ (30 : Int).toNat := by decide +kernel
    omega
theorem Plains.reverse {H : Hp} {xs : List V} {rs : List Rw} (h : Plains K H xs rs) : Plains K H xs.reverse rs.reverse := by
  induction h with
  | nil => exact .nil
  | cons e _ ih =>
    rw [List.reverse_cons, List.reverse_cons]
    exact PySem.Paired.snoc ih e
theorem Plains.drop1 {H : Hp} {xs : List V} {rs : List Rw} (h : Plains K H xs rs) : Plains K H (xs.drop 1) (rs.drop 1) := by
  cases h with
  | nil => exact .nil
  | cons _ t => exact t
theorem PlOk.reverse {side : Str} {rs : List Rw} (h : PlOk side rs) : PlOk side rs.reverse := ⟨h.sd, fun r hr => h.ok r (List.mem_reverse.mp hr), (by unfold List.Nodup; rw [List.pairwise_reverse]; exact List.Pairwise.imp Ne.symm h.nd), by rw [List.length_reverse]; exact h.len⟩
theorem PlOk.drop1 {side : Str} {rs : List Rw} (h : PlOk side rs) : PlOk side (rs.drop 1) := ⟨h.sd, fun r hr => h.ok r (List.mem_of_mem_drop hr), (List.drop_sublist 1 rs).nodup h.nd, by rw [List.length_drop]; have := h.len; omega⟩
theorem told_ok : ∀ b b' : Bool, (PyData.list [.bool true, .bool b, .bool b', .bool false]).canLay0 = true ∧ (PyData.list [.bool true, .bool b, .bool b', .bool false]).showable = true ∧ (PyData.list [.bool true, .bool b, .bool b', .bool false]).depth ≤ 60 ∧ (PyData.list [.bool true, .bool b, .bool b', .bool false]).shown.length ≤ 100000 := by decide +kernel
theorem heard_shaped {z : Str} (h : PyData.strOk z = true) : SeqAt.shaped (.tuple [.str "norow", .str z]) = true := by
  unfold SeqAt.shaped
  have e : (PyData.tuple [.str "norow", .str z]).canLay0 = true := by
    show (PyData.strOk "norow" && (PyData.strOk z && true)) = true
    rw [h]
    decide +kernel
  rw [e, Bool.true_and]
  exact decide_eq_true (by show 1 ≤ 64; decide)
theorem if_ff {A B : Prop} (h : B) : if false = true then A else B := h
theorem code_law {oc : Value} {od an : Option Addr} {osl : Array (Option Value)} {dV kV doc pm cdv ct : Value} {a : Arguments} {b : List Stmt} {sc : Scope} (lk : K.lookup (He.ga K "law") = some ⟨oc, od, .func (PySem.W.fnOf "law" "law" a b sc dV kV doc pm an cdv ct), osl⟩) (hcd : PySem.W.codeIn K cdv "law" = true) :
    cdv = .ref (He.codeOf K lawD) := by
  cases cdv with
  | ref c => exact congrArg Value.ref (He.codeOf_eq (p := lawD) lk rfl).symm
  | _ => cases hcd
theorem k_law (T : TX K mg base) {PL : Addr} (TB : LamX.TabB base mg (He.codeOf K lawD) PL) {A : Around} {outer : List Env} {s : Shared} {H : Hp} {us : List Value} {vs : List V} {Q : VK} (hgd : A.guards = some []) (hr0 : Room 16 A) (e0 : Env0 RP w K mg base A outer s H) (rv : Vals vs us) (h : spLaw K PL vs H Q E0) :
    codeAny (model RP w) A (.call (.ref (He.ga K "law")) ⟨us, []⟩) (CR CX0 outer RP w H s Q E0) s := by
  obtain ⟨fd, F⟩ := T.d_law
  obtain ⟨a, is, rfl, hS, hTb, hq⟩ := h
  refine call_shc (k := 15) (N := nLw) (ps := ["_law_script"]) F sc_law hr0 e0 rv rfl ?_ ?_
  · obtain ⟨oc, od, dV, kV, doc, pm, an, cdv, ct, osl, rfl, lk, hcd, hd, hk⟩ := F.ex
    rcases hd with ⟨_, rfl⟩ | ⟨e, _⟩
    · match us, rv.length with
      | [_], _ => rfl
    · exact absurd rfl e
  have ec : fd.code = .ref (He.codeOf K lawD) := by
    obtain ⟨oc, od, dV, kV, doc, pm, an, cdv, ct, osl, rfl, lk, hcd, hd, hk⟩ := F.ex
    exact code_law lk hcd
  rw [ec]
  intro hr
  generalize He.codeOf K lawD = cL at TB hr ⊢
  refine ⟨_, PSs.nox
    (pss_cons (ps_set (i := 1) sc_law.nd rfl (Or.inl rfl) (pe_g (k_pen T) (hr.mono (by decide)) (pa_cons (pv 0) pa_nil)))
    (pss_cons (ps_for PassesOwn.never rfl (pi_range1 rfl T.f_range (pa_cons pe_int pa_nil)) (pg_name (i := 2) sc_law.nd rfl (Or.inl rfl))
      (pss_cons (ps_set (i := 3) sc_law.nd rfl (Or.inl rfl) (pe_g (k_pick T) (hr.mono (by decide)) (pa_cons (pv 1) (pa_cons (pe_lst (pa_cons pe_str (pa_cons pe_str pa_nil))) pa_nil))))
      (pss_cons (ps_set (i := 4) sc_law.nd rfl (Or.inl rfl) (pe_g (k_rows T) (hr.mono (by decide)) (pa_cons (pv 1) (pa_cons (pv 3) (pa_cons pe_int pa_nil)))))
      (pss_cons (ps_asg (pe_tup (pa_cons (pe_g (k_made T) (hr.mono (by decide)) (pa_cons (pv 3) (pa_cons (pv 4) pa_nil))) (pa_cons (pe_g (k_row T) (hr.mono (by decide)) (pa_cons (pv 1) (pa_cons (pv 3) pa_nil))) pa_nil))) (pg_tup rfl (pgs_cons (pg_name (i := 5) sc_law.nd rfl (Or.inr rfl)) (pgs_cons (pg_name (i := 6) sc_law.nd rfl (Or.inl rfl)) pgs_nil))))
      (pss_cons (ps_if (PW.pt (pw_or (pt_not (pt_val (pe_gG hgd (k_tells T) (hr.mono (by decide)) (pa_cons (pv 5) (pa_cons (pv 4) pa_nil))))) (pw_or1 (pt_not (pt_val (pe_g (k_states T) (hr.mono (by decide)) (pa_cons (pv 5) (pa_cons (pv 4) pa_nil)))))))) (pss_one (ps_ret pe_bl)) pss_nil)
      (pss_cons (ps_if (pt_cmpR op_ne (pe_cmpR (r := rInO (xLw w K mg base cL A outer s H) false) op_inO (ClX.pe_cmeth (pe_gR T.g_Row) (cr_Row T) (cm_RowRead T) (k_Row_read T) (hr.mono (by decide)) pass00 (pa_cons (pe_g (k_text T) (hr.mono (by decide)) (pa_cons (pv 6) pa_nil)) pa_nil)) (pv 5) (by rfl))
        (pe_cmpR (r := rInD K) (op_inD (units65 hr)) (pv 6) (pv 4) (by rfl)) (nomark _)) (pss_one (ps_ret pe_bl)) pss_nil)
      (pss_cons (ps_set (i := 7) sc_law.nd rfl (Or.inl rfl) (pe_g (k_pick T) (hr.mono (by decide)) (pa_cons (pv 1) (pa_cons (pe_lst (pa_cons pe_non (pa_cons pe_int (pa_cons pe_bl (pa_cons pe_str (pa_cons (pe_lst pa_nil) (pa_cons pe_dnewK (pa_cons (pv 6) (pa_cons (pv 4) pa_nil))))))))) pa_nil))))
      (pss_cons (ps_if (PW.pt (pw_or (pt_cmpR (r := rInO (xLw w K mg base cL A outer s H) false) op_inO (pv 7) (pv 5) (by rfl)) (pw_or (pt_cmpR (r := rEqO (xLw w K mg base cL A outer s H)) op_eqO (pv 5) (pv 7) (nomark _)) (pw_or1 (pt_cmpR (r := rInO (xLw w K mg base cL A outer s H) false) op_inO (pv 5) (pv 5) (by rfl)))))) (pss_one (ps_ret pe_bl)) pss_nil)
      (pss_cons (ps_set (i := 8) sc_law.nd rfl (Or.inr rfl) (pe_g (k_pick T) (hr.mono (by decide)) (pa_cons (pv 1) (pa_cons (pe_lst (pa_cons pe_non (pa_cons pe_bl (pa_cons pe_bl (pa_cons (pe_un un_neg pe_int) (pa_cons (pe_callB (r := Evl.rLenS K) call_len_seq rfl T.f_len PySem.boot_len (pa_cons (pv 4) pa_nil))
        (pa_cons (pe_op op_add (pe_callB (r := Evl.rLenS K) call_len_seq rfl T.f_len PySem.boot_len (pa_cons (pv 4) pa_nil)) pe_int) (pa_cons pe_str (pa_cons (pe_tup (pa_cons pe_int pa_nil)) (pa_cons (pe_op op_pow pe_int pe_int) pa_nil)))))))))) pa_nil))))
      (pss_cons (ps_if (pt_cmpR (r := rNeD K) (op_neD hr.units) (pe_heard T TB hgd (hr.mono (by decide)) rfl (fun _ _ _ _ _ _ _ => rfl)) (pe_tup (pa_cons pe_str (pa_cons (pe_callB (r := rReprD K) (call_reprD hgd (by have := hr.un; show (A.deeper _).units + 70 < cLine; omega)) rfl T.f_repr (by decide +kernel) (pa_cons (pv 8) pa_nil)) pa_nil))) (nomark _)) (pss_one (ps_ret pe_bl)) pss_nil)
      (pss_cons (ps_set (i := 9) sc_law.nd rfl (Or.inl rfl) (pe_g (k_made T) (hr.mono (by decide)) (pa_cons (pv 3) (pa_cons (pv 4) pa_nil))))
      (pss_cons (ps_set (i := 10) sc_law.nd rfl (Or.inl rfl) (pe_lst (pa_cons (pe_cmpR (r := rEqO (xLw w K mg base cL A outer s H)) op_eqO (pv 5) (pv 9) (nomark _)) (pa_cons (pe_cmpR (r := rEqO (xLw w K mg base cL A outer s H)) op_eqO (pv 5) (pe_g (k_made T) (hr.mono (by decide)) (pa_cons (pv 3) (pa_cons (pe_revL (pv 4)) pa_nil))) (nomark _))
        (pa_cons (pe_cmpR (r := rEqO (xLw w K mg base cL A outer s H)) op_eqO (pv 5) (pe_g (k_made T) (hr.mono (by decide)) (pa_cons (pv 3) (pa_cons (pe_slice sl_list (pv 4) (po_some pe_int) po_none) pa_nil))) (nomark _)) (pa_cons (pe_cmpR (r := rEqO (xLw w K mg base cL A outer s H)) op_eqO (pv 5) (pv 4) (nomark _)) pa_nil))))))
      (pss_one (ps_if (pt_cmpR op_ne (pe_callB (r := rReprD K) (call_reprD hgd (by have := hr.un; show (A.deeper _).units + 70 < cLine; omega)) rfl T.f_repr (by decide +kernel) (pa_cons (pv 10) pa_nil))
        (pe_callB (r := rReprD K) (call_reprD hgd (by have := hr.un; show (A.deeper _).units + 70 < cLine; omega)) rfl T.f_repr (by decide +kernel) (pa_cons (pe_lst (pa_cons pe_bl (pa_cons (pe_cmpR (r := rEqD K) (op_eqD hr.units) (pv 4) (pe_revL (pv 4)) (nomark _)) (pa_cons (pe_cmpR (r := rEqD K) (op_eqD hr.units) (pv 4) (pe_slice sl_list (pv 4) (po_some pe_int) po_none) (nomark _)) (pa_cons pe_bl pa_nil))))) pa_nil)) (nomark _)) (pss_one (ps_ret pe_bl)) pss_nil))))))))))))))
    (pss_one (ps_ret (pe_and (pe_cmpR (r := rNeO (xLw w K mg base cL A outer s H)) op_neO (pe_makeR0 (mk_Sender T) (k_Sender_init T) (hr.mono (by decide)) rfl T.g_Sender pass00) (pe_makeR0 (mk_Receiver T) (k_Receiver_init T) (hr.mono (by decide)) rfl T.g_Receiver pass00) (nomark _))
      (pe_and (pe_cmpR (r := rEqO (xLw w K mg base cL A outer s H)) op_eqO (pe_makeR0 (mk_Sender T) (k_Sender_init T) (hr.mono (by decide)) rfl T.g_Sender pass00) (pe_makeR0 (mk_Sender T) (k_Sender_init T) (hr.mono (by decide)) rfl T.g_Sender pass00) (nomark _))
        (pe_one (pe_notO (pe_makeR0 (mk_Receiver T) (k_Receiver_init T) (hr.mono (by decide)) rfl T.g_Receiver pass00))))))))), ?_⟩
  refine ⟨.ref a, rfl, a, is, rfl, hS, fun p c cells H1 e1 hp1 => ?_⟩
  refine Evl.q_forR1 (n := 6) (Evl.ea_cons Evl.ev_c Evl.ea_nil) (by decide) (fun i σ' H' => ∃ (s2 s3 s4 s5 s6 s7 s8 s9 s10 : Option V), σ' = [some (.ref a), some (.ref p), s2, s3, s4, s5, s6, s7, s8, s9, s10] ∧ Pen p c cells (2202 - 367 * i) H' ∧ LamX.Tabs [(PL, qLm)] H')
    (fun H2 e2 => ⟨none, none, none, none, none, none, none, none, none, rfl, (hp1.ex e2).le (by decide), hTb.ext (e1.trans e2)⟩) ?_ ?_
  · rintro i σ' H2 hi ⟨s2, s3, s4, s5, s6, s7, s8, s9, s10, rfl, hp2, ht2⟩
    have hp2 : Pen p c cells (2202 - 367 * (i + 1) + 366 + 1) H2 := hp2.le (by omega)
    generalize 2202 - 367 * (i + 1) = m at hp2 ⊢
    -- the side
    refine q_asgD (p := p) (c := c) (cells := cells) (m := m + 366 + 1) (n := m + 366) (evd_pick (k := m + 366 + 1) (P := fun x => ∃ side, IsSide side ∧ x = .str side) (evd_var rfl) (evda_cons evd_c (evda_cons evd_c evda_nil)) (fun xs hx => ?_) rfl) hp2 fun v H3 eb3 hp3 ⟨side, hsd, ev⟩ => ?_
    · obtain ⟨x0, r0, rfl, h0, x1, r1, rfl, h1, h2⟩ := hx
      subst h0 h1 h2
      refine ⟨by simp, by show 2 ≤ 1000; decide, fun x hx => ?_⟩
      simp only [List.mem_cons, List.not_mem_nil, or_false] at hx
      rcases hx with rfl | rfl
      · exact ⟨_, .inl rfl, rfl⟩
      · exact ⟨_, .inr rfl, rfl⟩
    subst ev
    obtain ⟨ys2, hy2⟩ := hp2.lst
    have ht3 := tabs_exb hy2 eb3 ht2
    -- the rows
    have hp3 : Pen p c cells (m + 35 + 331) H3 := hp3
    refine ⟨.ref p, rfl, .str side, rfl, p, c, cells, m + 35, side, rfl, hsd, hp3, fun l xs rs H4 nl lp lc hl4 hx4 ok eb4 hp4 => ?_⟩
    obtain ⟨ys3, hy3⟩ := hp3.lst
    have ht4 := tabs_exb hy3 eb4 ht3
    -- the end, another row
    refine ⟨.str side, rfl, .ref l, rfl, l, xs, rs, side, rfl, hl4, hx4, ok, fun ve H5 e5 hv5 => ?_⟩
    have hp5 : Pen p c cells (m + 2 + 33) H5 := hp4.ex e5
    refine ⟨.ref p, rfl, .str side, rfl, p, c, cells, m + 2, side, rfl, hsd, hp5, fun vo ro H6 okr hvo6 eb6 hp6 => ?_⟩
    refine ⟨by show 2 ≤ sizeLine; decide, fun t nt => ⟨t, _, rfl, .inl (.inl upd_same), rfl, _, _, rfl, _, _, rfl, rfl, ?_⟩⟩
    have e7 : Ex H6 (upd H6 t (.tup [ve, vo])) := Ex.new nt
    obtain ⟨ys5, hy5⟩ := hp5.lst
    have hv7 : IsEnd K (upd H6 t (.tup [ve, vo])) ve side rs := (IsEnd.mono ve p ys5 H5 H6 hy5 eb6 hv5).ex e7
    have hl7 : (upd H6 t (.tup [ve, vo])) l = some (.lst xs) := e7 _ _ (eb6 l _ lp (e5 _ _ hl4))
    have hx7 : Plains K (upd H6 t (.tup [ve, vo])) xs rs := (Plains.mono hy5 eb6 (hx4.ex e5)).ex e7
    have hvo7 := hvo6.ex e7
    have hp7 := hp6.ex e7
    have ht7 : LamX.Tabs [(PL, qLm)] (upd H6 t (.tup [ve, vo])) := (tabs_exb hy5 eb6 (ht4.ext e5)).ext e7
    generalize upd H6 t (.tup [ve, vo]) = H7 at hv7 hl7 hx7 hvo7 hp7 ht7 ⊢
    clear hp2 hp3 hp4 hp5 hp6 ht2 ht3 ht4 hy2 hy3 hy5 hv5 hvo6 hx4 hl4 e7 eb6 e5 eb4 eb3 nt
    have hlx := hx7.len
    have hnl := ok.len
    refine Evl.q_when (b := false) (Evl.et_is (Evl.et_or (a := false) (b := false) (Evl.et_is (Evl.et_not (Evl.et_B (b := true) (ev_g (Evl.ea_cons (Evl.ev_var rfl) (Evl.ea_cons (Evl.ev_var rfl) Evl.ea_nil)) fun H8 e8 Q8 q8 E8 => ⟨ve, l, xs, rs, side, rfl, hv7.ex e8, e8 _ _ hl7, hx7.ex e8, ok, fun H9 e9 => q8 H9 e9⟩))) rfl)
      fun _ => Evl.et_is (Evl.et_not (Evl.et_B (b := true) (ev_g (Evl.ea_cons (Evl.ev_var rfl) (Evl.ea_cons (Evl.ev_var rfl) Evl.ea_nil)) fun H8 e8 Q8 q8 E8 => ⟨ve, l, xs, rs, side, rfl, hv7.ex e8, e8 _ _ hl7, hx7.ex e8, ok, fun H9 e9 => q8 H9 e9⟩))) rfl) rfl) (fun h => by cases h) fun _ H8 e8 => ?_
    have hv8 := hv7.ex e8
    have hl8 := e8 _ _ hl7
    have hx8 := hx7.ex e8
    have hvo8 := hvo7.ex e8
    have hp8 := hp7.ex e8
    have ht8 := ht7.ext e8
    clear hv7 hl7 hx7 hvo7 hp7 ht7 e8
    -- the other row
    have er : EvP (ClX.tCMeth (He.ga K "Row") (spRowRead K) E0 (tC (.ref (He.ga K "Row"))) (tCons (fun σ H Q => tCons (tVar 6) tNil σ H fun vs H1 => spText K vs H1 Q E0) tNil)) [some (V.ref a), some (V.ref p), some (V.int (i : Int)), some (V.str side), some (V.ref l), some ve, some vo, s7, s8, s9, s10] H8 (fun v H' => IsRow K H' v ro) := fun H9 e9 Q9 q9 =>
      ⟨rfl, (Evl.ea_cons (ev_g (Evl.ea_cons (Evl.ev_var rfl) Evl.ea_nil) (sv_text (hvo8.ex e9) okr)) Evl.ea_nil) H9 (Ex.refl _) _ fun H10 e10 => sp_rowRead hsd okr H10 (Ex.refl _) Q9 (fun v H11 e11 hv => q9 v H11 (e10.trans e11) hv) E0⟩
    refine Evl.q_when (b := false) (Evl.et_is (a := !decide (V.bl (rs.contains ro) = V.bl (rs.contains ro))) (Evl.et_test (Evl.ev_op (x := .bl (rs.contains ro)) (y := .bl (rs.contains ro)) (ev_opQ er (fun H9 e9 => Evl.ev_var rfl) (fun y H9 e9 hy => rv_inE (X := xLw w K mg base cL A outer s H) (o := some ro) (og_endIn T hsd) (hr.mono (by decide)) (hv8.ex e9) fun H' e' => hy.ex e') fun v H H' e h => h.ex e)
      (Evl.ev_is (Evl.ev_op (Evl.ev_var rfl) (Evl.ev_var rfl) fun H9 e9 Q9 q9 => ⟨plainD ro, plainsD rs, dp_plain (hvo8.ex e9), .lst (Evl.sq_of (e9 _ _ hl8)) (dpAll_plains (hx8.ex e9)), plainD_shaped okr, plainsD_shaped ok.ok, q9 H9 (Ex.refl _)⟩) (congrArg V.bl (plainsD_any okr ok.ok))) (Evl.rv_ne rfl))) (by simp)) (fun h => by cases h) fun _ H9 e9 => ?_
    have hv9 := hv8.ex e9
    have hl9 := e9 _ _ hl8
    have hx9 := hx8.ex e9
    have hvo9 := hvo8.ex e9
    have hp9 := hp8.ex e9
    have ht9 := ht8.ext e9
    clear hv8 hl8 hx8 hvo8 hp8 ht8 e9 er
    -- something strange
    refine ⟨.ref p, rfl, by show 0 ≤ sizeLine; decide, fun la nla => fun dd ndd => ⟨vo, rfl, .ref l, rfl, by show 8 ≤ sizeLine; decide, fun lq nlq => ?_⟩⟩
    have exl := Ex.new (o := .lst []) nla
    have exd := Ex.new (o := .dK []) ndd
    have exq := Ex.new (o := .lst [.non, .int 0, .bl true, .str "0 : - > 0", .ref la, .ref dd, vo, .ref l]) nlq
    have exA := (exl.trans exd).trans exq
    have hpA : Pen p c cells (m + 1 + 1) _ := hp9.ex exA
    obtain ⟨lqp, _⟩ := (hp9.ex (exl.trans exd)).fresh nlq
    obtain ⟨ddp, _⟩ := (hp9.ex exl).fresh ndd
    obtain ⟨lap, _⟩ := hp9.fresh nla
    obtain ⟨ysA, hyA⟩ := hpA.lst
    obtain ⟨ys9, hy9⟩ := hp9.lst
    refine ⟨p, c, lq, cells, m + 1, [.non, .int 0, .bl true, .str "0 : - > 0", .ref la, .ref dd, vo, .ref l], rfl, upd_same, lqp, by simp, by show 8 ≤ 1000; decide, hpA, fun j x H10 hxj eb10 hp10 => ?_⟩
    have hl10 : H10 l = some (.lst xs) := eb10 l _ lp (exA _ _ hl9)
    have hs : Strange K H10 x := by
      have hm := List.mem_of_getElem? hxj
      simp only [List.mem_cons, List.not_mem_nil, or_false] at hm
      rcases hm with rfl | rfl | rfl | rfl | rfl | rfl | rfl | rfl
      · exact str_N T
      · exact str_I T _
      · exact str_B T _
      · exact str_S T _
      · exact str_L T (eb10 la _ lap (exq _ _ (exd _ _ upd_same)))
      · exact str_D T (eb10 dd _ ddp (exq _ _ upd_same))
      · obtain ⟨t, te, tf, td, rfl, h1, _⟩ := id hvo9
        refine str_T T (eb10 t _ (fun z => ?_) (exA _ _ h1))
        rw [z, hy9] at h1
        cases h1
      · exact str_L T hl10
    have hv10 : IsEnd K H10 ve side rs := IsEnd.mono ve p ysA _ H10 hyA eb10 (hv9.ex exA)
    have hx10 : Plains K H10 xs rs := Plains.mono hyA eb10 (hx9.ex exA)
    have ht10 : LamX.Tabs [(PL, qLm)] H10 := tabs_exb hyA eb10 (ht9.ext exA)
    clear hv9 hl9 hx9 hvo9 hp9 ht9 exl exd exq exA hpA lqp ddp lap hyA hy9 eb10 nla ndd nlq hxj
    refine Evl.q_when (b := false) (Evl.et_is (Evl.et_or (a := false) (b := false || false) (Evl.et_test (Evl.ev_op (Evl.ev_var rfl) (Evl.ev_var rfl) (rv_inE (X := xLw w K mg base cL A outer s H) (o := none) (og_endIn T hsd) (hr.mono (by decide)) hv10 fun H' e' => hs.inOk e')))
      fun _ => Evl.et_or (a := false) (b := false) (Evl.et_test (Evl.ev_op (Evl.ev_var rfl) (Evl.ev_var rfl) (rv_eqES (X := xLw w K mg base cL A outer s H) (og_endEq T hsd) (hr.mono (by decide)) hv10 hs)))
      fun _ => Evl.et_test (Evl.ev_op (Evl.ev_var rfl) (Evl.ev_var rfl) (rv_inE (X := xLw w K mg base cL A outer s H) (o := none) (og_endIn T hsd) (hr.mono (by decide)) hv10 fun H' e' => ⟨_, tyx_end T (hv10.ex e'), kit_end_row T hsd⟩))) rfl) (fun h => by cases h) fun _ H11 e11 => ?_
    have hv11 := hv10.ex e11
    have hl11 := e11 _ _ hl10
    have hx11 := hx10.ex e11
    have hp11 := hp10.ex e11
    have ht11 := ht10.ext e11
    clear hv10 hl10 hx10 hp10 ht10 e11 hs
    -- an odd index
    refine ⟨.ref p, rfl, 1, rfl, .ref l, rfl, l, xs, rfl, .inl (Evl.sq_of hl11), .ref l, rfl, l, xs, rfl, .inl (Evl.sq_of hl11), (xs.length : Int), 1, rfl, rfl, by show 1 ≤ sizeLine; decide, fun t0 nt0 => ⟨10, 30, rfl, rfl, ⟨by decide, by decide, by decide⟩, by show 9 ≤ sizeLine; decide, fun lq nlq => ?_⟩⟩
    have ext := Ex.new (o := .tup [.int 0]) nt0
    have exq := Ex.new (o := .lst [.non, .bl true, .bl false, .int (-1), .int (xs.length : Int), .int ((xs.length : Int) + 1), .str "0", .ref t0, .int ((10 : Int) ^ (30 : Int).toNat)]) nlq
    have exA := ext.trans exq
    have hpA : Pen p c cells (m + 1) _ := hp11.ex exA
    obtain ⟨lqp, _⟩ := (hp11.ex ext).fresh nlq
    obtain ⟨t0p, _⟩ := hp11.fresh nt0
    obtain ⟨ysA, hyA⟩ := hpA.lst
    refine ⟨p, c, lq, cells, m, [.non, .bl true, .bl false, .int (-1), .int (xs.length : Int), .int ((xs.length : Int) + 1), .str "0", .ref t0, .int ((10 : Int) ^ (30 : Int).toNat)], rfl, upd_same, lqp, by simp, by show 9 ≤ 1000; decide, hpA, fun j y H12 hxj eb12 hp12 => ?_⟩
    have hl12 : H12 l = some (.lst xs) := eb12 l _ lp (exA _ _ hl11)
    have hy : Odd K H12 rs.length y := by
      have hm := List.mem_of_getElem? hxj
      rw [hlx] at hm
      refine odd_of hnl hm ?_
      exact eb12 t0 _ t0p (exq _ _ upd_same)
    have hv12 : IsEnd K H12 ve side rs := IsEnd.mono ve p ysA _ H12 hyA eb12 (hv11.ex exA)
    have hx12 : Plains K H12 xs rs := Plains.mono hyA eb12 (hx11.ex exA)
    have ht12 : LamX.Tabs [(PL, qLm)] H12 := tabs_exb hyA eb12 (ht11.ext exA)
    clear hv11 hl11 hx11 hp11 ht11 ext exq exA hpA lqp t0p hyA eb12 nt0 nlq hxj
    obtain ⟨hPl, hwi, D, hD, d1, d2, d3, d4, d5⟩ := hy
    obtain ⟨ae, dxe, pe, zs, rfl, hae, _⟩ := id hv12
    -- it is heard
    refine ⟨ht12, fun H13 en ht13 Qn => ⟨ae, dxe, _, y, side, hsd, rfl, rfl, ins_en en hae, .ref ae, y, side, rs, rfl, hv12.en en, hPl _ en, .inr ⟨hwi, fun d H14 e14 hd => ⟨rfl, d, y, D, rfl, hd, fun H15 e15 => hD _ (en.trans (LamX.ExtN.of (e14.trans e15))), d1, d2, d3, d4, fun th H15 e15 hth => ?_⟩⟩⟩⟩
    refine ep_tup (vs := [.str "norow", .str D.shown]) (Evl.ea_cons Evl.ev_c (Evl.ea_cons (ev_repr (Evl.ev_var rfl) (fun H16 e16 => hD _ (en.trans (LamX.ExtN.of ((e14.trans e15).trans e16)))) d1 d2 d3 d4) Evl.ea_nil)) (by show 2 ≤ 1000; decide) H15 (Ex.refl _) _ fun v2 H16 e16 ⟨t2, ev2, ht2⟩ => ?_
    subst ev2
    refine ⟨.tuple [.str "norow", .str D.shown], .tuple [.str "norow", .str D.shown], .tup (.inl (.inl (e16 _ _ hth))) (.cons (.str _) (.cons (.str _) .nil)), .tup (.inl (.inl ht2)) (.cons (.str _) (.cons (.str _) .nil)), ?_, ?_, ?_⟩
    · exact heard_shaped d5
    · exact heard_shaped d5
    have en16 := en.trans (LamX.ExtN.of ((e14.trans e15).trans e16))
    have hv16 := hv12.en en16
    have hl16 := lst_en en16 hl12
    have hx16 := hx12.en en16
    have hp16 := hp12.en en16
    have ht16 := ht13.ext ((e14.trans e15).trans e16)
    clear hv12 hl12 hx12 hp12 ht12 hPl hD hae ht13 en16 hth ht2 hd e16 e15 e14 en
    refine ⟨false, congrArg V.bl (by simp [PyData.eqv, PyData.eqvAll]), ?_⟩
    refine if_ff ?_
    -- once more
    refine ⟨.str side, rfl, .ref l, rfl, l, xs, rs, side, rfl, hl16, hx16, ok, fun va H17 e17 hva => ?_⟩
    have hv17 := hv16.ex e17
    have hl17 := e17 _ _ hl16
    have hx17 := hx16.ex e17
    have hp17 := hp16.ex e17
    have ht17 := ht16.ext e17
    clear hv16 hl16 hx16 hp16 ht16 e17
    have GE := og_endEq (w := w) T hsd
    have hrE : Room 4 (xLw w K mg base cL A outer s H).A := hr.mono (by decide)
    -- made again, turned round, without the first
    have mR : ∀ {σ : L2.St} {G : Hp}, σ[3]? = some (some (.str side)) → σ[4]? = some (some (.ref l)) → Ex H17 G → EvP (fun σ H Q => tCons (tVar 3) (tCons (tRevL K (tVar 4)) tNil) σ H fun vs H1 => spMadeE K vs H1 Q E0) σ G (fun v H' => IsEnd K H' v side rs.reverse) := fun {σ G} h3 h4 eG G1 e1 Q1 q1 =>
      ⟨.str side, h3, .ref l, h4, l, xs, rfl, Evl.sq_of ((eG.trans e1) _ _ hl17), fun lr nlr => ⟨lr, xs.reverse, rs.reverse, side, rfl, upd_same, (hx17.ex ((eG.trans e1).trans (Ex.new nlr))).reverse, ok.reverse, fun v H2 e2 hv => q1 v H2 ((Ex.new nlr).trans e2) hv⟩⟩
    have mD : ∀ {σ : L2.St} {G : Hp}, σ[3]? = some (some (.str side)) → σ[4]? = some (some (.ref l)) → Ex H17 G → EvP (fun σ H Q => tCons (tVar 3) (tCons (tSl (rSlL K) (tVar 4) (tPart (tC (.int 1))) tNoPart) tNil) σ H fun vs H1 => spMadeE K vs H1 Q E0) σ G (fun v H' => IsEnd K H' v side (rs.drop 1)) := fun {σ G} h3 h4 eG G1 e1 Q1 q1 =>
      ⟨.str side, h3, .ref l, h4, 1, rfl, l, xs, rfl, Evl.sq_of ((eG.trans e1) _ _ hl17), fun lr nlr => ⟨lr, xs.drop 1, rs.drop 1, side, rfl, by rw [← cut_tail]; exact upd_same, (hx17.ex ((eG.trans e1).trans (Ex.new nlr))).drop1, ok.drop1, fun v H2 e2 hv => q1 v H2 ((Ex.new nlr).trans e2) hv⟩⟩
    refine Evl.q_asgL (xs := [.bl true, .bl (decide (rs = rs.reverse)), .bl (decide (rs = rs.drop 1)), .bl false]) (Evl.el_lst (Evl.ea_cons (Evl.ev_is (Evl.ev_op (Evl.ev_var rfl) (Evl.ev_var rfl) (rv_eqEE (X := xLw w K mg base cL A outer s H) (base := base) (mg := mg) T GE hrE hv17 hva)) (congrArg V.bl (by simp)))
      (Evl.ea_cons (Evl.ev_is (ev_opP (Evl.ev_var rfl) (mR rfl rfl (Ex.refl _)) fun y G e hy => rv_eqEE (X := xLw w K mg base cL A outer s H) (base := base) (mg := mg) T GE hrE (hv17.ex e) hy) (congrArg V.bl (by simp [eq_comm])))
      (Evl.ea_cons (Evl.ev_is (ev_opP (Evl.ev_var rfl) (mD rfl rfl (Ex.refl _)) fun y G e hy => rv_eqEE (X := xLw w K mg base cL A outer s H) (base := base) (mg := mg) T GE hrE (hv17.ex e) hy) (congrArg V.bl (by simp [eq_comm])))
      (Evl.ea_cons (Evl.ev_op (Evl.ev_var rfl) (Evl.ev_var rfl) (rv_eqES (X := xLw w K mg base cL A outer s H) GE hrE hv17 (str_L T hl17))) Evl.ea_nil)))) (by show 4 ≤ 100000; decide)) fun lt H18 nlt e18 hlt => ?_
    obtain ⟨d1, d2, d3, d4⟩ := told_ok (decide (rs = rs.reverse)) (decide (rs = rs.drop 1))
    have dpl : ∀ G, Ex H18 G → Dp K G (.ref l) (.list (plainsD rs)) := fun G e => .lst (Evl.sq_of ((e18.trans e) _ _ hl17)) (dpAll_plains (hx17.ex (e18.trans e)))
    refine Evl.s_when (b := false) (Evl.et_is (Evl.et_test (Evl.ev_op (x := .str (PyData.list [.bool true, .bool (decide (rs = rs.reverse)), .bool (decide (rs = rs.drop 1)), .bool false]).shown) (ev_repr (Evl.ev_var rfl) (fun G e => .lst (Evl.sq_of (e _ _ hlt)) (.cons (.bl _) (.cons (.bl _) (.cons (.bl _) (.cons (.bl _) .nil))))) d1 d2 d3 d4)
      (ev_reprL (ds := [.bool true, .bool (decide (rs = rs.reverse)), .bool (decide (rs = rs.drop 1)), .bool false]) (Evl.el_lst (Evl.ea_cons Evl.ev_c (Evl.ea_cons (Evl.ev_is (ev_opP (P := fun v G => ∃ lr, v = .ref lr ∧ G lr = some (.lst xs.reverse) ∧ Ex H18 G) (Evl.ev_var rfl) ?_ fun y G e hy => ?_) (congrArg V.bl (plainsD_eqv ok.ok ok.reverse.ok)))
        (Evl.ea_cons (Evl.ev_is (ev_opP (P := fun v G => ∃ lr, v = .ref lr ∧ G lr = some (.lst (xs.drop 1)) ∧ Ex H18 G) (Evl.ev_var rfl) ?_ fun y G e hy => ?_) (congrArg V.bl (plainsD_eqv ok.ok ok.drop1.ok))) (Evl.ea_cons Evl.ev_c Evl.ea_nil)))) (by show 4 ≤ 100000; decide)) (fun G e => .cons (.bl _) (.cons (.bl _) (.cons (.bl _) (.cons (.bl _) .nil)))) d1 d2 d3 d4) (Evl.rv_ne rfl))) (by simp)) (fun h => by cases h) fun _ H19 e19 => ?_
    · intro G1 e1' Q1 q1
      exact ⟨.ref l, rfl, l, xs, rfl, Evl.sq_of ((e18.trans e1') _ _ hl17), fun lr nlr => q1 _ _ (Ex.new nlr) ⟨lr, rfl, upd_same, e1'.trans (Ex.new nlr)⟩⟩
    · obtain ⟨lr, rfl, hlr, eG⟩ := hy
      exact rv_eqD (fun G1 e1' => dpl G1 (eG.trans e1')) (fun G1 e1' => .lst (Evl.sq_of (e1' _ _ hlr)) (dpAll_plains (hx17.ex ((e18.trans eG).trans e1')).reverse)) (plainsD_shaped ok.ok) (plainsD_shaped ok.reverse.ok)
    · intro G1 e1' Q1 q1
      exact ⟨.ref l, rfl, 1, rfl, l, xs, rfl, Evl.sq_of ((e18.trans e1') _ _ hl17), fun lr nlr => q1 _ _ (Ex.new nlr) ⟨lr, rfl, by rw [← cut_tail]; exact upd_same, e1'.trans (Ex.new nlr)⟩⟩
    · obtain ⟨lr, rfl, hlr, eG⟩ := hy
      exact rv_eqD (fun G1 e1' => dpl G1 (eG.trans e1')) (fun G1 e1' => .lst (Evl.sq_of (e1' _ _ hlr)) (dpAll_plains (hx17.ex ((e18.trans eG).trans e1')).drop1)) (plainsD_shaped ok.ok) (plainsD_shaped ok.drop1.ok)
    · exact ⟨_, _, _, _, _, _, _, _, _, rfl, (hp17.ex e18).ex e19, (ht17.ext e18).ext e19⟩
  · rintro σ' H2 ⟨s2, s3, s4, s5, s6, s7, s8, s9, s10, rfl, hp2, ht2⟩
    refine Evl.s_ret (v := .bl true) (Evl.ev_andV (a := true) (b := true && true) ?_ fun _ => Evl.ev_andV (a := true) (b := true) ?_ fun _ => ?_) fun H3 e3 => hq H3
    · exact Evl.ev_is (ev_opEP ep_Sender ep_Receiver (fun v H H' e h => h.ex e) fun x y H4 px py => rv_neEE (X := xLw w K mg base cL A outer s H) (base := base) (mg := mg) T (by show PySem.W.findIn K (.ref (endC K "sender")) _ = _; rw [endC_s]; exact T.ne_Sender) (by show PySem.W.mroIn K (endC K "sender") _ = _; rw [endC_s]; exact T.ob_Sender) (og_endEq T (.inl rfl)) (hr.mono (by decide)) px py) (congrArg V.bl (by decide +kernel))
    · exact Evl.ev_is (ev_opEP ep_Sender ep_Sender (fun v H H' e h => h.ex e) fun x y H4 px py => rv_eqEE (X := xLw w K mg base cL A outer s H) (base := base) (mg := mg) T (og_endEq T (.inl rfl)) (hr.mono (by decide)) px py) (congrArg V.bl (by decide +kernel))
    · intro H4 e4 Q4 q4
      refine ep_Receiver H4 (Ex.refl _) _ fun v H5 e5 hv => ?_
      obtain ⟨b, dx, p', xs, rfl, hb, _⟩ := id hv
      exact ⟨b, _, dx, _, 1, spEndLen K, rfl, hb, by rw [endC_r]; exact T.nb_Receiver, og_endLen T (.inr rfl), hr.mono (by decide), sv_endLen hv H5 (Ex.refl _) _ (fun H6 e6 => ⟨0, rfl, by decide, by decide, q4 H6 (e5.trans e6)⟩) E0⟩
end
end Mp
set_option maxHeartbeats 4000000
/-! The end: law called by the caller, where no guard stands and one table of code objects is empty. -/
namespace Mp
open PySem PySem.Spec PyProof.Rows L2
open Evl (Ex Ev EvL EvU EvT EvA RV SpV given)

/-- what the end says of the heap behind the call -/
def EndP (s : Shared) (r : Result) (s' : Shared) : Prop := r = .ok (.ret (.bool true)) ∧ OldK s.heap s'.heap ∧ s'.os = s.os ∧ AllBare s'.gens
section
variable {w : World} {K : PySem.W.Frag} {mg mb : Str → Option Value} {s : Shared} {a : Addr} {vs : List Value} {ns : List Int}
abbrev cL (K : PySem.W.Frag) : Addr := (He.cT K lawD).1
abbrev pL (K : PySem.W.Frag) : Addr := (He.cT K lawD).2
/-- H tells of the table, and of the script unless the head's things tell it -/
theorem end_at (c : SaysM s.heap K) (KX : K.In s.heap) (hns : s.heap.Ns mainGlobals mg) (hb : s.heap.Ns builtinsNs mb) (hbb : ∀ x : Str, x ≠ "__name__" → mb x = bootBuiltins x) (hlim : s.heap.NoLimit) (hg : s.gens = #[])
    (hbm : ∃ (bm : Addr) (ob : Obj), mg "__builtins__" = some (.ref bm) ∧ bm ≠ builtinsNs ∧ s.heap.get? bm = some ob ∧ ob.cls = .type "module" ∧ ob.dict = some builtinsNs ∧ ob.data = .plain)
    (ha : s.heap.get? a = some { cls := .type "list", data := .seq vs.toArray }) (H : Hp) (hP : H (pL K) = some (.tbl #[])) (hS : SqL K H a (ns.map V.int)) (hok : HOk RP w H s.heap) (hA : ∀ b, H b ≠ none → b = a ∨ b = pL K)
    (hF : H a = none ∨ ∃ o xs, H a = some (.frz o (.lst xs))) (hK : H a ≠ none → K.lookup a = none) :
    codeAny (model RP w) callerA (.call (.ref (He.ga K "law")) ⟨[.ref a], []⟩) (EndP s) s := by
  have ce : s.heap.get? (pL K) = some { cls := .none, data := .fields #[] } := c.empty
  have co : K.lookup (pL K) = none := c.out
  have aP : a ≠ pL K := fun z => by
    have q := ce
    rw [← z, ha] at q
    exact nomatch congrArg Obj.data (Option.some.inj q)
  -- what is neither a list nor an empty table is not told
  have free : ∀ {b : Addr} {o : Obj}, s.heap.get? b = some o → (∀ xs n, o.data ≠ .seq xs n) → o.data ≠ .fields #[] → H b = none := fun {b o} e h1 h2 => by
    cases q : H b with
    | none => rfl
    | some u =>
      rcases hA b (by rw [q]; simp) with z | z
      · rw [z, ha] at e
        cases e
        exact absurd rfl (h1 _ _)
      · rw [z, ce] at e
        cases e
        exact absurd rfl h2
  have ns' : ∀ {b : Addr} {m : Str → Option Value}, s.heap.Ns b m → (hidT s.heap H).Ns b m := fun {b m} ⟨o, es, ep, e, d, r⟩ => ⟨o, es, ep, hidT_get e (free e (fun _ _ z => by rw [d] at z; cases z) fun z => by rw [d] at z; cases z), d, r⟩
  have kin : K.In (hidT s.heap H) := fun b o e => hidT_get (KX b o e) (by
    cases q : H b with
    | none => rfl
    | some u =>
      rcases hA b (by rw [q]; simp) with z | z
      · rw [z, hK (by rw [← z, q]; simp)] at e
        cases e
      · rw [z, co] at e
        cases e)
  have T : TX K mg (hidT s.heap H) := ⟨kin, ns' hns, c.fa, c.fb, c.fo, c.fm⟩
  have nG : mainGlobals ≠ pL K := fun z => by
    obtain ⟨o, es, ep, e, d, _⟩ := hns
    rw [z, ce] at e
    cases e
    cases d
  have TB : LamX.TabB (hidT s.heap H) mg (He.codeOf K lawD) (pL K) := by
    refine ⟨PySem.W.codeHd_of_K kin c.hd, ?_, nG⟩
    obtain ⟨bm, ob, b1, b2, b3, b4, b5, b6⟩ := hbm
    refine ⟨bm, ob, b1, b2, fun z => ?_, fun z => ?_, hidT_get b3 (free b3 (fun _ _ z => by rw [b6] at z; cases z) fun z => by rw [b6] at z; cases z), b4, b5, b6⟩
    · obtain ⟨o, es, ep, e, d, _⟩ := hns
      rw [← z, b3] at e
      cases e
      rw [b6] at d
      cases d
    · rw [z, ce] at b3
      cases b3
      cases b6
  have e0 : Env0 RP w K mg (hidT s.heap H) callerA [] s H := ⟨rfl, ⟨kin, ns' hns, ⟨mb, ns' hb, hbb⟩, let ⟨mc, h1, h2⟩ := hlim; ⟨mc, ns' h1, h2⟩⟩, fun b o e => of_hidT e, Nat.le_of_eq (hidT_size _ _), trivial, fun b z => (List.not_mem_nil z).elim, hok, .of_eq hg⟩
  have tabs : LamX.Tabs [(pL K, qLm)] H := fun q hq => by
    rcases List.mem_cons.mp hq with rfl | z
    · exact LamX.TabS.nil hP
    · cases z
  refine codeAny_mono (k_law (vs := [.ref a]) (us := [.ref a]) (Q := fun v _ => v = .bl true) T TB rfl ⟨rfl, by decide, by decide⟩ e0 (.cons rfl .nil) ⟨a, ns, rfl, hS, tabs, fun _ => rfl⟩) fun r s' h => ?_
  match r, h with
  | .ok (.ret u), ⟨v, H', os, bare, un, hok', rv, q⟩ =>
    subst q
    obtain rfl : u = Value.bool true := rv
    have kept : ∀ b o, b ≠ pL K → s.heap.get? b = some o → s'.heap.get? b = some o := fun b o nb e => by
      cases q : H b with
      | none => exact un.keep b o e q (fun z => by cases z) (fun z => by cases z)
      | some u =>
        rcases hA b (by rw [q]; simp) with z | z
        · subst z
          rcases hF with z | ⟨ob, xs, z⟩
          · rw [q] at z; cases z
          · obtain ⟨e1, _⟩ := hok b _ z
            obtain ⟨e2, _⟩ := hok' b _ (un.frzs b ob _ z)
            rw [e] at e1
            cases e1
            exact e2
        · exact absurd z nb
    obtain ⟨more, hm⟩ := un.tbls (pL K) #[] hP
    have hm : s'.heap.get? (pL K) = some { cls := .none, data := .fields (#[] ++ more) } := hok' (pL K) _ hm
    have CD := PySem.W.codeHd_of_K KX c.hd
    refine ⟨rfl, ⟨fun b o e => ?_, fun b o e => ?_⟩, os, bare⟩
    · by_cases z : b = pL K
      · subst z
        rw [ce] at e
        cases e
        exact .inr (.inl ⟨(CD.tab ce).isCodeTable, rfl, #[], more, rfl, hm⟩)
      · exact .inl (kept b o z e)
    · by_cases z : b = pL K
      · subst z
        exact ⟨_, hm⟩
      · exact ⟨o, kept b o z e⟩
theorem end_call (c : SaysM s.heap K) (KX : K.In s.heap) (hns : s.heap.Ns mainGlobals mg) (hb : s.heap.Ns builtinsNs mb) (hbb : ∀ x : Str, x ≠ "__name__" → mb x = bootBuiltins x) (hlim : s.heap.NoLimit) (hg : s.gens = #[])
    (hbm : ∃ (bm : Addr) (ob : Obj), mg "__builtins__" = some (.ref bm) ∧ bm ≠ builtinsNs ∧ s.heap.get? bm = some ob ∧ ob.cls = .type "module" ∧ ob.dict = some builtinsNs ∧ ob.data = .plain)
    (ha : s.heap.get? a = some { cls := .type "list", data := .seq vs.toArray }) (hi : IntsAre vs ns) (hl : ns.length ≤ sizeLine) :
    codeAny (model RP w) callerA (.call (.ref (He.ga K "law")) ⟨[.ref a], []⟩) (EndP s) s := by
  have rv := vals_ints hi
  have lenV := hi.length
  have ce : s.heap.get? (pL K) = some { cls := .none, data := .fields #[] } := c.empty
  have aP : a ≠ pL K := fun z => by
    have q := ce
    rw [← z, ha] at q
    exact nomatch congrArg Obj.data (Option.some.inj q)
  cases hk : K.lookup a with
  | some o =>
    have e := KX a o hk
    rw [ha] at e
    cases e
    refine end_at (w := w) c KX hns hb hbb hlim hg hbm ha (fun b => if b = pL K then some (.tbl #[]) else none) (if_pos rfl) (.inr ⟨_, vs.toArray, _, hk, rfl, rfl, rfl, by rw [List.size_toArray, lenV]; exact hl, by simpa using rv⟩) (fun b u z => ?_) (fun b z => ?_) (.inl (if_neg aP)) fun z => absurd (if_neg aP) z
    · try dsimp only at z
      by_cases h : b = pL K
      · rw [if_pos h] at z
        cases z
        rw [h]
        exact ce
      · rw [if_neg h] at z
        cases z
    · by_cases h : b = pL K
      · exact .inr h
      · exact absurd (if_neg h) z
  | none =>
    refine end_at (w := w) c KX hns hb hbb hlim hg hbm ha (fun b => if b = a then some (.frz { cls := .type "list", data := .seq vs.toArray } (.lst (ns.map V.int))) else if b = pL K then some (.tbl #[]) else none) ((if_neg (Ne.symm aP)).trans (if_pos rfl)) (.inl (.inr ⟨_, if_pos rfl⟩)) (fun b u z => ?_) (fun b z => ?_) (.inr ⟨_, _, if_pos rfl⟩) fun _ => hk
    · try dsimp only at z
      by_cases h : b = a
      · rw [if_pos h] at z
        cases z
        rw [h]
        exact ⟨ha, by rw [List.length_map]; exact hl, vs, _, rv, ha⟩
      · rw [if_neg h] at z
        by_cases h2 : b = pL K
        · rw [if_pos h2] at z
          cases z
          rw [h2]
          exact ce
        · rw [if_neg h2] at z
          cases z
    · by_cases h : b = a
      · exact .inl h
      · by_cases h2 : b = pL K
        · exact .inr h2
        · exact absurd ((if_neg h).trans (if_neg h2)) z
end
abbrev LW : PySem.W.OpenLaw := PySem.Challenge.rw_markedpair_k09_whole_ends_as_rows_of_row
theorem law_walk {loose : List Str} {XP : (Str → Option Value) → Heap → Prop} {d : DefRec} (hn : LW.most = some 63) (hdf : d.params.defaults = []) (hd : d.name = ("law" : Str)) : PySem.W.WalkO (PySem.W.view R.prog [70]) loose XP hk.says LW.row.toRowW d [] (fun f vs => PySem.call f vs) := by
  refine Att.attach_callB hn hdf fun w s₀ s₁ mg mb fa o pm cd doc a vs ns G Y ho _ _ hmg hobj hints hlen hbits hg => ?_
  obtain ⟨K, KX, c⟩ := Y
  have T0 : mg ("law" : Str) = some (.ref (He.ga K "law")) := He.glo_ok KX G.T.g (List.all_eq_true.mp (List.all_eq_true.mp c.fa fa2 (by simp [Mp.fa])) (.glo "law") (by simp [fa2]))
  rw [hd, T0] at hmg
  cases hmg
  exact end_call c KX G.T.g G.T.b G.T.builtins G.T.nolimit hg G.T.bmain hobj hints (Nat.le_trans hlen (by decide))
end Mp
set_option maxHeartbeats 8000000
open PySem PySem.W PySem.Calls PyProof.Rows
theorem PySem.Challenge.cw_markedpair_k09_whole_ends_as_rows_of_row_holds : PySem.Challenge.rw_markedpair_k09_whole_ends_as_rows_of_row.Holds := by
  w_on; o_law
  refine HandSHeadRun.head_any (r := OpenLaw.row PySem.Challenge.rw_markedpair_k09_whole_ends_as_rows_of_row) (q := view (OpenLaw.row PySem.Challenge.rw_markedpair_k09_whole_ends_as_rows_of_row).prog [70]) (H := Mp.hk) (ob := Mp.ob) (M := 9000) (loose := Mp.names) (d := HandSHeadRun.topDef (OpenLaw.row PySem.Challenge.rw_markedpair_k09_whole_ends_as_rows_of_row).prog 70) (kwd := []) Mp.ob_eq
    (by kernel_rfl) (fun s => by kernel_rfl) Mp.head_run (by kernel_rfl) (by kernel_rfl) (by kernel_rfl) (by rfl) (by first | assumption | decide +kernel) (by decide +kernel) ⟨rfl, rfl, rfl, rfl, rfl, by decide +kernel⟩ ?hw ?hc
  case hw => w_witness2
  case hc => exact Mp.law_walk rfl (by kernel_rfl) (by kernel_rfl)
