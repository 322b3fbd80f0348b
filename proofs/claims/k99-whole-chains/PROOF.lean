import PyProof.Rows.All
import Wide.All
import OpenK.AllK
import Wide.FinOn
import HandS.ForMost
import HandS.Exc
import HandS.TryOnly
import HandS.TryElse
import HandS.ExcOwn
import HandS.WordsExc
import HandS.ExcInit
import HandS.ExcField
import HandS.IsInst
import HandS.SetKeys
import HandS.More
import HandS.Conv
import HandS.TupMul
import HandS.TupAny
import HandS.TupLe
import HandS.Style
import HandS.Wide
import HandS.RaiseMore
import HandS.CallLocal
import HandS.CallSlots
import HandS.Defaults
import HandS.Zip
import HandS.Flow
import HandS.NoneIn
import HandS.HeadEnd
import HandS.HeadHook1
import HandS.HeadHook2
import HandS.Head0
import HandS.Head1
import HandS.Head2
import KE.KDictZip
import KE.KStateDown
import HandS.Walk
import HandS.Evl
import HandS.SortKw
import KE.DatumOrd
import KE.DatumMore
import KE.GoesMore
import KE.GoesZip
import KE.KSliceW
import PySem.Challenge.RW_beatrows_k99_whole_chains_of_many_calls
set_option Elab.async false
set_option linter.all false
set_option maxRecDepth 100000
set_option maxHeartbeats 0
/-! K0 -/
namespace K99
open PySem PySem.Spec PyProof.Rows L2

/-! ### lazy readings: the rule is chosen when the reading comes to it -/
section
variable {X : Cx}
def rE (X : Cx) (e : Expr) : TE := fun σ H Q => ∀ (pins : List (Addr × Obj)) (s : Shared), Inv X pins σ H s → wpAny (model X.prog X.w) X.A (eval e X.env) (EP X pins σ Q) X.xe s
theorem pE {e : Expr} : PE X e (rE X e) := ⟨fun pins s σ H Q I h => h pins s I⟩
theorem rE.go {e : Expr} {t : TE} {σ : L2.St} {H : Hp} {Q : VK} (h : PE X e t) (q : t σ H Q) : rE X e σ H Q := fun pins s I => h.run pins s σ H Q I q
def rT (X : Cx) (e : Expr) : TT := fun σ H Q => ∀ (pins : List (Addr × Obj)) (s : Shared), Inv X pins σ H s → wpAny (model X.prog X.w) X.A (isTrue e X.env (eval e X.env)) (TP X pins σ Q) X.xe s
theorem pT {e : Expr} : PT X e (rT X e) := ⟨fun pins s σ H Q I h => h pins s I⟩
theorem rT.go {e : Expr} {t : TT} {σ : L2.St} {H : Hp} {Q : Bool → Hp → Prop} (h : PT X e t) (q : t σ H Q) : rT X e σ H Q := fun pins s I => h.run pins s σ H Q I q
def rS (X : Cx) (st : Stmt) : TS := fun D σ H => ∀ (pins : List (Addr × Obj)) (s : Shared), Inv X pins σ H s → wpAny (model X.prog X.w) X.A (exec st X.env) (SP X pins D) X.xe s
theorem pS {st : Stmt} : PS X st (rS X st) := ⟨fun pins s σ H D I h => h pins s I⟩
theorem rS.go {st : Stmt} {t : TS} {D : Ends} {σ : L2.St} {H : Hp} (h : PS X st t) (q : t D σ H) : rS X st D σ H := fun pins s I => h.run pins s σ H D I q
def rB (X : Cx) (st : List Stmt) : TS := fun D σ H => ∀ (pins : List (Addr × Obj)) (s : Shared), Inv X pins σ H s → wpAny (model X.prog X.w) X.A (execs st X.env) (SP X pins D) X.xe s
theorem pB {st : List Stmt} : PSs X st (rB X st) := ⟨fun pins s σ H D I h => h pins s I⟩
theorem rB.go {st : List Stmt} {t : TS} {D : Ends} {σ : L2.St} {H : Hp} (h : PSs X st t) (q : t D σ H) : rB X st D σ H := fun pins s I => h.run pins s σ H D I q
/-- one statement, then the rest -/
theorem rB.cons {st : Stmt} {t : TS} {rest : List Stmt} {D : Ends} {σ : L2.St} {H : Hp} (h : PS X st t) (q : t { D with nx := rB X rest D } σ H) : rB X (st :: rest) D σ H := rB.go (pss_cons h pB) q
theorem rB.one {st : Stmt} {t : TS} {D : Ends} {σ : L2.St} {H : Hp} (h : PS X st t) (q : t D σ H) : rB X [st] D σ H := rB.go (pss_one h) q
theorem rB.nil {D : Ends} {σ : L2.St} {H : Hp} (q : D.nx σ H) : rB X [] D σ H := rB.go pss_nil q
end
end K99
/-! KT -/
namespace K99
open PySem PySem.Spec PyProof.Rows L2
/-! ### the text by places -/
def top (i : Nat) : Stmt := PySem.Challenge.pw_beatrows_k99_whole_chains_of_many_calls.main.body.getD i (.Pass ⟨0, 0, 0, 0⟩)
abbrev s_is_whole : Stmt := top 26
abbrev s_is_within : Stmt := top 27
abbrev s_is_name : Stmt := top 28
abbrev s_is_pointed : Stmt := top 29
abbrev s_is_value : Stmt := top 30
abbrev s_ops_told : Stmt := top 34
abbrev s_Term_parts : Stmt := inClass (top 37) 0
abbrev s_Term_names : Stmt := inClass (top 37) 1
abbrev s_Term_levels : Stmt := inClass (top 37) 2
abbrev s_need_term : Stmt := top 38
abbrev s_Name_init : Stmt := inClass (top 39) 0
abbrev s_Name_names : Stmt := inClass (top 39) 1
abbrev s_Name_renamed : Stmt := inClass (top 39) 3
abbrev s_Name_told : Stmt := inClass (top 39) 4
abbrev s_Two_init : Stmt := inClass (top 41) 0
abbrev s_Two_parts : Stmt := inClass (top 41) 1
abbrev s_Two_renamed : Stmt := inClass (top 41) 3
abbrev s_Two_told : Stmt := inClass (top 41) 4
abbrev s_simple_of : Stmt := top 44
abbrev s_made_of_told : Stmt := top 45
abbrev s_term_of : Stmt := top 46
abbrev s_new_name : Stmt := top 48
abbrev s_each_once : Stmt := top 49
abbrev s_Equation_init : Stmt := inClass (top 50) 0
abbrev s_Equation_told : Stmt := inClass (top 50) 1
abbrev s_Equation_tells : Stmt := inClass (top 50) 2
abbrev s_Equation_names : Stmt := inClass (top 50) 3
abbrev s_Equation_term : Stmt := inClass (top 50) 4
abbrev s_Equation_is_call : Stmt := inClass (top 50) 5
abbrev s_Equation_put_otherwise : Stmt := inClass (top 50) 6
abbrev s_Equation_renamed : Stmt := inClass (top 50) 7
abbrev s_Plain_init : Stmt := inClass (top 51) 0
abbrev s_Plain_names : Stmt := inClass (top 51) 1
abbrev s_Plain_term : Stmt := inClass (top 51) 2
abbrev s_Plain_put_otherwise : Stmt := inClass (top 51) 3
abbrev s_Call_tells : Stmt := inClass (top 57) 0
abbrev s_Call_names : Stmt := inClass (top 57) 1
abbrev s_Call_is_call : Stmt := inClass (top 57) 2
abbrev s_are_pointed : Stmt := top 58
abbrev s_is_valued : Stmt := top 59
abbrev s_plain_of : Stmt := top 60
abbrev s_valued_of : Stmt := top 61
abbrev s_call_of : Stmt := top 62
abbrev s_made_of : Stmt := top 63
abbrev s_equation_of : Stmt := top 64
abbrev s_need_names : Stmt := top 67
abbrev s_equations_of : Stmt := top 68
abbrev s_Node_init : Stmt := inClass (top 69) 0
abbrev s_Node_take_tellers : Stmt := inClass (top 69) 1
abbrev s_Node_need_told : Stmt := inClass (top 69) 2
abbrev s_Node_inputs : Stmt := inClass (top 69) 3
abbrev s_Node_outs : Stmt := inClass (top 69) 4
abbrev s_Node_rows : Stmt := inClass (top 69) 5
abbrev s_Node_names : Stmt := inClass (top 69) 6
abbrev s_node_of : Stmt := top 70
abbrev s_how_many : Stmt := top 73
abbrev s_need_few : Stmt := top 74
abbrev s_once_each : Stmt := top 75
abbrev s_call_rows : Stmt := top 76
abbrev s_rows_out : Stmt := top 77
abbrev s_written_out : Stmt := top 78
abbrev s_need_calls : Stmt := top 80
abbrev s_need_nodes : Stmt := top 81
abbrev s_Program_init : Stmt := inClass (top 82) 0
abbrev s_Program_named : Stmt := inClass (top 82) 2
abbrev s_Program_calls_in : Stmt := inClass (top 82) 3
abbrev s_Program_below : Stmt := inClass (top 82) 4
abbrev s_steps_from : Stmt := top 84
abbrev s_ranked : Stmt := top 87
abbrev s_Fit_init : Stmt := inClass (top 89) 0
abbrev s_Fit_named_outside : Stmt := inClass (top 89) 1
abbrev s_Fit_gifts : Stmt := inClass (top 89) 2
abbrev s_Fit_gifts_reckoned : Stmt := inClass (top 89) 3
abbrev s_Fit_steps : Stmt := inClass (top 89) 4
abbrev s_Fit_checks : Stmt := inClass (top 89) 5
abbrev s_Fit_fit_clocks : Stmt := inClass (top 89) 6
abbrev s_Fit_readings : Stmt := inClass (top 89) 7
abbrev s_Fit_order : Stmt := inClass (top 89) 8
abbrev s_Fit_led_from : Stmt := inClass (top 89) 9
abbrev s_Fit_summary : Stmt := inClass (top 89) 10
abbrev s_Fit_summary_reckoned : Stmt := inClass (top 89) 11
abbrev s_clock_by : Stmt := top 90
abbrev s_begun : Stmt := top 91
abbrev s_fitted : Stmt := top 92
abbrev s_summary_of : Stmt := top 94
abbrev s_cells_in : Stmt := top 95
abbrev s__law_cell_at : Stmt := top 97
abbrev s__law_box : Stmt := top 98
abbrev s__law_take : Stmt := top 99
abbrev s__law_pool : Stmt := top 100
abbrev s__law_sum_of : Stmt := top 101
abbrev s__law_node : Stmt := top 102
abbrev s__law_chain : Stmt := top 103
abbrev s__law_right : Stmt := top 104
abbrev s__law_strange : Stmt := top 105
abbrev s_law : Stmt := top 106
abbrev s_Unknown_init : Stmt := inClass (top 10) 0
abbrev s_TooMany_init : Stmt := inClass (top 13) 0
/-! ### facts beside the library's -/
inductive Fx where
  | tup (x : Str) (vs : List He.Dv)
  | inst (C : Str)
  | kit (C D : Str)
  | same (C m D : Str)
  | clsm (C m : Str)
  | clsb (C m : Str) (id : String)
  | oex (C : Str)
  | ne (C D : Str)
def oexB (K : PySem.W.Frag) (C : Addr) : Bool := (match K.lookup C with
  | some ⟨.type "type", _, .cls cd, sl⟩ => (match cd.mro, sl.toList with
    | .ref C' :: bm, [_, _, _, _, some (.builtin n), _] => decide (C' = C) && (decide (n = "ValueError.__new__") && (!cd.hasDel && (cd.hasDict && PySem.HandSPX.refsVE bm)))
    | _, _ => false)
  | _ => false) && (decide (PySem.W.findIn K (.ref C) "__setattr__" = some (some (.builtin "object.__setattr__"))) && (decide (PySem.W.subIn K (.ref C) (.type "BaseException") = some true) &&
    (decide (PySem.W.typeIn K (.ref C) = some (.type "type")) && (PySem.W.keepIn K (.ref C) && (decide (PySem.W.findIn K (.ref C) "__init__" = some (some (.ref (He.ma K C "__init__")))) &&
    (decide (PySem.W.typeIn K (.ref (He.ma K C "__init__")) = some (.type "function")) && (decide (PySem.W.exmOne K (.ref C) (.ref C) = some true) && xfB K C)))))))
theorem oexB_ok {K : PySem.W.Frag} {C : Addr} (h : oexB K C = true) : OexC K C ∧ PySem.W.findIn K (.ref C) "__init__" = some (some (.ref (He.ma K C "__init__"))) ∧ PySem.W.typeIn K (.ref (He.ma K C "__init__")) = some (.type "function") ∧
    PySem.W.exmOne K (.ref C) (.ref C) = some true ∧ XfC K C := by
  unfold oexB at h
  obtain ⟨h0, h⟩ := He.ba h
  obtain ⟨h1, h⟩ := He.ba h
  obtain ⟨h2, h⟩ := He.ba h
  obtain ⟨h3, h⟩ := He.ba h
  obtain ⟨h4, h⟩ := He.ba h
  obtain ⟨h5, h⟩ := He.ba h
  obtain ⟨h6, h⟩ := He.ba h
  obtain ⟨h7, h8⟩ := He.ba h
  refine ⟨⟨?_, of_decide_eq_true h1, of_decide_eq_true h2, of_decide_eq_true h3, h4⟩, of_decide_eq_true h5, of_decide_eq_true h6, of_decide_eq_true h7, xfB_ok h8⟩
  split at h0
  · rename_i dd cd sl ho
    split at h0
    · rename_i C' bm k0 k1 k2 k3 n k5 hm hs
      obtain ⟨g1, h0⟩ := He.ba h0
      obtain ⟨g2, h0⟩ := He.ba h0
      obtain ⟨g3, h0⟩ := He.ba h0
      obtain ⟨g4, g5⟩ := He.ba h0
      have e1 := of_decide_eq_true g1
      have e2 := of_decide_eq_true g2
      subst e1 e2
      obtain ⟨nm, bs, mro, ns, qn, hd, sn, sub, ab, col, del⟩ := cd
      dsimp only at hm g3 g4
      subst hm
      subst g4
      have e3 : del = false := by
        cases del with
        | false => rfl
        | true => cases g3
      subst e3
      obtain ⟨l⟩ := sl
      dsimp only at hs
      subst hs
      exact ⟨_, _, _, _, _, _, _, _, _, _, _, _, _, _, _, ho, g5⟩
    · cases h0
  · cases h0
def Fx.ok (K : PySem.W.Frag) : Fx → Bool
  | .tup x vs => He.tupB K x vs && decide (PySem.W.nsIn K mainGlobals x = some (some (.ref (He.ga K x))))
  | .inst x => decide (PySem.W.findIn K (.ref (He.ga K x)) "__class__" = some (some (.builtin "object.__class__"))) && (decide (PySem.W.specialIn K (.builtin "object.__class__") "__get__" = some (some (.builtin "getset_descriptor.__get__"))) &&
      (decide (PySem.W.takesIn K (.builtin "object.__class__") = some true) && (decide (PySem.W.mroIn K (He.ga K x) (.type "object") = some true) && decide (PySem.W.findIn K (.ref (He.ga K x)) "__eq__" = some (some (.builtin "object.__eq__"))))))
  | .kit x y => decide (PySem.W.kitOne K (.ref (He.ga K x)) (.ref (He.ga K y)) = some true)
  | .same x m y => decide (He.ma K (He.ga K x) m = He.ma K (He.ga K y) m)
  | .clsm x m => decide (PySem.W.specialIn K (.ref (He.ga K x)) "__getattribute__" = some (some (.builtin "type.__getattribute__"))) && (PySem.W.readsIn K (He.ga K x) (.type "type") &&
      (match PySem.W.findCls K (.ref (He.ga K x)) (.type "type") m with
        | some (.val (.ref a)) => decide (a = He.ma K (He.ga K x) m)
        | _ => false))
  | .clsb x m id => decide (PySem.W.specialIn K (.ref (He.ga K x)) "__getattribute__" = some (some (.builtin "type.__getattribute__"))) && (PySem.W.readsIn K (He.ga K x) (.type "type") &&
      (match PySem.W.findCls K (.ref (He.ga K x)) (.type "type") m with
        | some (.val (.builtin a)) => decide (a = id)
        | _ => false))
  | .oex x => oexB K (He.ga K x)
  | .ne x y => decide (He.ga K x ≠ He.ga K y)
theorem meth_same {K : PySem.W.Frag} {C f g : Addr} {m : Str} (e : f = g) (h : Meth K C m f) : Meth K C m g := by
  subst e
  exact h
theorem mk_same {K : PySem.W.Frag} {C f g : Addr} (e : f = g) (h : Mk K C f) : Mk K C g := by
  subst e
  exact h
def fa0 : List He.Fa := [.free "isinstance", .free "int", .free "bool", .free "str", .free "len", .free "list", .free "tuple", .free "dict", .free "all", .free "max", .free "min", .free "range", .free "zip", .free "sum", .free "repr", .glo "Name", .glo "Two", .glo "Plain", .glo "Before", .glo "Call", .glo "Node", .glo "Program", .glo "Fit", .glo "Term", .glo "Equation", .glo "BeatError", .glo "NoTerm", .glo "Unknown", .glo "TooMany", .glo "is_whole"]
def fa1 : List He.Fa := [.glo "is_within", .glo "is_name", .glo "is_pointed", .glo "is_value", .glo "ops_told", .glo "need_term", .glo "simple_of", .glo "made_of_told", .glo "term_of", .glo "new_name", .glo "each_once", .glo "are_pointed", .glo "is_valued", .glo "plain_of", .glo "valued_of", .glo "call_of", .glo "made_of", .glo "equation_of", .glo "need_names", .glo "equations_of", .glo "node_of", .glo "how_many", .glo "need_few", .glo "once_each", .glo "call_rows", .glo "rows_out", .glo "written_out", .glo "need_calls", .glo "need_nodes", .glo "steps_from"]
def fa2 : List He.Fa := [.glo "ranked", .glo "clock_by", .glo "begun", .glo "fitted", .glo "summary_of", .glo "cells_in", .glo "_law_cell_at", .glo "_law_box", .glo "_law_take", .glo "_law_pool", .glo "_law_sum_of", .glo "_law_node", .glo "_law_chain", .glo "_law_right", .glo "_law_strange", .glo "law", .cls "Name", .cls "Two", .cls "Plain", .cls "Before", .cls "Call", .cls "Node", .cls "Program", .cls "Fit", .mkr "Name", .mkr "Two", .mkr "Plain", .mkr "Before", .mkr "Call", .mkr "Node"]
def fa3 : List He.Fa := [.mkr "Program", .mkr "Fit", .meth "Name" "parts", .meth "Two" "parts", .meth "Name" "names", .meth "Two" "names", .meth "Name" "levels", .meth "Two" "levels", .meth "Name" "renamed", .meth "Two" "renamed", .meth "Name" "told", .meth "Two" "told", .meth "Plain" "told", .meth "Plain" "tells", .meth "Plain" "names", .meth "Plain" "term", .meth "Plain" "is_call", .meth "Plain" "put_otherwise", .meth "Plain" "renamed", .meth "Before" "told", .meth "Before" "tells", .meth "Before" "names", .meth "Before" "term", .meth "Before" "is_call", .meth "Before" "put_otherwise", .meth "Before" "renamed", .meth "Call" "told", .meth "Call" "tells", .meth "Call" "names", .meth "Call" "term"]
def fa4 : List He.Fa := [.meth "Call" "is_call", .meth "Node" "take_tellers", .meth "Node" "need_told", .meth "Node" "inputs", .meth "Node" "outs", .meth "Node" "rows", .meth "Node" "names", .meth "Program" "named", .meth "Program" "calls_in", .meth "Program" "below", .meth "Fit" "named_outside", .meth "Fit" "gifts", .meth "Fit" "gifts_reckoned", .meth "Fit" "steps", .meth "Fit" "checks", .meth "Fit" "fit_clocks", .meth "Fit" "readings", .meth "Fit" "order", .meth "Fit" "led_from", .meth "Fit" "summary", .meth "Fit" "summary_reckoned", .noat "Name" "name", .noat "Two" "op", .noat "Two" "one", .noat "Two" "second", .noat "Plain" "told_row", .noat "Before" "told_row", .noat "Call" "told_row", .noat "Plain" "kept_term", .noat "Node" "name"]
def fa5 : List He.Fa := [.noat "Node" "kept_inputs", .noat "Node" "kept_outs", .noat "Node" "kept_rows", .noat "Node" "tellers", .noat "Program" "by_name", .noat "Fit" "ground", .noat "Fit" "known", .noat "Fit" "clocks", .noat "Fit" "reads", .noat "Fit" "all_gifts", .noat "Fit" "own_summary", .noat "Unknown" "name", .noat "TooMany" "many", .int "LONGEST" 8, .int "MOST_SIGNS" 80, .int "MOST" 1000000000, .int "MOST_LEVELS" 5, .int "TOLD_THINGS" 4, .int "MOST_NAMES" 200, .str "LETTERS" "abcdefghijklmnopqrstuvwxyz"]
def fa : List He.Fa := fa0 ++ (fa1 ++ (fa2 ++ (fa3 ++ (fa4 ++ (fa5)))))
def fx0 : List Fx := [.tup "OWN" [.str "node", .str "in", .str "out", .str "before", .str "when", .str "hold", .str "like", .str "same", .str "call", .str "true", .str "false", .str "mod", .str "beat", .str "desk"], .tup "OPS" [.str "+", .str "-", .str "*", .str "/", .str "mod", .str "<", .str "=", .str "&", .str "|"], .inst "Name", .inst "Two", .inst "Plain", .inst "Before", .inst "Call", .inst "Node", .inst "Program", .inst "Fit", .kit "Name" "Term", .kit "Two" "Term", .kit "Node" "Node", .same "Name" "parts" "Term", .same "Two" "names" "Term", .same "Name" "levels" "Term", .same "Two" "levels" "Term", .same "Plain" "told" "Equation", .same "Plain" "tells" "Equation", .same "Plain" "is_call" "Equation", .same "Plain" "renamed" "Equation", .same "Before" "told" "Equation", .same "Before" "tells" "Equation", .same "Before" "names" "Equation", .same "Before" "term" "Equation", .same "Before" "is_call" "Equation", .same "Before" "put_otherwise" "Equation", .same "Before" "renamed" "Equation", .same "Call" "told" "Equation", .same "Call" "term" "Equation"]
def fx1 : List Fx := [.same "Before" "__init__" "Equation", .same "Call" "__init__" "Equation", .clsm "Equation" "__init__", .clsb "BeatError" "__init__" "ValueError.__init__", .oex "Unknown", .oex "TooMany", .ne "Node" "Name", .ne "Node" "Two", .ne "Node" "Before", .ne "Node" "Call", .ne "Node" "Plain"]
def fx : List Fx := fx0 ++ (fx1)
def d_is_whole : He.DefD := ⟨("is_whole", none), "is_whole", "is_whole", defArgs s_is_whole, defBody s_is_whole, defScope s_is_whole, [], []⟩
def d_is_within : He.DefD := ⟨("is_within", none), "is_within", "is_within", defArgs s_is_within, defBody s_is_within, defScope s_is_within, [], []⟩
def d_is_name : He.DefD := ⟨("is_name", none), "is_name", "is_name", defArgs s_is_name, defBody s_is_name, defScope s_is_name, [], []⟩
def d_is_pointed : He.DefD := ⟨("is_pointed", none), "is_pointed", "is_pointed", defArgs s_is_pointed, defBody s_is_pointed, defScope s_is_pointed, [], []⟩
def d_is_value : He.DefD := ⟨("is_value", none), "is_value", "is_value", defArgs s_is_value, defBody s_is_value, defScope s_is_value, [], []⟩
def d_ops_told : He.DefD := ⟨("ops_told", none), "ops_told", "ops_told", defArgs s_ops_told, defBody s_ops_told, defScope s_ops_told, [], []⟩
def d_Term_parts : He.DefD := ⟨("Term", some "parts"), "parts", "Term.parts", defArgs s_Term_parts, defBody s_Term_parts, defScope s_Term_parts, [], []⟩
def d_Term_names : He.DefD := ⟨("Term", some "names"), "names", "Term.names", defArgs s_Term_names, defBody s_Term_names, defScope s_Term_names, [], []⟩
def d_Term_levels : He.DefD := ⟨("Term", some "levels"), "levels", "Term.levels", defArgs s_Term_levels, defBody s_Term_levels, defScope s_Term_levels, [], []⟩
def d_need_term : He.DefD := ⟨("need_term", none), "need_term", "need_term", defArgs s_need_term, defBody s_need_term, defScope s_need_term, [], []⟩
def d_Name_init : He.DefD := ⟨("Name", some "__init__"), "__init__", "Name.__init__", defArgs s_Name_init, defBody s_Name_init, defScope s_Name_init, [], []⟩
def d_Name_names : He.DefD := ⟨("Name", some "names"), "names", "Name.names", defArgs s_Name_names, defBody s_Name_names, defScope s_Name_names, [], []⟩
def d_Name_renamed : He.DefD := ⟨("Name", some "renamed"), "renamed", "Name.renamed", defArgs s_Name_renamed, defBody s_Name_renamed, defScope s_Name_renamed, [], []⟩
def d_Name_told : He.DefD := ⟨("Name", some "told"), "told", "Name.told", defArgs s_Name_told, defBody s_Name_told, defScope s_Name_told, [], []⟩
def d_Two_init : He.DefD := ⟨("Two", some "__init__"), "__init__", "Two.__init__", defArgs s_Two_init, defBody s_Two_init, defScope s_Two_init, [], []⟩
def d_Two_parts : He.DefD := ⟨("Two", some "parts"), "parts", "Two.parts", defArgs s_Two_parts, defBody s_Two_parts, defScope s_Two_parts, [], []⟩
def d_Two_renamed : He.DefD := ⟨("Two", some "renamed"), "renamed", "Two.renamed", defArgs s_Two_renamed, defBody s_Two_renamed, defScope s_Two_renamed, [], []⟩
def d_Two_told : He.DefD := ⟨("Two", some "told"), "told", "Two.told", defArgs s_Two_told, defBody s_Two_told, defScope s_Two_told, [], []⟩
def d_simple_of : He.DefD := ⟨("simple_of", none), "simple_of", "simple_of", defArgs s_simple_of, defBody s_simple_of, defScope s_simple_of, [], []⟩
def d_made_of_told : He.DefD := ⟨("made_of_told", none), "made_of_told", "made_of_told", defArgs s_made_of_told, defBody s_made_of_told, defScope s_made_of_told, [], []⟩
def d_term_of : He.DefD := ⟨("term_of", none), "term_of", "term_of", defArgs s_term_of, defBody s_term_of, defScope s_term_of, [], []⟩
def d_new_name : He.DefD := ⟨("new_name", none), "new_name", "new_name", defArgs s_new_name, defBody s_new_name, defScope s_new_name, [], []⟩
def d_each_once : He.DefD := ⟨("each_once", none), "each_once", "each_once", defArgs s_each_once, defBody s_each_once, defScope s_each_once, [], []⟩
def d_Equation_init : He.DefD := ⟨("Equation", some "__init__"), "__init__", "Equation.__init__", defArgs s_Equation_init, defBody s_Equation_init, defScope s_Equation_init, [], []⟩
def d_Equation_told : He.DefD := ⟨("Equation", some "told"), "told", "Equation.told", defArgs s_Equation_told, defBody s_Equation_told, defScope s_Equation_told, [], []⟩
def d_Equation_tells : He.DefD := ⟨("Equation", some "tells"), "tells", "Equation.tells", defArgs s_Equation_tells, defBody s_Equation_tells, defScope s_Equation_tells, [], []⟩
def d_Equation_names : He.DefD := ⟨("Equation", some "names"), "names", "Equation.names", defArgs s_Equation_names, defBody s_Equation_names, defScope s_Equation_names, [], []⟩
def d_Equation_term : He.DefD := ⟨("Equation", some "term"), "term", "Equation.term", defArgs s_Equation_term, defBody s_Equation_term, defScope s_Equation_term, [], []⟩
def d_Equation_is_call : He.DefD := ⟨("Equation", some "is_call"), "is_call", "Equation.is_call", defArgs s_Equation_is_call, defBody s_Equation_is_call, defScope s_Equation_is_call, [], []⟩
def d_Equation_put_otherwise : He.DefD := ⟨("Equation", some "put_otherwise"), "put_otherwise", "Equation.put_otherwise", defArgs s_Equation_put_otherwise, defBody s_Equation_put_otherwise, defScope s_Equation_put_otherwise, [], []⟩
def d_Equation_renamed : He.DefD := ⟨("Equation", some "renamed"), "renamed", "Equation.renamed", defArgs s_Equation_renamed, defBody s_Equation_renamed, defScope s_Equation_renamed, [], []⟩
def d_Plain_init : He.DefD := ⟨("Plain", some "__init__"), "__init__", "Plain.__init__", defArgs s_Plain_init, defBody s_Plain_init, defScope s_Plain_init, [], []⟩
def d_Plain_names : He.DefD := ⟨("Plain", some "names"), "names", "Plain.names", defArgs s_Plain_names, defBody s_Plain_names, defScope s_Plain_names, [], []⟩
def d_Plain_term : He.DefD := ⟨("Plain", some "term"), "term", "Plain.term", defArgs s_Plain_term, defBody s_Plain_term, defScope s_Plain_term, [], []⟩
def d_Plain_put_otherwise : He.DefD := ⟨("Plain", some "put_otherwise"), "put_otherwise", "Plain.put_otherwise", defArgs s_Plain_put_otherwise, defBody s_Plain_put_otherwise, defScope s_Plain_put_otherwise, [], []⟩
def d_Call_tells : He.DefD := ⟨("Call", some "tells"), "tells", "Call.tells", defArgs s_Call_tells, defBody s_Call_tells, defScope s_Call_tells, [], []⟩
def d_Call_names : He.DefD := ⟨("Call", some "names"), "names", "Call.names", defArgs s_Call_names, defBody s_Call_names, defScope s_Call_names, [], []⟩
def d_Call_is_call : He.DefD := ⟨("Call", some "is_call"), "is_call", "Call.is_call", defArgs s_Call_is_call, defBody s_Call_is_call, defScope s_Call_is_call, [], []⟩
def d_are_pointed : He.DefD := ⟨("are_pointed", none), "are_pointed", "are_pointed", defArgs s_are_pointed, defBody s_are_pointed, defScope s_are_pointed, [], []⟩
def d_is_valued : He.DefD := ⟨("is_valued", none), "is_valued", "is_valued", defArgs s_is_valued, defBody s_is_valued, defScope s_is_valued, [], []⟩
def d_plain_of : He.DefD := ⟨("plain_of", none), "plain_of", "plain_of", defArgs s_plain_of, defBody s_plain_of, defScope s_plain_of, [], []⟩
def d_valued_of : He.DefD := ⟨("valued_of", none), "valued_of", "valued_of", defArgs s_valued_of, defBody s_valued_of, defScope s_valued_of, [], []⟩
def d_call_of : He.DefD := ⟨("call_of", none), "call_of", "call_of", defArgs s_call_of, defBody s_call_of, defScope s_call_of, [], []⟩
def d_made_of : He.DefD := ⟨("made_of", none), "made_of", "made_of", defArgs s_made_of, defBody s_made_of, defScope s_made_of, [], []⟩
def d_equation_of : He.DefD := ⟨("equation_of", none), "equation_of", "equation_of", defArgs s_equation_of, defBody s_equation_of, defScope s_equation_of, [], []⟩
def d_need_names : He.DefD := ⟨("need_names", none), "need_names", "need_names", defArgs s_need_names, defBody s_need_names, defScope s_need_names, [], []⟩
def d_equations_of : He.DefD := ⟨("equations_of", none), "equations_of", "equations_of", defArgs s_equations_of, defBody s_equations_of, defScope s_equations_of, [], []⟩
def d_Node_init : He.DefD := ⟨("Node", some "__init__"), "__init__", "Node.__init__", defArgs s_Node_init, defBody s_Node_init, defScope s_Node_init, [], []⟩
def d_Node_take_tellers : He.DefD := ⟨("Node", some "take_tellers"), "take_tellers", "Node.take_tellers", defArgs s_Node_take_tellers, defBody s_Node_take_tellers, defScope s_Node_take_tellers, [], []⟩
def d_Node_need_told : He.DefD := ⟨("Node", some "need_told"), "need_told", "Node.need_told", defArgs s_Node_need_told, defBody s_Node_need_told, defScope s_Node_need_told, [], []⟩
def d_Node_inputs : He.DefD := ⟨("Node", some "inputs"), "inputs", "Node.inputs", defArgs s_Node_inputs, defBody s_Node_inputs, defScope s_Node_inputs, [], []⟩
def d_Node_outs : He.DefD := ⟨("Node", some "outs"), "outs", "Node.outs", defArgs s_Node_outs, defBody s_Node_outs, defScope s_Node_outs, [], []⟩
def d_Node_rows : He.DefD := ⟨("Node", some "rows"), "rows", "Node.rows", defArgs s_Node_rows, defBody s_Node_rows, defScope s_Node_rows, [], []⟩
def d_Node_names : He.DefD := ⟨("Node", some "names"), "names", "Node.names", defArgs s_Node_names, defBody s_Node_names, defScope s_Node_names, [], []⟩
def d_node_of : He.DefD := ⟨("node_of", none), "node_of", "node_of", defArgs s_node_of, defBody s_node_of, defScope s_node_of, [], []⟩
def d_how_many : He.DefD := ⟨("how_many", none), "how_many", "how_many", defArgs s_how_many, defBody s_how_many, defScope s_how_many, [], []⟩
def d_need_few : He.DefD := ⟨("need_few", none), "need_few", "need_few", defArgs s_need_few, defBody s_need_few, defScope s_need_few, [], []⟩
def d_once_each : He.DefD := ⟨("once_each", none), "once_each", "once_each", defArgs s_once_each, defBody s_once_each, defScope s_once_each, [], []⟩
def d_call_rows : He.DefD := ⟨("call_rows", none), "call_rows", "call_rows", defArgs s_call_rows, defBody s_call_rows, defScope s_call_rows, [], []⟩
def d_rows_out : He.DefD := ⟨("rows_out", none), "rows_out", "rows_out", defArgs s_rows_out, defBody s_rows_out, defScope s_rows_out, [], []⟩
def d_written_out : He.DefD := ⟨("written_out", none), "written_out", "written_out", defArgs s_written_out, defBody s_written_out, defScope s_written_out, [], []⟩
def d_need_calls : He.DefD := ⟨("need_calls", none), "need_calls", "need_calls", defArgs s_need_calls, defBody s_need_calls, defScope s_need_calls, [], []⟩
def d_need_nodes : He.DefD := ⟨("need_nodes", none), "need_nodes", "need_nodes", defArgs s_need_nodes, defBody s_need_nodes, defScope s_need_nodes, [], []⟩
def d_Program_init : He.DefD := ⟨("Program", some "__init__"), "__init__", "Program.__init__", defArgs s_Program_init, defBody s_Program_init, defScope s_Program_init, [], []⟩
def d_Program_named : He.DefD := ⟨("Program", some "named"), "named", "Program.named", defArgs s_Program_named, defBody s_Program_named, defScope s_Program_named, [], []⟩
def d_Program_calls_in : He.DefD := ⟨("Program", some "calls_in"), "calls_in", "Program.calls_in", defArgs s_Program_calls_in, defBody s_Program_calls_in, defScope s_Program_calls_in, [], []⟩
def d_Program_below : He.DefD := ⟨("Program", some "below"), "below", "Program.below", defArgs s_Program_below, defBody s_Program_below, defScope s_Program_below, [], []⟩
def d_steps_from : He.DefD := ⟨("steps_from", none), "steps_from", "steps_from", defArgs s_steps_from, defBody s_steps_from, defScope s_steps_from, [], []⟩
def d_ranked : He.DefD := ⟨("ranked", none), "ranked", "ranked", defArgs s_ranked, defBody s_ranked, defScope s_ranked, [], []⟩
def d_Fit_init : He.DefD := ⟨("Fit", some "__init__"), "__init__", "Fit.__init__", defArgs s_Fit_init, defBody s_Fit_init, defScope s_Fit_init, [], []⟩
def d_Fit_named_outside : He.DefD := ⟨("Fit", some "named_outside"), "named_outside", "Fit.named_outside", defArgs s_Fit_named_outside, defBody s_Fit_named_outside, defScope s_Fit_named_outside, [], []⟩
def d_Fit_gifts : He.DefD := ⟨("Fit", some "gifts"), "gifts", "Fit.gifts", defArgs s_Fit_gifts, defBody s_Fit_gifts, defScope s_Fit_gifts, [], []⟩
def d_Fit_gifts_reckoned : He.DefD := ⟨("Fit", some "gifts_reckoned"), "gifts_reckoned", "Fit.gifts_reckoned", defArgs s_Fit_gifts_reckoned, defBody s_Fit_gifts_reckoned, defScope s_Fit_gifts_reckoned, [], []⟩
def d_Fit_steps : He.DefD := ⟨("Fit", some "steps"), "steps", "Fit.steps", defArgs s_Fit_steps, defBody s_Fit_steps, defScope s_Fit_steps, [], []⟩
def d_Fit_checks : He.DefD := ⟨("Fit", some "checks"), "checks", "Fit.checks", defArgs s_Fit_checks, defBody s_Fit_checks, defScope s_Fit_checks, [], []⟩
def d_Fit_fit_clocks : He.DefD := ⟨("Fit", some "fit_clocks"), "fit_clocks", "Fit.fit_clocks", defArgs s_Fit_fit_clocks, defBody s_Fit_fit_clocks, defScope s_Fit_fit_clocks, [], []⟩
def d_Fit_readings : He.DefD := ⟨("Fit", some "readings"), "readings", "Fit.readings", defArgs s_Fit_readings, defBody s_Fit_readings, defScope s_Fit_readings, [], []⟩
def d_Fit_order : He.DefD := ⟨("Fit", some "order"), "order", "Fit.order", defArgs s_Fit_order, defBody s_Fit_order, defScope s_Fit_order, [], []⟩
def d_Fit_led_from : He.DefD := ⟨("Fit", some "led_from"), "led_from", "Fit.led_from", defArgs s_Fit_led_from, defBody s_Fit_led_from, defScope s_Fit_led_from, [], []⟩
def d_Fit_summary : He.DefD := ⟨("Fit", some "summary"), "summary", "Fit.summary", defArgs s_Fit_summary, defBody s_Fit_summary, defScope s_Fit_summary, [], []⟩
def d_Fit_summary_reckoned : He.DefD := ⟨("Fit", some "summary_reckoned"), "summary_reckoned", "Fit.summary_reckoned", defArgs s_Fit_summary_reckoned, defBody s_Fit_summary_reckoned, defScope s_Fit_summary_reckoned, [], []⟩
def d_clock_by : He.DefD := ⟨("clock_by", none), "clock_by", "clock_by", defArgs s_clock_by, defBody s_clock_by, defScope s_clock_by, [], []⟩
def d_begun : He.DefD := ⟨("begun", none), "begun", "begun", defArgs s_begun, defBody s_begun, defScope s_begun, [], []⟩
def d_fitted : He.DefD := ⟨("fitted", none), "fitted", "fitted", defArgs s_fitted, defBody s_fitted, defScope s_fitted, [], []⟩
def d_summary_of : He.DefD := ⟨("summary_of", none), "summary_of", "summary_of", defArgs s_summary_of, defBody s_summary_of, defScope s_summary_of, [], []⟩
def d_cells_in : He.DefD := ⟨("cells_in", none), "cells_in", "cells_in", defArgs s_cells_in, defBody s_cells_in, defScope s_cells_in, [], []⟩
def d__law_cell_at : He.DefD := ⟨("_law_cell_at", none), "_law_cell_at", "_law_cell_at", defArgs s__law_cell_at, defBody s__law_cell_at, defScope s__law_cell_at, [], []⟩
def d__law_box : He.DefD := ⟨("_law_box", none), "_law_box", "_law_box", defArgs s__law_box, defBody s__law_box, defScope s__law_box, [], []⟩
def d__law_take : He.DefD := ⟨("_law_take", none), "_law_take", "_law_take", defArgs s__law_take, defBody s__law_take, defScope s__law_take, [], []⟩
def d__law_pool : He.DefD := ⟨("_law_pool", none), "_law_pool", "_law_pool", defArgs s__law_pool, defBody s__law_pool, defScope s__law_pool, [], []⟩
def d__law_sum_of : He.DefD := ⟨("_law_sum_of", none), "_law_sum_of", "_law_sum_of", defArgs s__law_sum_of, defBody s__law_sum_of, defScope s__law_sum_of, [], []⟩
def d__law_node : He.DefD := ⟨("_law_node", none), "_law_node", "_law_node", defArgs s__law_node, defBody s__law_node, defScope s__law_node, [], []⟩
def d__law_chain : He.DefD := ⟨("_law_chain", none), "_law_chain", "_law_chain", defArgs s__law_chain, defBody s__law_chain, defScope s__law_chain, [], []⟩
def d__law_right : He.DefD := ⟨("_law_right", none), "_law_right", "_law_right", defArgs s__law_right, defBody s__law_right, defScope s__law_right, [], []⟩
def d__law_strange : He.DefD := ⟨("_law_strange", none), "_law_strange", "_law_strange", defArgs s__law_strange, defBody s__law_strange, defScope s__law_strange, [], []⟩
def d_law : He.DefD := ⟨("law", none), "law", "law", defArgs s_law, defBody s_law, defScope s_law, [], []⟩
def d_Unknown_init : He.DefD := ⟨("Unknown", some "__init__"), "__init__", "Unknown.__init__", defArgs s_Unknown_init, defBody s_Unknown_init, defScope s_Unknown_init, [], []⟩
def d_TooMany_init : He.DefD := ⟨("TooMany", some "__init__"), "__init__", "TooMany.__init__", defArgs s_TooMany_init, defBody s_TooMany_init, defScope s_TooMany_init, [], []⟩
def fn0 : List He.DefD := [d_is_whole, d_is_within, d_is_name, d_is_pointed, d_is_value, d_ops_told, d_Term_parts, d_Term_names, d_Term_levels, d_need_term, d_Name_init, d_Name_names, d_Name_renamed, d_Name_told, d_Two_init, d_Two_parts, d_Two_renamed, d_Two_told, d_simple_of, d_made_of_told, d_term_of, d_new_name, d_each_once, d_Equation_init, d_Equation_told, d_Equation_tells, d_Equation_names, d_Equation_term, d_Equation_is_call, d_Equation_put_otherwise]
def fn1 : List He.DefD := [d_Equation_renamed, d_Plain_init, d_Plain_names, d_Plain_term, d_Plain_put_otherwise, d_Call_tells, d_Call_names, d_Call_is_call, d_are_pointed, d_is_valued, d_plain_of, d_valued_of, d_call_of, d_made_of, d_equation_of, d_need_names, d_equations_of, d_Node_init, d_Node_take_tellers, d_Node_need_told, d_Node_inputs, d_Node_outs, d_Node_rows, d_Node_names, d_node_of, d_how_many, d_need_few, d_once_each, d_call_rows, d_rows_out]
def fn2 : List He.DefD := [d_written_out, d_need_calls, d_need_nodes, d_Program_init, d_Program_named, d_Program_calls_in, d_Program_below, d_steps_from, d_ranked, d_Fit_init, d_Fit_named_outside, d_Fit_gifts, d_Fit_gifts_reckoned, d_Fit_steps, d_Fit_checks, d_Fit_fit_clocks, d_Fit_readings, d_Fit_order, d_Fit_led_from, d_Fit_summary, d_Fit_summary_reckoned, d_clock_by, d_begun, d_fitted, d_summary_of, d_cells_in, d__law_cell_at, d__law_box, d__law_take, d__law_pool]
def fn3 : List He.DefD := [d__law_sum_of, d__law_node, d__law_chain, d__law_right, d__law_strange, d_law, d_Unknown_init, d_TooMany_init]
def fn : List He.DefD := fn0 ++ (fn1 ++ (fn2 ++ (fn3)))
end K99
/-! HEAD -/
namespace K99
open PySem PySem.Spec PyProof.Rows L2
/-! ### the part of the heap that is looked at -/
def frK {β : Type} : PySem.W.Frag → (PySem.W.Frag → β) → β
  | [], k => k []
  | p :: r, k => frK r fun r' => k (p :: r')
theorem frK_eq {β : Type} : ∀ (K : PySem.W.Frag) (k : PySem.W.Frag → β), frK K k = k K
  | [], _ => rfl
  | _ :: r, k => by
    show frK r (fun r' => k (_ :: r')) = _
    rw [frK_eq r]
def ent (g : Addr → Option Obj) (a : Addr) : List Addr := match g a with
  | some ⟨_, _, .dict es _, _⟩ => es.toList.flatMap fun e => He.refV e.val
  | _ => []
def nss (g : Addr → Option Obj) (a : Addr) : List Addr := match g a with
  | some ⟨_, _, .cls cd, _⟩ => [cd.ns]
  | _ => []
def cods (g : Addr → Option Obj) (a : Addr) : List Addr := match g a with
  | some ⟨_, _, .func fd, _⟩ => He.refV fd.code
  | _ => []
def col (g : Addr → Option Obj) : List Addr :=
  PySem.cStatics :: mainGlobals :: (ent g mainGlobals ++ ((ent g mainGlobals).flatMap (nss g) ++ (((ent g mainGlobals).flatMap (nss g)).flatMap (ent g) ++
    ((ent g mainGlobals).flatMap (cods g) ++ (((ent g mainGlobals).flatMap (nss g)).flatMap (ent g)).flatMap (cods g)))))
def obsF (fa : List He.Fa) (fn : List He.DefD) (ex : PySem.W.Frag → Bool) (g : Addr → Option Obj) : He.AlD × Bool := frK (He.frG g (col g)) fun K => (He.obsD fa fn K, ex K)
def hookF (fa : List He.Fa) (fn : List He.DefD) (ex : PySem.W.Frag → Bool) : PySem.W.Hook where
  α := He.AlD × Bool
  obs := fun s => obsF fa fn ex s.heap.get?
  val := fun _ => (He.valD fn, true)
  says := fun _ h => ∃ K : PySem.W.Frag, K.In h ∧ He.SaysD fa fn K ∧ ex K = true
  of := fun _ _ e => ⟨_, He.frG_in, by
    have e1 : (He.obsD fa fn _, ex _) = (He.valD fn, true) := (frK_eq _ _).symm.trans e
    exact ⟨congrArg (fun z : He.AlD × Bool => z.1) e1, congrArg (fun z : He.AlD × Bool => z.2) e1⟩⟩
  keeps := fun _ _ _ ⟨K, hK, c⟩ k => ⟨K, PySem.W.Frag.In.keeps hK k, c⟩
theorem obsF_eq {fa : List He.Fa} {fn : List He.DefD} {ex : PySem.W.Frag → Bool} {g : Addr → Option Obj} {s : Shared} (h : ∀ a, g a = s.heap.get? a) : obsF fa fn ex g = (hookF fa fn ex).obs s := by
  have e : g = s.heap.get? := funext h
  rw [e] <;> rfl
def tn0 : List PySem.Str := ["_wall", "__name__", "BeatError", "NoValue", "NoName", "NoTerm", "NoEquation", "NoNode", "NoProgram", "Twice", "Unknown", "NoOut", "NoRead", "TooMany", "NoFit", "NoClock", "Ring", "Hidden", "NoArgs", "NoCall", "LETTERS", "LONGEST", "MOST_SIGNS", "MOST", "OWN", "is_whole", "is_within", "is_name", "is_pointed", "is_value"]
def tn1 : List PySem.Str := ["value_text", "OPS", "ops_told", "MOST_LEVELS", "Term", "need_term", "Name", "Value", "Two", "Not", "Pick", "simple_of", "made_of_told", "term_of", "new_name", "each_once", "Equation", "Plain", "Before", "When", "Hold", "Like", "Same", "Call", "are_pointed", "is_valued", "plain_of", "valued_of", "call_of", "made_of"]
def tn2 : List PySem.Str := ["equation_of", "TOLD_THINGS", "need_names", "equations_of", "Node", "node_of", "MOST_NAMES", "how_many", "need_few", "once_each", "call_rows", "rows_out", "written_out", "need_calls", "need_nodes", "Program", "steps_from", "ring_among", "ranked", "Fit", "clock_by", "begun", "fitted", "summary_of", "cells_in", "_law_cell_at", "_law_box", "_law_take", "_law_pool", "_law_sum_of"]
def tn3 : List PySem.Str := ["_law_node", "_law_chain", "_law_right", "_law_strange"]
def tnames : List PySem.Str := tn0 ++ tn1 ++ tn2 ++ tn3
def exF (K : PySem.W.Frag) : Bool := fx.all fun f => f.ok K
abbrev R : PySem.W.OpenRow := PySem.W.OpenLaw.row PySem.Challenge.rw_beatrows_k99_whole_chains_of_many_calls
abbrev hk : PySem.W.Hook := hookF fa fn exF
def ob (s : PySem.W.SharedT) : He.AlD × Bool := obsF fa fn exF (HandSHeadRun.getT s)
theorem ob_eq (s : PySem.W.SharedT) : ob s = hk.obs s.abs := obsF_eq (HandSHeadRun.getT_eq s)
noncomputable def fA (w : World) (s : PySem.W.SharedT) : Bool := (fun s => HandSHeadRun.looksF R.prog (PySem.W.boot_heap w.params) s.abs) s
noncomputable def fB (s : PySem.W.SharedT) := (fun s => HandSHeadRun.seenQ (PySem.W.view R.prog [106]) tnames (importedModules R.prog.main.body) (fun s => PySem.W.xlAt (PySem.W.view R.prog [106]) [] s && PySem.W.recOk R.toRowW.records s) s.abs) s
def onK {β : Type} (k : PySem.W.Frag → β) (s : PySem.W.SharedT) : β := frK (He.frG (HandSHeadRun.getT s) (col (HandSHeadRun.getT s))) k
theorem hd1 (w : World) (os : OsState) : (HandSHeadRun.endF (HandSHeadRun.stepQ (HandSHeadRun.denQ HandSHeadRun.tabQ) R.prog w) 60000 R.prog w os).map (fun s => (fA w s, fB s, onK exF s)) = some (true, PySem.W.openGood (PySem.W.view R.prog [106]) tnames, true) := by kernel_rfl
theorem hd2 (w : World) (os : OsState) : (HandSHeadRun.endF (HandSHeadRun.stepQ (HandSHeadRun.denQ HandSHeadRun.tabQ) R.prog w) 60000 R.prog w os).map (fun s => onK (fun K => fa.all fun f => f.ok K) s) = some (true) := by kernel_rfl
theorem hd3 (w : World) (os : OsState) : (HandSHeadRun.endF (HandSHeadRun.stepQ (HandSHeadRun.denQ HandSHeadRun.tabQ) R.prog w) 60000 R.prog w os).map (fun s => (onK (fun K => (fn0 ++ fn1).all fun d => d.ok K) s, onK (fun K => (fn0 ++ fn1).map fun d => He.fnW K d.at_) s)) = some (true, (fn0 ++ fn1).map He.DefD.val) := by kernel_rfl
theorem hd4 (w : World) (os : OsState) : (HandSHeadRun.endF (HandSHeadRun.stepQ (HandSHeadRun.denQ HandSHeadRun.tabQ) R.prog w) 60000 R.prog w os).map (fun s => (onK (fun K => (fn2 ++ fn3).all fun d => d.ok K) s, onK (fun K => (fn2 ++ fn3).map fun d => He.fnW K d.at_) s)) = some (true, (fn2 ++ fn3).map He.DefD.val) := by kernel_rfl
theorem fn_two : fn = (fn0 ++ fn1) ++ (fn2 ++ fn3) := by
  unfold fn
  rw [List.append_assoc]
theorem run (w : World) : HandSHeadRun.RunEq R (PySem.W.view R.prog [106]) hk ob 60000 tnames w := by
  intro os
  have h1 := hd1 w os
  have h2 := hd2 w os
  have h3 := hd3 w os
  have h4 := hd4 w os
  generalize HandSHeadRun.endF (HandSHeadRun.stepQ (HandSHeadRun.denQ HandSHeadRun.tabQ) R.prog w) 60000 R.prog w os = z at h1 h2 h3 h4 ⊢
  cases z with
  | none => cases h1
  | some s =>
    have h1 := Option.some.inj h1
    have e1 : onK (fun K => fa.all fun f => f.ok K) s = true := Option.some.inj h2
    have h3 := Option.some.inj h3
    have h4 := Option.some.inj h4
    obtain ⟨ea, h1⟩ := Prod.mk.inj h1
    obtain ⟨eb, e4⟩ := Prod.mk.inj h1
    obtain ⟨d1, f1⟩ := Prod.mk.inj h3
    obtain ⟨d2, f2⟩ := Prod.mk.inj h4
    show some (fA w s, fB s, ob s) = some (true, _, hk.val w)
    have eo : ob s = hk.val w := by
      unfold ob obsF
      unfold onK at e1 e4 d1 d2 f1 f2
      rw [frK_eq] at e1 e4 d1 d2 f1 f2 ⊢
      show (((fa.all fun f => f.ok _) && (fn.all fun d => d.ok _), fn.map fun d => He.fnW _ d.at_), exF _) = ((true, fn.map He.DefD.val), true)
      rw [e1, e4, fn_two, List.all_append, d1, d2, List.map_append, f1, f2, List.map_append]
      rfl
    rw [ea, eb, eo]
    rfl
end K99
/-! KT2 -/
namespace K99
open PySem PySem.Spec PyProof.Rows L2
/-! ### what the walk asks -/
def fdAt (K : PySem.W.Frag) (a : Addr) : FuncData := match K.lookup a with
  | some ⟨_, _, .func fd, _⟩ => fd
  | _ => default
abbrev FN (K : PySem.W.Frag) (x qual : Str) (st : Stmt) (f : Addr) : Prop := FunD K x qual (defArgs st) (defBody st) (defScope st) [] [] f (fdAt K f)
structure Txt (K : PySem.W.Frag) (mg : Str → Option Value) : Prop where
  fact : ∀ (i : Nat) {f : He.Fa}, fa[i]? = some f → f.ok K = true
  fct : ∀ (i : Nat) {f : Fx}, fx[i]? = some f → f.ok K = true
  dfn : ∀ (i : Nat) {d : He.DefD}, fn[i]? = some d → ∃ fd, FunD K d.name d.qual d.params d.body d.scope (d.dvs K) (d.kws K) (He.fAd K d.at_) fd
  glo : ∀ {x : Str}, (He.Fa.glo x).ok K = true → mg x = some (.ref (He.ga K x))
  fre : ∀ {x : Str}, (He.Fa.free x).ok K = true → mg x = none
  int : ∀ {x : Str} {i : Int}, (He.Fa.int x i).ok K = true → ∃ t, mg x = some (.int i t)
  str : ∀ {x z : Str}, (He.Fa.str x z).ok K = true → ∃ t, mg x = some (.str z t)
  tup : ∀ {x : Str} {vs : List He.Dv}, (Fx.tup x vs).ok K = true → mg x = some (.ref (He.ga K x)) ∧ ∀ H : Hp, SqT K H (He.ga K x) (vs.map (He.Dv.v K))
theorem FunD.at' {K : PySem.W.Frag} {x qual : Str} {params : Arguments} {body : List Stmt} {scope : Scope} {dvs : List V} {kws : List (Str × V)} {f : Addr} {fd : FuncData} (F : FunD K x qual params body scope dvs kws f fd) : FunD K x qual params body scope dvs kws f (fdAt K f) := by
  obtain ⟨oc, od, dV, kV, doc, pm, an, cdv, ct, osl, e, lk, r⟩ := F.ex
  have e2 : fdAt K f = fd := by
    unfold fdAt
    rw [lk]
  rw [e2]
  exact F
theorem txt_of {K : PySem.W.Frag} {h : Heap} {mg : Str → Option Value} (X : K.In h) (G : h.Ns mainGlobals mg) (c : He.SaysD fa fn K) (e : (fx.all fun f => f.ok K) = true) : Txt K mg where
  fact := fun i _ hi => c.fact i hi
  fct := fun i _ hi => List.all_eq_true.mp e _ (List.mem_of_getElem? hi)
  dfn := fun i _ hi => c.def_ i hi
  glo := fun h => He.glo_ok X G h
  fre := fun h => He.free_ok X G h
  int := fun h => He.int_ok X G h
  str := fun h => He.str_ok X G h
  tup := fun h => ⟨PySem.W.mg_of X G (of_decide_eq_true (He.ba h).2), He.tupB_ok (He.ba h).1⟩
section
variable {K : PySem.W.Frag} {mg : Str → Option Value}
abbrev A_Name (K : PySem.W.Frag) : Addr := He.ga K "Name"
abbrev A_Two (K : PySem.W.Frag) : Addr := He.ga K "Two"
abbrev A_Plain (K : PySem.W.Frag) : Addr := He.ga K "Plain"
abbrev A_Before (K : PySem.W.Frag) : Addr := He.ga K "Before"
abbrev A_Call (K : PySem.W.Frag) : Addr := He.ga K "Call"
abbrev A_Node (K : PySem.W.Frag) : Addr := He.ga K "Node"
abbrev A_Program (K : PySem.W.Frag) : Addr := He.ga K "Program"
abbrev A_Fit (K : PySem.W.Frag) : Addr := He.ga K "Fit"
abbrev A_Term (K : PySem.W.Frag) : Addr := He.ga K "Term"
abbrev A_Equation (K : PySem.W.Frag) : Addr := He.ga K "Equation"
abbrev A_BeatError (K : PySem.W.Frag) : Addr := He.ga K "BeatError"
abbrev A_NoTerm (K : PySem.W.Frag) : Addr := He.ga K "NoTerm"
abbrev A_Unknown (K : PySem.W.Frag) : Addr := He.ga K "Unknown"
abbrev A_TooMany (K : PySem.W.Frag) : Addr := He.ga K "TooMany"
abbrev f_is_whole (K : PySem.W.Frag) : Addr := He.ga K "is_whole"
abbrev f_is_within (K : PySem.W.Frag) : Addr := He.ga K "is_within"
abbrev f_is_name (K : PySem.W.Frag) : Addr := He.ga K "is_name"
abbrev f_is_pointed (K : PySem.W.Frag) : Addr := He.ga K "is_pointed"
abbrev f_is_value (K : PySem.W.Frag) : Addr := He.ga K "is_value"
abbrev f_ops_told (K : PySem.W.Frag) : Addr := He.ga K "ops_told"
abbrev f_Term_parts (K : PySem.W.Frag) : Addr := He.ma K (He.ga K "Term") "parts"
abbrev f_Term_names (K : PySem.W.Frag) : Addr := He.ma K (He.ga K "Term") "names"
abbrev f_Term_levels (K : PySem.W.Frag) : Addr := He.ma K (He.ga K "Term") "levels"
abbrev f_need_term (K : PySem.W.Frag) : Addr := He.ga K "need_term"
abbrev f_Name_init (K : PySem.W.Frag) : Addr := He.ma K (He.ga K "Name") "__init__"
abbrev f_Name_names (K : PySem.W.Frag) : Addr := He.ma K (He.ga K "Name") "names"
abbrev f_Name_renamed (K : PySem.W.Frag) : Addr := He.ma K (He.ga K "Name") "renamed"
abbrev f_Name_told (K : PySem.W.Frag) : Addr := He.ma K (He.ga K "Name") "told"
abbrev f_Two_init (K : PySem.W.Frag) : Addr := He.ma K (He.ga K "Two") "__init__"
abbrev f_Two_parts (K : PySem.W.Frag) : Addr := He.ma K (He.ga K "Two") "parts"
abbrev f_Two_renamed (K : PySem.W.Frag) : Addr := He.ma K (He.ga K "Two") "renamed"
abbrev f_Two_told (K : PySem.W.Frag) : Addr := He.ma K (He.ga K "Two") "told"
abbrev f_simple_of (K : PySem.W.Frag) : Addr := He.ga K "simple_of"
abbrev f_made_of_told (K : PySem.W.Frag) : Addr := He.ga K "made_of_told"
abbrev f_term_of (K : PySem.W.Frag) : Addr := He.ga K "term_of"
abbrev f_new_name (K : PySem.W.Frag) : Addr := He.ga K "new_name"
abbrev f_each_once (K : PySem.W.Frag) : Addr := He.ga K "each_once"
abbrev f_Equation_init (K : PySem.W.Frag) : Addr := He.ma K (He.ga K "Equation") "__init__"
abbrev f_Equation_told (K : PySem.W.Frag) : Addr := He.ma K (He.ga K "Equation") "told"
abbrev f_Equation_tells (K : PySem.W.Frag) : Addr := He.ma K (He.ga K "Equation") "tells"
abbrev f_Equation_names (K : PySem.W.Frag) : Addr := He.ma K (He.ga K "Equation") "names"
abbrev f_Equation_term (K : PySem.W.Frag) : Addr := He.ma K (He.ga K "Equation") "term"
abbrev f_Equation_is_call (K : PySem.W.Frag) : Addr := He.ma K (He.ga K "Equation") "is_call"
abbrev f_Equation_put_otherwise (K : PySem.W.Frag) : Addr := He.ma K (He.ga K "Equation") "put_otherwise"
abbrev f_Equation_renamed (K : PySem.W.Frag) : Addr := He.ma K (He.ga K "Equation") "renamed"
abbrev f_Plain_init (K : PySem.W.Frag) : Addr := He.ma K (He.ga K "Plain") "__init__"
abbrev f_Plain_names (K : PySem.W.Frag) : Addr := He.ma K (He.ga K "Plain") "names"
abbrev f_Plain_term (K : PySem.W.Frag) : Addr := He.ma K (He.ga K "Plain") "term"
abbrev f_Plain_put_otherwise (K : PySem.W.Frag) : Addr := He.ma K (He.ga K "Plain") "put_otherwise"
abbrev f_Call_tells (K : PySem.W.Frag) : Addr := He.ma K (He.ga K "Call") "tells"
abbrev f_Call_names (K : PySem.W.Frag) : Addr := He.ma K (He.ga K "Call") "names"
abbrev f_Call_is_call (K : PySem.W.Frag) : Addr := He.ma K (He.ga K "Call") "is_call"
abbrev f_are_pointed (K : PySem.W.Frag) : Addr := He.ga K "are_pointed"
abbrev f_is_valued (K : PySem.W.Frag) : Addr := He.ga K "is_valued"
abbrev f_plain_of (K : PySem.W.Frag) : Addr := He.ga K "plain_of"
abbrev f_valued_of (K : PySem.W.Frag) : Addr := He.ga K "valued_of"
abbrev f_call_of (K : PySem.W.Frag) : Addr := He.ga K "call_of"
abbrev f_made_of (K : PySem.W.Frag) : Addr := He.ga K "made_of"
abbrev f_equation_of (K : PySem.W.Frag) : Addr := He.ga K "equation_of"
abbrev f_need_names (K : PySem.W.Frag) : Addr := He.ga K "need_names"
abbrev f_equations_of (K : PySem.W.Frag) : Addr := He.ga K "equations_of"
abbrev f_Node_init (K : PySem.W.Frag) : Addr := He.ma K (He.ga K "Node") "__init__"
abbrev f_Node_take_tellers (K : PySem.W.Frag) : Addr := He.ma K (He.ga K "Node") "take_tellers"
abbrev f_Node_need_told (K : PySem.W.Frag) : Addr := He.ma K (He.ga K "Node") "need_told"
abbrev f_Node_inputs (K : PySem.W.Frag) : Addr := He.ma K (He.ga K "Node") "inputs"
abbrev f_Node_outs (K : PySem.W.Frag) : Addr := He.ma K (He.ga K "Node") "outs"
abbrev f_Node_rows (K : PySem.W.Frag) : Addr := He.ma K (He.ga K "Node") "rows"
abbrev f_Node_names (K : PySem.W.Frag) : Addr := He.ma K (He.ga K "Node") "names"
abbrev f_node_of (K : PySem.W.Frag) : Addr := He.ga K "node_of"
abbrev f_how_many (K : PySem.W.Frag) : Addr := He.ga K "how_many"
abbrev f_need_few (K : PySem.W.Frag) : Addr := He.ga K "need_few"
abbrev f_once_each (K : PySem.W.Frag) : Addr := He.ga K "once_each"
abbrev f_call_rows (K : PySem.W.Frag) : Addr := He.ga K "call_rows"
abbrev f_rows_out (K : PySem.W.Frag) : Addr := He.ga K "rows_out"
abbrev f_written_out (K : PySem.W.Frag) : Addr := He.ga K "written_out"
abbrev f_need_calls (K : PySem.W.Frag) : Addr := He.ga K "need_calls"
abbrev f_need_nodes (K : PySem.W.Frag) : Addr := He.ga K "need_nodes"
abbrev f_Program_init (K : PySem.W.Frag) : Addr := He.ma K (He.ga K "Program") "__init__"
abbrev f_Program_named (K : PySem.W.Frag) : Addr := He.ma K (He.ga K "Program") "named"
abbrev f_Program_calls_in (K : PySem.W.Frag) : Addr := He.ma K (He.ga K "Program") "calls_in"
abbrev f_Program_below (K : PySem.W.Frag) : Addr := He.ma K (He.ga K "Program") "below"
abbrev f_steps_from (K : PySem.W.Frag) : Addr := He.ga K "steps_from"
abbrev f_ranked (K : PySem.W.Frag) : Addr := He.ga K "ranked"
abbrev f_Fit_init (K : PySem.W.Frag) : Addr := He.ma K (He.ga K "Fit") "__init__"
abbrev f_Fit_named_outside (K : PySem.W.Frag) : Addr := He.ma K (He.ga K "Fit") "named_outside"
abbrev f_Fit_gifts (K : PySem.W.Frag) : Addr := He.ma K (He.ga K "Fit") "gifts"
abbrev f_Fit_gifts_reckoned (K : PySem.W.Frag) : Addr := He.ma K (He.ga K "Fit") "gifts_reckoned"
abbrev f_Fit_steps (K : PySem.W.Frag) : Addr := He.ma K (He.ga K "Fit") "steps"
abbrev f_Fit_checks (K : PySem.W.Frag) : Addr := He.ma K (He.ga K "Fit") "checks"
abbrev f_Fit_fit_clocks (K : PySem.W.Frag) : Addr := He.ma K (He.ga K "Fit") "fit_clocks"
abbrev f_Fit_readings (K : PySem.W.Frag) : Addr := He.ma K (He.ga K "Fit") "readings"
abbrev f_Fit_order (K : PySem.W.Frag) : Addr := He.ma K (He.ga K "Fit") "order"
abbrev f_Fit_led_from (K : PySem.W.Frag) : Addr := He.ma K (He.ga K "Fit") "led_from"
abbrev f_Fit_summary (K : PySem.W.Frag) : Addr := He.ma K (He.ga K "Fit") "summary"
abbrev f_Fit_summary_reckoned (K : PySem.W.Frag) : Addr := He.ma K (He.ga K "Fit") "summary_reckoned"
abbrev f_clock_by (K : PySem.W.Frag) : Addr := He.ga K "clock_by"
abbrev f_begun (K : PySem.W.Frag) : Addr := He.ga K "begun"
abbrev f_fitted (K : PySem.W.Frag) : Addr := He.ga K "fitted"
abbrev f_summary_of (K : PySem.W.Frag) : Addr := He.ga K "summary_of"
abbrev f_cells_in (K : PySem.W.Frag) : Addr := He.ga K "cells_in"
abbrev f__law_cell_at (K : PySem.W.Frag) : Addr := He.ga K "_law_cell_at"
abbrev f__law_box (K : PySem.W.Frag) : Addr := He.ga K "_law_box"
abbrev f__law_take (K : PySem.W.Frag) : Addr := He.ga K "_law_take"
abbrev f__law_pool (K : PySem.W.Frag) : Addr := He.ga K "_law_pool"
abbrev f__law_sum_of (K : PySem.W.Frag) : Addr := He.ga K "_law_sum_of"
abbrev f__law_node (K : PySem.W.Frag) : Addr := He.ga K "_law_node"
abbrev f__law_chain (K : PySem.W.Frag) : Addr := He.ga K "_law_chain"
abbrev f__law_right (K : PySem.W.Frag) : Addr := He.ga K "_law_right"
abbrev f__law_strange (K : PySem.W.Frag) : Addr := He.ga K "_law_strange"
abbrev f_law (K : PySem.W.Frag) : Addr := He.ga K "law"
abbrev f_Unknown_init (K : PySem.W.Frag) : Addr := He.ma K (He.ga K "Unknown") "__init__"
abbrev f_TooMany_init (K : PySem.W.Frag) : Addr := He.ma K (He.ga K "TooMany") "__init__"
theorem Txt.z_isinstance (T : Txt K mg) : mg "isinstance" = none := T.fre (T.fact 0 (f := .free "isinstance") rfl)
theorem Txt.z_int (T : Txt K mg) : mg "int" = none := T.fre (T.fact 1 (f := .free "int") rfl)
theorem Txt.z_bool (T : Txt K mg) : mg "bool" = none := T.fre (T.fact 2 (f := .free "bool") rfl)
theorem Txt.z_str (T : Txt K mg) : mg "str" = none := T.fre (T.fact 3 (f := .free "str") rfl)
theorem Txt.z_len (T : Txt K mg) : mg "len" = none := T.fre (T.fact 4 (f := .free "len") rfl)
theorem Txt.z_list (T : Txt K mg) : mg "list" = none := T.fre (T.fact 5 (f := .free "list") rfl)
theorem Txt.z_tuple (T : Txt K mg) : mg "tuple" = none := T.fre (T.fact 6 (f := .free "tuple") rfl)
theorem Txt.z_dict (T : Txt K mg) : mg "dict" = none := T.fre (T.fact 7 (f := .free "dict") rfl)
theorem Txt.z_all (T : Txt K mg) : mg "all" = none := T.fre (T.fact 8 (f := .free "all") rfl)
theorem Txt.z_max (T : Txt K mg) : mg "max" = none := T.fre (T.fact 9 (f := .free "max") rfl)
theorem Txt.z_min (T : Txt K mg) : mg "min" = none := T.fre (T.fact 10 (f := .free "min") rfl)
theorem Txt.z_range (T : Txt K mg) : mg "range" = none := T.fre (T.fact 11 (f := .free "range") rfl)
theorem Txt.z_zip (T : Txt K mg) : mg "zip" = none := T.fre (T.fact 12 (f := .free "zip") rfl)
theorem Txt.z_sum (T : Txt K mg) : mg "sum" = none := T.fre (T.fact 13 (f := .free "sum") rfl)
theorem Txt.z_repr (T : Txt K mg) : mg "repr" = none := T.fre (T.fact 14 (f := .free "repr") rfl)
theorem Txt.g_Name (T : Txt K mg) : mg "Name" = some (.ref (He.ga K "Name")) := T.glo (T.fact 15 (f := .glo "Name") rfl)
theorem Txt.g_Two (T : Txt K mg) : mg "Two" = some (.ref (He.ga K "Two")) := T.glo (T.fact 16 (f := .glo "Two") rfl)
theorem Txt.g_Plain (T : Txt K mg) : mg "Plain" = some (.ref (He.ga K "Plain")) := T.glo (T.fact 17 (f := .glo "Plain") rfl)
theorem Txt.g_Before (T : Txt K mg) : mg "Before" = some (.ref (He.ga K "Before")) := T.glo (T.fact 18 (f := .glo "Before") rfl)
theorem Txt.g_Call (T : Txt K mg) : mg "Call" = some (.ref (He.ga K "Call")) := T.glo (T.fact 19 (f := .glo "Call") rfl)
theorem Txt.g_Node (T : Txt K mg) : mg "Node" = some (.ref (He.ga K "Node")) := T.glo (T.fact 20 (f := .glo "Node") rfl)
theorem Txt.g_Program (T : Txt K mg) : mg "Program" = some (.ref (He.ga K "Program")) := T.glo (T.fact 21 (f := .glo "Program") rfl)
theorem Txt.g_Fit (T : Txt K mg) : mg "Fit" = some (.ref (He.ga K "Fit")) := T.glo (T.fact 22 (f := .glo "Fit") rfl)
theorem Txt.g_Term (T : Txt K mg) : mg "Term" = some (.ref (He.ga K "Term")) := T.glo (T.fact 23 (f := .glo "Term") rfl)
theorem Txt.g_Equation (T : Txt K mg) : mg "Equation" = some (.ref (He.ga K "Equation")) := T.glo (T.fact 24 (f := .glo "Equation") rfl)
theorem Txt.g_BeatError (T : Txt K mg) : mg "BeatError" = some (.ref (He.ga K "BeatError")) := T.glo (T.fact 25 (f := .glo "BeatError") rfl)
theorem Txt.g_NoTerm (T : Txt K mg) : mg "NoTerm" = some (.ref (He.ga K "NoTerm")) := T.glo (T.fact 26 (f := .glo "NoTerm") rfl)
theorem Txt.g_Unknown (T : Txt K mg) : mg "Unknown" = some (.ref (He.ga K "Unknown")) := T.glo (T.fact 27 (f := .glo "Unknown") rfl)
theorem Txt.g_TooMany (T : Txt K mg) : mg "TooMany" = some (.ref (He.ga K "TooMany")) := T.glo (T.fact 28 (f := .glo "TooMany") rfl)
theorem Txt.g_is_whole (T : Txt K mg) : mg "is_whole" = some (.ref (He.ga K "is_whole")) := T.glo (T.fact 29 (f := .glo "is_whole") rfl)
theorem Txt.g_is_within (T : Txt K mg) : mg "is_within" = some (.ref (He.ga K "is_within")) := T.glo (T.fact 30 (f := .glo "is_within") rfl)
theorem Txt.g_is_name (T : Txt K mg) : mg "is_name" = some (.ref (He.ga K "is_name")) := T.glo (T.fact 31 (f := .glo "is_name") rfl)
theorem Txt.g_is_pointed (T : Txt K mg) : mg "is_pointed" = some (.ref (He.ga K "is_pointed")) := T.glo (T.fact 32 (f := .glo "is_pointed") rfl)
theorem Txt.g_is_value (T : Txt K mg) : mg "is_value" = some (.ref (He.ga K "is_value")) := T.glo (T.fact 33 (f := .glo "is_value") rfl)
theorem Txt.g_ops_told (T : Txt K mg) : mg "ops_told" = some (.ref (He.ga K "ops_told")) := T.glo (T.fact 34 (f := .glo "ops_told") rfl)
theorem Txt.g_need_term (T : Txt K mg) : mg "need_term" = some (.ref (He.ga K "need_term")) := T.glo (T.fact 35 (f := .glo "need_term") rfl)
theorem Txt.g_simple_of (T : Txt K mg) : mg "simple_of" = some (.ref (He.ga K "simple_of")) := T.glo (T.fact 36 (f := .glo "simple_of") rfl)
theorem Txt.g_made_of_told (T : Txt K mg) : mg "made_of_told" = some (.ref (He.ga K "made_of_told")) := T.glo (T.fact 37 (f := .glo "made_of_told") rfl)
theorem Txt.g_term_of (T : Txt K mg) : mg "term_of" = some (.ref (He.ga K "term_of")) := T.glo (T.fact 38 (f := .glo "term_of") rfl)
theorem Txt.g_new_name (T : Txt K mg) : mg "new_name" = some (.ref (He.ga K "new_name")) := T.glo (T.fact 39 (f := .glo "new_name") rfl)
theorem Txt.g_each_once (T : Txt K mg) : mg "each_once" = some (.ref (He.ga K "each_once")) := T.glo (T.fact 40 (f := .glo "each_once") rfl)
theorem Txt.g_are_pointed (T : Txt K mg) : mg "are_pointed" = some (.ref (He.ga K "are_pointed")) := T.glo (T.fact 41 (f := .glo "are_pointed") rfl)
theorem Txt.g_is_valued (T : Txt K mg) : mg "is_valued" = some (.ref (He.ga K "is_valued")) := T.glo (T.fact 42 (f := .glo "is_valued") rfl)
theorem Txt.g_plain_of (T : Txt K mg) : mg "plain_of" = some (.ref (He.ga K "plain_of")) := T.glo (T.fact 43 (f := .glo "plain_of") rfl)
theorem Txt.g_valued_of (T : Txt K mg) : mg "valued_of" = some (.ref (He.ga K "valued_of")) := T.glo (T.fact 44 (f := .glo "valued_of") rfl)
theorem Txt.g_call_of (T : Txt K mg) : mg "call_of" = some (.ref (He.ga K "call_of")) := T.glo (T.fact 45 (f := .glo "call_of") rfl)
theorem Txt.g_made_of (T : Txt K mg) : mg "made_of" = some (.ref (He.ga K "made_of")) := T.glo (T.fact 46 (f := .glo "made_of") rfl)
theorem Txt.g_equation_of (T : Txt K mg) : mg "equation_of" = some (.ref (He.ga K "equation_of")) := T.glo (T.fact 47 (f := .glo "equation_of") rfl)
theorem Txt.g_need_names (T : Txt K mg) : mg "need_names" = some (.ref (He.ga K "need_names")) := T.glo (T.fact 48 (f := .glo "need_names") rfl)
theorem Txt.g_equations_of (T : Txt K mg) : mg "equations_of" = some (.ref (He.ga K "equations_of")) := T.glo (T.fact 49 (f := .glo "equations_of") rfl)
theorem Txt.g_node_of (T : Txt K mg) : mg "node_of" = some (.ref (He.ga K "node_of")) := T.glo (T.fact 50 (f := .glo "node_of") rfl)
theorem Txt.g_how_many (T : Txt K mg) : mg "how_many" = some (.ref (He.ga K "how_many")) := T.glo (T.fact 51 (f := .glo "how_many") rfl)
theorem Txt.g_need_few (T : Txt K mg) : mg "need_few" = some (.ref (He.ga K "need_few")) := T.glo (T.fact 52 (f := .glo "need_few") rfl)
theorem Txt.g_once_each (T : Txt K mg) : mg "once_each" = some (.ref (He.ga K "once_each")) := T.glo (T.fact 53 (f := .glo "once_each") rfl)
theorem Txt.g_call_rows (T : Txt K mg) : mg "call_rows" = some (.ref (He.ga K "call_rows")) := T.glo (T.fact 54 (f := .glo "call_rows") rfl)
theorem Txt.g_rows_out (T : Txt K mg) : mg "rows_out" = some (.ref (He.ga K "rows_out")) := T.glo (T.fact 55 (f := .glo "rows_out") rfl)
theorem Txt.g_written_out (T : Txt K mg) : mg "written_out" = some (.ref (He.ga K "written_out")) := T.glo (T.fact 56 (f := .glo "written_out") rfl)
theorem Txt.g_need_calls (T : Txt K mg) : mg "need_calls" = some (.ref (He.ga K "need_calls")) := T.glo (T.fact 57 (f := .glo "need_calls") rfl)
theorem Txt.g_need_nodes (T : Txt K mg) : mg "need_nodes" = some (.ref (He.ga K "need_nodes")) := T.glo (T.fact 58 (f := .glo "need_nodes") rfl)
theorem Txt.g_steps_from (T : Txt K mg) : mg "steps_from" = some (.ref (He.ga K "steps_from")) := T.glo (T.fact 59 (f := .glo "steps_from") rfl)
theorem Txt.g_ranked (T : Txt K mg) : mg "ranked" = some (.ref (He.ga K "ranked")) := T.glo (T.fact 60 (f := .glo "ranked") rfl)
theorem Txt.g_clock_by (T : Txt K mg) : mg "clock_by" = some (.ref (He.ga K "clock_by")) := T.glo (T.fact 61 (f := .glo "clock_by") rfl)
theorem Txt.g_begun (T : Txt K mg) : mg "begun" = some (.ref (He.ga K "begun")) := T.glo (T.fact 62 (f := .glo "begun") rfl)
theorem Txt.g_fitted (T : Txt K mg) : mg "fitted" = some (.ref (He.ga K "fitted")) := T.glo (T.fact 63 (f := .glo "fitted") rfl)
theorem Txt.g_summary_of (T : Txt K mg) : mg "summary_of" = some (.ref (He.ga K "summary_of")) := T.glo (T.fact 64 (f := .glo "summary_of") rfl)
theorem Txt.g_cells_in (T : Txt K mg) : mg "cells_in" = some (.ref (He.ga K "cells_in")) := T.glo (T.fact 65 (f := .glo "cells_in") rfl)
theorem Txt.g__law_cell_at (T : Txt K mg) : mg "_law_cell_at" = some (.ref (He.ga K "_law_cell_at")) := T.glo (T.fact 66 (f := .glo "_law_cell_at") rfl)
theorem Txt.g__law_box (T : Txt K mg) : mg "_law_box" = some (.ref (He.ga K "_law_box")) := T.glo (T.fact 67 (f := .glo "_law_box") rfl)
theorem Txt.g__law_take (T : Txt K mg) : mg "_law_take" = some (.ref (He.ga K "_law_take")) := T.glo (T.fact 68 (f := .glo "_law_take") rfl)
theorem Txt.g__law_pool (T : Txt K mg) : mg "_law_pool" = some (.ref (He.ga K "_law_pool")) := T.glo (T.fact 69 (f := .glo "_law_pool") rfl)
theorem Txt.g__law_sum_of (T : Txt K mg) : mg "_law_sum_of" = some (.ref (He.ga K "_law_sum_of")) := T.glo (T.fact 70 (f := .glo "_law_sum_of") rfl)
theorem Txt.g__law_node (T : Txt K mg) : mg "_law_node" = some (.ref (He.ga K "_law_node")) := T.glo (T.fact 71 (f := .glo "_law_node") rfl)
theorem Txt.g__law_chain (T : Txt K mg) : mg "_law_chain" = some (.ref (He.ga K "_law_chain")) := T.glo (T.fact 72 (f := .glo "_law_chain") rfl)
theorem Txt.g__law_right (T : Txt K mg) : mg "_law_right" = some (.ref (He.ga K "_law_right")) := T.glo (T.fact 73 (f := .glo "_law_right") rfl)
theorem Txt.g__law_strange (T : Txt K mg) : mg "_law_strange" = some (.ref (He.ga K "_law_strange")) := T.glo (T.fact 74 (f := .glo "_law_strange") rfl)
theorem Txt.g_law (T : Txt K mg) : mg "law" = some (.ref (He.ga K "law")) := T.glo (T.fact 75 (f := .glo "law") rfl)
theorem Txt.c_Name (T : Txt K mg) : Cls K (A_Name K) := He.cls_ok (T.fact 76 (f := .cls "Name") rfl)
theorem Txt.c_Two (T : Txt K mg) : Cls K (A_Two K) := He.cls_ok (T.fact 77 (f := .cls "Two") rfl)
theorem Txt.c_Plain (T : Txt K mg) : Cls K (A_Plain K) := He.cls_ok (T.fact 78 (f := .cls "Plain") rfl)
theorem Txt.c_Before (T : Txt K mg) : Cls K (A_Before K) := He.cls_ok (T.fact 79 (f := .cls "Before") rfl)
theorem Txt.c_Call (T : Txt K mg) : Cls K (A_Call K) := He.cls_ok (T.fact 80 (f := .cls "Call") rfl)
theorem Txt.c_Node (T : Txt K mg) : Cls K (A_Node K) := He.cls_ok (T.fact 81 (f := .cls "Node") rfl)
theorem Txt.c_Program (T : Txt K mg) : Cls K (A_Program K) := He.cls_ok (T.fact 82 (f := .cls "Program") rfl)
theorem Txt.c_Fit (T : Txt K mg) : Cls K (A_Fit K) := He.cls_ok (T.fact 83 (f := .cls "Fit") rfl)
theorem Txt.mk_Name (T : Txt K mg) : Mk K (A_Name K) (f_Name_init K) := He.mkr_ok (T.fact 84 (f := .mkr "Name") rfl)
theorem Txt.mk_Two (T : Txt K mg) : Mk K (A_Two K) (f_Two_init K) := He.mkr_ok (T.fact 85 (f := .mkr "Two") rfl)
theorem Txt.mk_Plain (T : Txt K mg) : Mk K (A_Plain K) (f_Plain_init K) := He.mkr_ok (T.fact 86 (f := .mkr "Plain") rfl)
theorem Txt.mk_Before (T : Txt K mg) : Mk K (A_Before K) (f_Equation_init K) := mk_same (of_decide_eq_true (T.fct 30 (f := .same "Before" "__init__" "Equation") rfl) : He.ma K (He.ga K "Before") "__init__" = He.ma K (He.ga K "Equation") "__init__") (He.mkr_ok (T.fact 87 (f := .mkr "Before") rfl))
theorem Txt.mk_Call (T : Txt K mg) : Mk K (A_Call K) (f_Equation_init K) := mk_same (of_decide_eq_true (T.fct 31 (f := .same "Call" "__init__" "Equation") rfl) : He.ma K (He.ga K "Call") "__init__" = He.ma K (He.ga K "Equation") "__init__") (He.mkr_ok (T.fact 88 (f := .mkr "Call") rfl))
theorem Txt.mk_Node (T : Txt K mg) : Mk K (A_Node K) (f_Node_init K) := He.mkr_ok (T.fact 89 (f := .mkr "Node") rfl)
theorem Txt.mk_Program (T : Txt K mg) : Mk K (A_Program K) (f_Program_init K) := He.mkr_ok (T.fact 90 (f := .mkr "Program") rfl)
theorem Txt.mk_Fit (T : Txt K mg) : Mk K (A_Fit K) (f_Fit_init K) := He.mkr_ok (T.fact 91 (f := .mkr "Fit") rfl)
theorem Txt.m_Name_parts (T : Txt K mg) : Meth K (A_Name K) "parts" (f_Term_parts K) := meth_same (of_decide_eq_true (T.fct 13 (f := .same "Name" "parts" "Term") rfl) : He.ma K (He.ga K "Name") "parts" = He.ma K (He.ga K "Term") "parts") (He.meth_ok (T.fact 92 (f := .meth "Name" "parts") rfl))
theorem Txt.m_Two_parts (T : Txt K mg) : Meth K (A_Two K) "parts" (f_Two_parts K) := He.meth_ok (T.fact 93 (f := .meth "Two" "parts") rfl)
theorem Txt.m_Name_names (T : Txt K mg) : Meth K (A_Name K) "names" (f_Name_names K) := He.meth_ok (T.fact 94 (f := .meth "Name" "names") rfl)
theorem Txt.m_Two_names (T : Txt K mg) : Meth K (A_Two K) "names" (f_Term_names K) := meth_same (of_decide_eq_true (T.fct 14 (f := .same "Two" "names" "Term") rfl) : He.ma K (He.ga K "Two") "names" = He.ma K (He.ga K "Term") "names") (He.meth_ok (T.fact 95 (f := .meth "Two" "names") rfl))
theorem Txt.m_Name_levels (T : Txt K mg) : Meth K (A_Name K) "levels" (f_Term_levels K) := meth_same (of_decide_eq_true (T.fct 15 (f := .same "Name" "levels" "Term") rfl) : He.ma K (He.ga K "Name") "levels" = He.ma K (He.ga K "Term") "levels") (He.meth_ok (T.fact 96 (f := .meth "Name" "levels") rfl))
theorem Txt.m_Two_levels (T : Txt K mg) : Meth K (A_Two K) "levels" (f_Term_levels K) := meth_same (of_decide_eq_true (T.fct 16 (f := .same "Two" "levels" "Term") rfl) : He.ma K (He.ga K "Two") "levels" = He.ma K (He.ga K "Term") "levels") (He.meth_ok (T.fact 97 (f := .meth "Two" "levels") rfl))
theorem Txt.m_Name_renamed (T : Txt K mg) : Meth K (A_Name K) "renamed" (f_Name_renamed K) := He.meth_ok (T.fact 98 (f := .meth "Name" "renamed") rfl)
theorem Txt.m_Two_renamed (T : Txt K mg) : Meth K (A_Two K) "renamed" (f_Two_renamed K) := He.meth_ok (T.fact 99 (f := .meth "Two" "renamed") rfl)
theorem Txt.m_Name_told (T : Txt K mg) : Meth K (A_Name K) "told" (f_Name_told K) := He.meth_ok (T.fact 100 (f := .meth "Name" "told") rfl)
theorem Txt.m_Two_told (T : Txt K mg) : Meth K (A_Two K) "told" (f_Two_told K) := He.meth_ok (T.fact 101 (f := .meth "Two" "told") rfl)
theorem Txt.m_Plain_told (T : Txt K mg) : Meth K (A_Plain K) "told" (f_Equation_told K) := meth_same (of_decide_eq_true (T.fct 17 (f := .same "Plain" "told" "Equation") rfl) : He.ma K (He.ga K "Plain") "told" = He.ma K (He.ga K "Equation") "told") (He.meth_ok (T.fact 102 (f := .meth "Plain" "told") rfl))
theorem Txt.m_Plain_tells (T : Txt K mg) : Meth K (A_Plain K) "tells" (f_Equation_tells K) := meth_same (of_decide_eq_true (T.fct 18 (f := .same "Plain" "tells" "Equation") rfl) : He.ma K (He.ga K "Plain") "tells" = He.ma K (He.ga K "Equation") "tells") (He.meth_ok (T.fact 103 (f := .meth "Plain" "tells") rfl))
theorem Txt.m_Plain_names (T : Txt K mg) : Meth K (A_Plain K) "names" (f_Plain_names K) := He.meth_ok (T.fact 104 (f := .meth "Plain" "names") rfl)
theorem Txt.m_Plain_term (T : Txt K mg) : Meth K (A_Plain K) "term" (f_Plain_term K) := He.meth_ok (T.fact 105 (f := .meth "Plain" "term") rfl)
theorem Txt.m_Plain_is_call (T : Txt K mg) : Meth K (A_Plain K) "is_call" (f_Equation_is_call K) := meth_same (of_decide_eq_true (T.fct 19 (f := .same "Plain" "is_call" "Equation") rfl) : He.ma K (He.ga K "Plain") "is_call" = He.ma K (He.ga K "Equation") "is_call") (He.meth_ok (T.fact 106 (f := .meth "Plain" "is_call") rfl))
theorem Txt.m_Plain_put_otherwise (T : Txt K mg) : Meth K (A_Plain K) "put_otherwise" (f_Plain_put_otherwise K) := He.meth_ok (T.fact 107 (f := .meth "Plain" "put_otherwise") rfl)
theorem Txt.m_Plain_renamed (T : Txt K mg) : Meth K (A_Plain K) "renamed" (f_Equation_renamed K) := meth_same (of_decide_eq_true (T.fct 20 (f := .same "Plain" "renamed" "Equation") rfl) : He.ma K (He.ga K "Plain") "renamed" = He.ma K (He.ga K "Equation") "renamed") (He.meth_ok (T.fact 108 (f := .meth "Plain" "renamed") rfl))
theorem Txt.m_Before_told (T : Txt K mg) : Meth K (A_Before K) "told" (f_Equation_told K) := meth_same (of_decide_eq_true (T.fct 21 (f := .same "Before" "told" "Equation") rfl) : He.ma K (He.ga K "Before") "told" = He.ma K (He.ga K "Equation") "told") (He.meth_ok (T.fact 109 (f := .meth "Before" "told") rfl))
theorem Txt.m_Before_tells (T : Txt K mg) : Meth K (A_Before K) "tells" (f_Equation_tells K) := meth_same (of_decide_eq_true (T.fct 22 (f := .same "Before" "tells" "Equation") rfl) : He.ma K (He.ga K "Before") "tells" = He.ma K (He.ga K "Equation") "tells") (He.meth_ok (T.fact 110 (f := .meth "Before" "tells") rfl))
theorem Txt.m_Before_names (T : Txt K mg) : Meth K (A_Before K) "names" (f_Equation_names K) := meth_same (of_decide_eq_true (T.fct 23 (f := .same "Before" "names" "Equation") rfl) : He.ma K (He.ga K "Before") "names" = He.ma K (He.ga K "Equation") "names") (He.meth_ok (T.fact 111 (f := .meth "Before" "names") rfl))
theorem Txt.m_Before_term (T : Txt K mg) : Meth K (A_Before K) "term" (f_Equation_term K) := meth_same (of_decide_eq_true (T.fct 24 (f := .same "Before" "term" "Equation") rfl) : He.ma K (He.ga K "Before") "term" = He.ma K (He.ga K "Equation") "term") (He.meth_ok (T.fact 112 (f := .meth "Before" "term") rfl))
theorem Txt.m_Before_is_call (T : Txt K mg) : Meth K (A_Before K) "is_call" (f_Equation_is_call K) := meth_same (of_decide_eq_true (T.fct 25 (f := .same "Before" "is_call" "Equation") rfl) : He.ma K (He.ga K "Before") "is_call" = He.ma K (He.ga K "Equation") "is_call") (He.meth_ok (T.fact 113 (f := .meth "Before" "is_call") rfl))
theorem Txt.m_Before_put_otherwise (T : Txt K mg) : Meth K (A_Before K) "put_otherwise" (f_Equation_put_otherwise K) := meth_same (of_decide_eq_true (T.fct 26 (f := .same "Before" "put_otherwise" "Equation") rfl) : He.ma K (He.ga K "Before") "put_otherwise" = He.ma K (He.ga K "Equation") "put_otherwise") (He.meth_ok (T.fact 114 (f := .meth "Before" "put_otherwise") rfl))
theorem Txt.m_Before_renamed (T : Txt K mg) : Meth K (A_Before K) "renamed" (f_Equation_renamed K) := meth_same (of_decide_eq_true (T.fct 27 (f := .same "Before" "renamed" "Equation") rfl) : He.ma K (He.ga K "Before") "renamed" = He.ma K (He.ga K "Equation") "renamed") (He.meth_ok (T.fact 115 (f := .meth "Before" "renamed") rfl))
theorem Txt.m_Call_told (T : Txt K mg) : Meth K (A_Call K) "told" (f_Equation_told K) := meth_same (of_decide_eq_true (T.fct 28 (f := .same "Call" "told" "Equation") rfl) : He.ma K (He.ga K "Call") "told" = He.ma K (He.ga K "Equation") "told") (He.meth_ok (T.fact 116 (f := .meth "Call" "told") rfl))
theorem Txt.m_Call_tells (T : Txt K mg) : Meth K (A_Call K) "tells" (f_Call_tells K) := He.meth_ok (T.fact 117 (f := .meth "Call" "tells") rfl)
theorem Txt.m_Call_names (T : Txt K mg) : Meth K (A_Call K) "names" (f_Call_names K) := He.meth_ok (T.fact 118 (f := .meth "Call" "names") rfl)
theorem Txt.m_Call_term (T : Txt K mg) : Meth K (A_Call K) "term" (f_Equation_term K) := meth_same (of_decide_eq_true (T.fct 29 (f := .same "Call" "term" "Equation") rfl) : He.ma K (He.ga K "Call") "term" = He.ma K (He.ga K "Equation") "term") (He.meth_ok (T.fact 119 (f := .meth "Call" "term") rfl))
theorem Txt.m_Call_is_call (T : Txt K mg) : Meth K (A_Call K) "is_call" (f_Call_is_call K) := He.meth_ok (T.fact 120 (f := .meth "Call" "is_call") rfl)
theorem Txt.m_Node_take_tellers (T : Txt K mg) : Meth K (A_Node K) "take_tellers" (f_Node_take_tellers K) := He.meth_ok (T.fact 121 (f := .meth "Node" "take_tellers") rfl)
theorem Txt.m_Node_need_told (T : Txt K mg) : Meth K (A_Node K) "need_told" (f_Node_need_told K) := He.meth_ok (T.fact 122 (f := .meth "Node" "need_told") rfl)
theorem Txt.m_Node_inputs (T : Txt K mg) : Meth K (A_Node K) "inputs" (f_Node_inputs K) := He.meth_ok (T.fact 123 (f := .meth "Node" "inputs") rfl)
theorem Txt.m_Node_outs (T : Txt K mg) : Meth K (A_Node K) "outs" (f_Node_outs K) := He.meth_ok (T.fact 124 (f := .meth "Node" "outs") rfl)
theorem Txt.m_Node_rows (T : Txt K mg) : Meth K (A_Node K) "rows" (f_Node_rows K) := He.meth_ok (T.fact 125 (f := .meth "Node" "rows") rfl)
theorem Txt.m_Node_names (T : Txt K mg) : Meth K (A_Node K) "names" (f_Node_names K) := He.meth_ok (T.fact 126 (f := .meth "Node" "names") rfl)
theorem Txt.m_Program_named (T : Txt K mg) : Meth K (A_Program K) "named" (f_Program_named K) := He.meth_ok (T.fact 127 (f := .meth "Program" "named") rfl)
theorem Txt.m_Program_calls_in (T : Txt K mg) : Meth K (A_Program K) "calls_in" (f_Program_calls_in K) := He.meth_ok (T.fact 128 (f := .meth "Program" "calls_in") rfl)
theorem Txt.m_Program_below (T : Txt K mg) : Meth K (A_Program K) "below" (f_Program_below K) := He.meth_ok (T.fact 129 (f := .meth "Program" "below") rfl)
theorem Txt.m_Fit_named_outside (T : Txt K mg) : Meth K (A_Fit K) "named_outside" (f_Fit_named_outside K) := He.meth_ok (T.fact 130 (f := .meth "Fit" "named_outside") rfl)
theorem Txt.m_Fit_gifts (T : Txt K mg) : Meth K (A_Fit K) "gifts" (f_Fit_gifts K) := He.meth_ok (T.fact 131 (f := .meth "Fit" "gifts") rfl)
theorem Txt.m_Fit_gifts_reckoned (T : Txt K mg) : Meth K (A_Fit K) "gifts_reckoned" (f_Fit_gifts_reckoned K) := He.meth_ok (T.fact 132 (f := .meth "Fit" "gifts_reckoned") rfl)
theorem Txt.m_Fit_steps (T : Txt K mg) : Meth K (A_Fit K) "steps" (f_Fit_steps K) := He.meth_ok (T.fact 133 (f := .meth "Fit" "steps") rfl)
theorem Txt.m_Fit_checks (T : Txt K mg) : Meth K (A_Fit K) "checks" (f_Fit_checks K) := He.meth_ok (T.fact 134 (f := .meth "Fit" "checks") rfl)
theorem Txt.m_Fit_fit_clocks (T : Txt K mg) : Meth K (A_Fit K) "fit_clocks" (f_Fit_fit_clocks K) := He.meth_ok (T.fact 135 (f := .meth "Fit" "fit_clocks") rfl)
theorem Txt.m_Fit_readings (T : Txt K mg) : Meth K (A_Fit K) "readings" (f_Fit_readings K) := He.meth_ok (T.fact 136 (f := .meth "Fit" "readings") rfl)
theorem Txt.m_Fit_order (T : Txt K mg) : Meth K (A_Fit K) "order" (f_Fit_order K) := He.meth_ok (T.fact 137 (f := .meth "Fit" "order") rfl)
theorem Txt.m_Fit_led_from (T : Txt K mg) : Meth K (A_Fit K) "led_from" (f_Fit_led_from K) := He.meth_ok (T.fact 138 (f := .meth "Fit" "led_from") rfl)
theorem Txt.m_Fit_summary (T : Txt K mg) : Meth K (A_Fit K) "summary" (f_Fit_summary K) := He.meth_ok (T.fact 139 (f := .meth "Fit" "summary") rfl)
theorem Txt.m_Fit_summary_reckoned (T : Txt K mg) : Meth K (A_Fit K) "summary_reckoned" (f_Fit_summary_reckoned K) := He.meth_ok (T.fact 140 (f := .meth "Fit" "summary_reckoned") rfl)
theorem Txt.n_Name_name (T : Txt K mg) : NoAttr K (A_Name K) "name" := He.noat_ok (T.fact 141 (f := .noat "Name" "name") rfl)
theorem Txt.n_Two_op (T : Txt K mg) : NoAttr K (A_Two K) "op" := He.noat_ok (T.fact 142 (f := .noat "Two" "op") rfl)
theorem Txt.n_Two_one (T : Txt K mg) : NoAttr K (A_Two K) "one" := He.noat_ok (T.fact 143 (f := .noat "Two" "one") rfl)
theorem Txt.n_Two_second (T : Txt K mg) : NoAttr K (A_Two K) "second" := He.noat_ok (T.fact 144 (f := .noat "Two" "second") rfl)
theorem Txt.n_Plain_told_row (T : Txt K mg) : NoAttr K (A_Plain K) "told_row" := He.noat_ok (T.fact 145 (f := .noat "Plain" "told_row") rfl)
theorem Txt.n_Before_told_row (T : Txt K mg) : NoAttr K (A_Before K) "told_row" := He.noat_ok (T.fact 146 (f := .noat "Before" "told_row") rfl)
theorem Txt.n_Call_told_row (T : Txt K mg) : NoAttr K (A_Call K) "told_row" := He.noat_ok (T.fact 147 (f := .noat "Call" "told_row") rfl)
theorem Txt.n_Plain_kept_term (T : Txt K mg) : NoAttr K (A_Plain K) "kept_term" := He.noat_ok (T.fact 148 (f := .noat "Plain" "kept_term") rfl)
theorem Txt.n_Node_name (T : Txt K mg) : NoAttr K (A_Node K) "name" := He.noat_ok (T.fact 149 (f := .noat "Node" "name") rfl)
theorem Txt.n_Node_kept_inputs (T : Txt K mg) : NoAttr K (A_Node K) "kept_inputs" := He.noat_ok (T.fact 150 (f := .noat "Node" "kept_inputs") rfl)
theorem Txt.n_Node_kept_outs (T : Txt K mg) : NoAttr K (A_Node K) "kept_outs" := He.noat_ok (T.fact 151 (f := .noat "Node" "kept_outs") rfl)
theorem Txt.n_Node_kept_rows (T : Txt K mg) : NoAttr K (A_Node K) "kept_rows" := He.noat_ok (T.fact 152 (f := .noat "Node" "kept_rows") rfl)
theorem Txt.n_Node_tellers (T : Txt K mg) : NoAttr K (A_Node K) "tellers" := He.noat_ok (T.fact 153 (f := .noat "Node" "tellers") rfl)
theorem Txt.n_Program_by_name (T : Txt K mg) : NoAttr K (A_Program K) "by_name" := He.noat_ok (T.fact 154 (f := .noat "Program" "by_name") rfl)
theorem Txt.n_Fit_ground (T : Txt K mg) : NoAttr K (A_Fit K) "ground" := He.noat_ok (T.fact 155 (f := .noat "Fit" "ground") rfl)
theorem Txt.n_Fit_known (T : Txt K mg) : NoAttr K (A_Fit K) "known" := He.noat_ok (T.fact 156 (f := .noat "Fit" "known") rfl)
theorem Txt.n_Fit_clocks (T : Txt K mg) : NoAttr K (A_Fit K) "clocks" := He.noat_ok (T.fact 157 (f := .noat "Fit" "clocks") rfl)
theorem Txt.n_Fit_reads (T : Txt K mg) : NoAttr K (A_Fit K) "reads" := He.noat_ok (T.fact 158 (f := .noat "Fit" "reads") rfl)
theorem Txt.n_Fit_all_gifts (T : Txt K mg) : NoAttr K (A_Fit K) "all_gifts" := He.noat_ok (T.fact 159 (f := .noat "Fit" "all_gifts") rfl)
theorem Txt.n_Fit_own_summary (T : Txt K mg) : NoAttr K (A_Fit K) "own_summary" := He.noat_ok (T.fact 160 (f := .noat "Fit" "own_summary") rfl)
theorem Txt.n_Unknown_name (T : Txt K mg) : NoAttr K (A_Unknown K) "name" := He.noat_ok (T.fact 161 (f := .noat "Unknown" "name") rfl)
theorem Txt.n_TooMany_many (T : Txt K mg) : NoAttr K (A_TooMany K) "many" := He.noat_ok (T.fact 162 (f := .noat "TooMany" "many") rfl)
theorem Txt.i_LONGEST (T : Txt K mg) : ∃ t, mg "LONGEST" = some (.int 8 t) := T.int (T.fact 163 (f := .int "LONGEST" 8) rfl)
theorem Txt.i_MOST_SIGNS (T : Txt K mg) : ∃ t, mg "MOST_SIGNS" = some (.int 80 t) := T.int (T.fact 164 (f := .int "MOST_SIGNS" 80) rfl)
theorem Txt.i_MOST (T : Txt K mg) : ∃ t, mg "MOST" = some (.int 1000000000 t) := T.int (T.fact 165 (f := .int "MOST" 1000000000) rfl)
theorem Txt.i_MOST_LEVELS (T : Txt K mg) : ∃ t, mg "MOST_LEVELS" = some (.int 5 t) := T.int (T.fact 166 (f := .int "MOST_LEVELS" 5) rfl)
theorem Txt.i_TOLD_THINGS (T : Txt K mg) : ∃ t, mg "TOLD_THINGS" = some (.int 4 t) := T.int (T.fact 167 (f := .int "TOLD_THINGS" 4) rfl)
theorem Txt.i_MOST_NAMES (T : Txt K mg) : ∃ t, mg "MOST_NAMES" = some (.int 200 t) := T.int (T.fact 168 (f := .int "MOST_NAMES" 200) rfl)
theorem Txt.s_LETTERS (T : Txt K mg) : ∃ t, mg "LETTERS" = some (.str "abcdefghijklmnopqrstuvwxyz" t) := T.str (T.fact 169 (f := .str "LETTERS" "abcdefghijklmnopqrstuvwxyz") rfl)
def ownVs : List V := [.str "node", .str "in", .str "out", .str "before", .str "when", .str "hold", .str "like", .str "same", .str "call", .str "true", .str "false", .str "mod", .str "beat", .str "desk"]
def opsVs : List V := [.str "+", .str "-", .str "*", .str "/", .str "mod", .str "<", .str "=", .str "&", .str "|"]
theorem Txt.t_OWN (T : Txt K mg) : mg "OWN" = some (.ref (He.ga K "OWN")) ∧ ∀ H : Hp, SqT K H (He.ga K "OWN") ownVs := T.tup (x := "OWN") (T.fct 0 rfl)
theorem Txt.t_OPS (T : Txt K mg) : mg "OPS" = some (.ref (He.ga K "OPS")) ∧ ∀ H : Hp, SqT K H (He.ga K "OPS") opsVs := T.tup (x := "OPS") (T.fct 1 rfl)
theorem Txt.ty_Name (T : Txt K mg) {H : Hp} {a dx : Addr} {fs : List (Str × V)} (e : H a = some (.ins (A_Name K) dx fs)) : TyOf K H (.ref a) (.ref (A_Name K)) := by
  have h := T.fct 2 (f := .inst "Name") rfl
  obtain ⟨h1, h⟩ := He.ba h
  obtain ⟨h2, h⟩ := He.ba h
  obtain ⟨h3, h⟩ := He.ba h
  obtain ⟨h4, h5⟩ := He.ba h
  exact .ins e T.c_Name (of_decide_eq_true h1) (of_decide_eq_true h2) (of_decide_eq_true h3) (of_decide_eq_true h4)
theorem Txt.ne_Name (T : Txt K mg) {H : Hp} {a dx : Addr} {fs : List (Str × V)} (e : H a = some (.ins (A_Name K) dx fs)) : NoneOr K H (.ref a) := by
  have h := T.fct 2 (f := .inst "Name") rfl
  obtain ⟨h1, h⟩ := He.ba h
  obtain ⟨h2, h⟩ := He.ba h
  obtain ⟨h3, h⟩ := He.ba h
  obtain ⟨h4, h5⟩ := He.ba h
  exact .inr ⟨_, _, _, _, rfl, e, of_decide_eq_true h4, of_decide_eq_true h5⟩
theorem Txt.ty_Two (T : Txt K mg) {H : Hp} {a dx : Addr} {fs : List (Str × V)} (e : H a = some (.ins (A_Two K) dx fs)) : TyOf K H (.ref a) (.ref (A_Two K)) := by
  have h := T.fct 3 (f := .inst "Two") rfl
  obtain ⟨h1, h⟩ := He.ba h
  obtain ⟨h2, h⟩ := He.ba h
  obtain ⟨h3, h⟩ := He.ba h
  obtain ⟨h4, h5⟩ := He.ba h
  exact .ins e T.c_Two (of_decide_eq_true h1) (of_decide_eq_true h2) (of_decide_eq_true h3) (of_decide_eq_true h4)
theorem Txt.ne_Two (T : Txt K mg) {H : Hp} {a dx : Addr} {fs : List (Str × V)} (e : H a = some (.ins (A_Two K) dx fs)) : NoneOr K H (.ref a) := by
  have h := T.fct 3 (f := .inst "Two") rfl
  obtain ⟨h1, h⟩ := He.ba h
  obtain ⟨h2, h⟩ := He.ba h
  obtain ⟨h3, h⟩ := He.ba h
  obtain ⟨h4, h5⟩ := He.ba h
  exact .inr ⟨_, _, _, _, rfl, e, of_decide_eq_true h4, of_decide_eq_true h5⟩
theorem Txt.ty_Plain (T : Txt K mg) {H : Hp} {a dx : Addr} {fs : List (Str × V)} (e : H a = some (.ins (A_Plain K) dx fs)) : TyOf K H (.ref a) (.ref (A_Plain K)) := by
  have h := T.fct 4 (f := .inst "Plain") rfl
  obtain ⟨h1, h⟩ := He.ba h
  obtain ⟨h2, h⟩ := He.ba h
  obtain ⟨h3, h⟩ := He.ba h
  obtain ⟨h4, h5⟩ := He.ba h
  exact .ins e T.c_Plain (of_decide_eq_true h1) (of_decide_eq_true h2) (of_decide_eq_true h3) (of_decide_eq_true h4)
theorem Txt.ne_Plain (T : Txt K mg) {H : Hp} {a dx : Addr} {fs : List (Str × V)} (e : H a = some (.ins (A_Plain K) dx fs)) : NoneOr K H (.ref a) := by
  have h := T.fct 4 (f := .inst "Plain") rfl
  obtain ⟨h1, h⟩ := He.ba h
  obtain ⟨h2, h⟩ := He.ba h
  obtain ⟨h3, h⟩ := He.ba h
  obtain ⟨h4, h5⟩ := He.ba h
  exact .inr ⟨_, _, _, _, rfl, e, of_decide_eq_true h4, of_decide_eq_true h5⟩
theorem Txt.ty_Before (T : Txt K mg) {H : Hp} {a dx : Addr} {fs : List (Str × V)} (e : H a = some (.ins (A_Before K) dx fs)) : TyOf K H (.ref a) (.ref (A_Before K)) := by
  have h := T.fct 5 (f := .inst "Before") rfl
  obtain ⟨h1, h⟩ := He.ba h
  obtain ⟨h2, h⟩ := He.ba h
  obtain ⟨h3, h⟩ := He.ba h
  obtain ⟨h4, h5⟩ := He.ba h
  exact .ins e T.c_Before (of_decide_eq_true h1) (of_decide_eq_true h2) (of_decide_eq_true h3) (of_decide_eq_true h4)
theorem Txt.ne_Before (T : Txt K mg) {H : Hp} {a dx : Addr} {fs : List (Str × V)} (e : H a = some (.ins (A_Before K) dx fs)) : NoneOr K H (.ref a) := by
  have h := T.fct 5 (f := .inst "Before") rfl
  obtain ⟨h1, h⟩ := He.ba h
  obtain ⟨h2, h⟩ := He.ba h
  obtain ⟨h3, h⟩ := He.ba h
  obtain ⟨h4, h5⟩ := He.ba h
  exact .inr ⟨_, _, _, _, rfl, e, of_decide_eq_true h4, of_decide_eq_true h5⟩
theorem Txt.ty_Call (T : Txt K mg) {H : Hp} {a dx : Addr} {fs : List (Str × V)} (e : H a = some (.ins (A_Call K) dx fs)) : TyOf K H (.ref a) (.ref (A_Call K)) := by
  have h := T.fct 6 (f := .inst "Call") rfl
  obtain ⟨h1, h⟩ := He.ba h
  obtain ⟨h2, h⟩ := He.ba h
  obtain ⟨h3, h⟩ := He.ba h
  obtain ⟨h4, h5⟩ := He.ba h
  exact .ins e T.c_Call (of_decide_eq_true h1) (of_decide_eq_true h2) (of_decide_eq_true h3) (of_decide_eq_true h4)
theorem Txt.ne_Call (T : Txt K mg) {H : Hp} {a dx : Addr} {fs : List (Str × V)} (e : H a = some (.ins (A_Call K) dx fs)) : NoneOr K H (.ref a) := by
  have h := T.fct 6 (f := .inst "Call") rfl
  obtain ⟨h1, h⟩ := He.ba h
  obtain ⟨h2, h⟩ := He.ba h
  obtain ⟨h3, h⟩ := He.ba h
  obtain ⟨h4, h5⟩ := He.ba h
  exact .inr ⟨_, _, _, _, rfl, e, of_decide_eq_true h4, of_decide_eq_true h5⟩
theorem Txt.ty_Node (T : Txt K mg) {H : Hp} {a dx : Addr} {fs : List (Str × V)} (e : H a = some (.ins (A_Node K) dx fs)) : TyOf K H (.ref a) (.ref (A_Node K)) := by
  have h := T.fct 7 (f := .inst "Node") rfl
  obtain ⟨h1, h⟩ := He.ba h
  obtain ⟨h2, h⟩ := He.ba h
  obtain ⟨h3, h⟩ := He.ba h
  obtain ⟨h4, h5⟩ := He.ba h
  exact .ins e T.c_Node (of_decide_eq_true h1) (of_decide_eq_true h2) (of_decide_eq_true h3) (of_decide_eq_true h4)
theorem Txt.ne_Node (T : Txt K mg) {H : Hp} {a dx : Addr} {fs : List (Str × V)} (e : H a = some (.ins (A_Node K) dx fs)) : NoneOr K H (.ref a) := by
  have h := T.fct 7 (f := .inst "Node") rfl
  obtain ⟨h1, h⟩ := He.ba h
  obtain ⟨h2, h⟩ := He.ba h
  obtain ⟨h3, h⟩ := He.ba h
  obtain ⟨h4, h5⟩ := He.ba h
  exact .inr ⟨_, _, _, _, rfl, e, of_decide_eq_true h4, of_decide_eq_true h5⟩
theorem Txt.ty_Program (T : Txt K mg) {H : Hp} {a dx : Addr} {fs : List (Str × V)} (e : H a = some (.ins (A_Program K) dx fs)) : TyOf K H (.ref a) (.ref (A_Program K)) := by
  have h := T.fct 8 (f := .inst "Program") rfl
  obtain ⟨h1, h⟩ := He.ba h
  obtain ⟨h2, h⟩ := He.ba h
  obtain ⟨h3, h⟩ := He.ba h
  obtain ⟨h4, h5⟩ := He.ba h
  exact .ins e T.c_Program (of_decide_eq_true h1) (of_decide_eq_true h2) (of_decide_eq_true h3) (of_decide_eq_true h4)
theorem Txt.ne_Program (T : Txt K mg) {H : Hp} {a dx : Addr} {fs : List (Str × V)} (e : H a = some (.ins (A_Program K) dx fs)) : NoneOr K H (.ref a) := by
  have h := T.fct 8 (f := .inst "Program") rfl
  obtain ⟨h1, h⟩ := He.ba h
  obtain ⟨h2, h⟩ := He.ba h
  obtain ⟨h3, h⟩ := He.ba h
  obtain ⟨h4, h5⟩ := He.ba h
  exact .inr ⟨_, _, _, _, rfl, e, of_decide_eq_true h4, of_decide_eq_true h5⟩
theorem Txt.ty_Fit (T : Txt K mg) {H : Hp} {a dx : Addr} {fs : List (Str × V)} (e : H a = some (.ins (A_Fit K) dx fs)) : TyOf K H (.ref a) (.ref (A_Fit K)) := by
  have h := T.fct 9 (f := .inst "Fit") rfl
  obtain ⟨h1, h⟩ := He.ba h
  obtain ⟨h2, h⟩ := He.ba h
  obtain ⟨h3, h⟩ := He.ba h
  obtain ⟨h4, h5⟩ := He.ba h
  exact .ins e T.c_Fit (of_decide_eq_true h1) (of_decide_eq_true h2) (of_decide_eq_true h3) (of_decide_eq_true h4)
theorem Txt.ne_Fit (T : Txt K mg) {H : Hp} {a dx : Addr} {fs : List (Str × V)} (e : H a = some (.ins (A_Fit K) dx fs)) : NoneOr K H (.ref a) := by
  have h := T.fct 9 (f := .inst "Fit") rfl
  obtain ⟨h1, h⟩ := He.ba h
  obtain ⟨h2, h⟩ := He.ba h
  obtain ⟨h3, h⟩ := He.ba h
  obtain ⟨h4, h5⟩ := He.ba h
  exact .inr ⟨_, _, _, _, rfl, e, of_decide_eq_true h4, of_decide_eq_true h5⟩
theorem Txt.k_Name_Term (T : Txt K mg) : PySem.W.kitOne K (.ref (A_Name K)) (.ref (A_Term K)) = some true := of_decide_eq_true (T.fct 10 (f := .kit "Name" "Term") rfl)
theorem Txt.k_Two_Term (T : Txt K mg) : PySem.W.kitOne K (.ref (A_Two K)) (.ref (A_Term K)) = some true := of_decide_eq_true (T.fct 11 (f := .kit "Two" "Term") rfl)
theorem Txt.k_Node_Node (T : Txt K mg) : PySem.W.kitOne K (.ref (A_Node K)) (.ref (A_Node K)) = some true := of_decide_eq_true (T.fct 12 (f := .kit "Node" "Node") rfl)
theorem Txt.ne_Node_Name (T : Txt K mg) : A_Node K ≠ A_Name K := of_decide_eq_true (T.fct 36 (f := .ne "Node" "Name") rfl)
theorem Txt.ne_Node_Two (T : Txt K mg) : A_Node K ≠ A_Two K := of_decide_eq_true (T.fct 37 (f := .ne "Node" "Two") rfl)
theorem Txt.ne_Node_Before (T : Txt K mg) : A_Node K ≠ A_Before K := of_decide_eq_true (T.fct 38 (f := .ne "Node" "Before") rfl)
theorem Txt.ne_Node_Call (T : Txt K mg) : A_Node K ≠ A_Call K := of_decide_eq_true (T.fct 39 (f := .ne "Node" "Call") rfl)
theorem Txt.ne_Node_Plain (T : Txt K mg) : A_Node K ≠ A_Plain K := of_decide_eq_true (T.fct 40 (f := .ne "Node" "Plain") rfl)
theorem Txt.F_is_whole (T : Txt K mg) : FN K "is_whole" "is_whole" s_is_whole (f_is_whole K) := by
  obtain ⟨fd, F⟩ := T.dfn 0 (d := d_is_whole) rfl
  exact FunD.at' F
theorem Txt.F_is_within (T : Txt K mg) : FN K "is_within" "is_within" s_is_within (f_is_within K) := by
  obtain ⟨fd, F⟩ := T.dfn 1 (d := d_is_within) rfl
  exact FunD.at' F
theorem Txt.F_is_name (T : Txt K mg) : FN K "is_name" "is_name" s_is_name (f_is_name K) := by
  obtain ⟨fd, F⟩ := T.dfn 2 (d := d_is_name) rfl
  exact FunD.at' F
theorem Txt.F_is_pointed (T : Txt K mg) : FN K "is_pointed" "is_pointed" s_is_pointed (f_is_pointed K) := by
  obtain ⟨fd, F⟩ := T.dfn 3 (d := d_is_pointed) rfl
  exact FunD.at' F
theorem Txt.F_is_value (T : Txt K mg) : FN K "is_value" "is_value" s_is_value (f_is_value K) := by
  obtain ⟨fd, F⟩ := T.dfn 4 (d := d_is_value) rfl
  exact FunD.at' F
theorem Txt.F_ops_told (T : Txt K mg) : FN K "ops_told" "ops_told" s_ops_told (f_ops_told K) := by
  obtain ⟨fd, F⟩ := T.dfn 5 (d := d_ops_told) rfl
  exact FunD.at' F
theorem Txt.F_Term_parts (T : Txt K mg) : FN K "parts" "Term.parts" s_Term_parts (f_Term_parts K) := by
  obtain ⟨fd, F⟩ := T.dfn 6 (d := d_Term_parts) rfl
  exact FunD.at' F
theorem Txt.F_Term_names (T : Txt K mg) : FN K "names" "Term.names" s_Term_names (f_Term_names K) := by
  obtain ⟨fd, F⟩ := T.dfn 7 (d := d_Term_names) rfl
  exact FunD.at' F
theorem Txt.F_Term_levels (T : Txt K mg) : FN K "levels" "Term.levels" s_Term_levels (f_Term_levels K) := by
  obtain ⟨fd, F⟩ := T.dfn 8 (d := d_Term_levels) rfl
  exact FunD.at' F
theorem Txt.F_need_term (T : Txt K mg) : FN K "need_term" "need_term" s_need_term (f_need_term K) := by
  obtain ⟨fd, F⟩ := T.dfn 9 (d := d_need_term) rfl
  exact FunD.at' F
theorem Txt.F_Name_init (T : Txt K mg) : FN K "__init__" "Name.__init__" s_Name_init (f_Name_init K) := by
  obtain ⟨fd, F⟩ := T.dfn 10 (d := d_Name_init) rfl
  exact FunD.at' F
theorem Txt.F_Name_names (T : Txt K mg) : FN K "names" "Name.names" s_Name_names (f_Name_names K) := by
  obtain ⟨fd, F⟩ := T.dfn 11 (d := d_Name_names) rfl
  exact FunD.at' F
theorem Txt.F_Name_renamed (T : Txt K mg) : FN K "renamed" "Name.renamed" s_Name_renamed (f_Name_renamed K) := by
  obtain ⟨fd, F⟩ := T.dfn 12 (d := d_Name_renamed) rfl
  exact FunD.at' F
theorem Txt.F_Name_told (T : Txt K mg) : FN K "told" "Name.told" s_Name_told (f_Name_told K) := by
  obtain ⟨fd, F⟩ := T.dfn 13 (d := d_Name_told) rfl
  exact FunD.at' F
theorem Txt.F_Two_init (T : Txt K mg) : FN K "__init__" "Two.__init__" s_Two_init (f_Two_init K) := by
  obtain ⟨fd, F⟩ := T.dfn 14 (d := d_Two_init) rfl
  exact FunD.at' F
theorem Txt.F_Two_parts (T : Txt K mg) : FN K "parts" "Two.parts" s_Two_parts (f_Two_parts K) := by
  obtain ⟨fd, F⟩ := T.dfn 15 (d := d_Two_parts) rfl
  exact FunD.at' F
theorem Txt.F_Two_renamed (T : Txt K mg) : FN K "renamed" "Two.renamed" s_Two_renamed (f_Two_renamed K) := by
  obtain ⟨fd, F⟩ := T.dfn 16 (d := d_Two_renamed) rfl
  exact FunD.at' F
theorem Txt.F_Two_told (T : Txt K mg) : FN K "told" "Two.told" s_Two_told (f_Two_told K) := by
  obtain ⟨fd, F⟩ := T.dfn 17 (d := d_Two_told) rfl
  exact FunD.at' F
theorem Txt.F_simple_of (T : Txt K mg) : FN K "simple_of" "simple_of" s_simple_of (f_simple_of K) := by
  obtain ⟨fd, F⟩ := T.dfn 18 (d := d_simple_of) rfl
  exact FunD.at' F
theorem Txt.F_made_of_told (T : Txt K mg) : FN K "made_of_told" "made_of_told" s_made_of_told (f_made_of_told K) := by
  obtain ⟨fd, F⟩ := T.dfn 19 (d := d_made_of_told) rfl
  exact FunD.at' F
theorem Txt.F_term_of (T : Txt K mg) : FN K "term_of" "term_of" s_term_of (f_term_of K) := by
  obtain ⟨fd, F⟩ := T.dfn 20 (d := d_term_of) rfl
  exact FunD.at' F
theorem Txt.F_new_name (T : Txt K mg) : FN K "new_name" "new_name" s_new_name (f_new_name K) := by
  obtain ⟨fd, F⟩ := T.dfn 21 (d := d_new_name) rfl
  exact FunD.at' F
theorem Txt.F_each_once (T : Txt K mg) : FN K "each_once" "each_once" s_each_once (f_each_once K) := by
  obtain ⟨fd, F⟩ := T.dfn 22 (d := d_each_once) rfl
  exact FunD.at' F
theorem Txt.F_Equation_init (T : Txt K mg) : FN K "__init__" "Equation.__init__" s_Equation_init (f_Equation_init K) := by
  obtain ⟨fd, F⟩ := T.dfn 23 (d := d_Equation_init) rfl
  exact FunD.at' F
theorem Txt.F_Equation_told (T : Txt K mg) : FN K "told" "Equation.told" s_Equation_told (f_Equation_told K) := by
  obtain ⟨fd, F⟩ := T.dfn 24 (d := d_Equation_told) rfl
  exact FunD.at' F
theorem Txt.F_Equation_tells (T : Txt K mg) : FN K "tells" "Equation.tells" s_Equation_tells (f_Equation_tells K) := by
  obtain ⟨fd, F⟩ := T.dfn 25 (d := d_Equation_tells) rfl
  exact FunD.at' F
theorem Txt.F_Equation_names (T : Txt K mg) : FN K "names" "Equation.names" s_Equation_names (f_Equation_names K) := by
  obtain ⟨fd, F⟩ := T.dfn 26 (d := d_Equation_names) rfl
  exact FunD.at' F
theorem Txt.F_Equation_term (T : Txt K mg) : FN K "term" "Equation.term" s_Equation_term (f_Equation_term K) := by
  obtain ⟨fd, F⟩ := T.dfn 27 (d := d_Equation_term) rfl
  exact FunD.at' F
theorem Txt.F_Equation_is_call (T : Txt K mg) : FN K "is_call" "Equation.is_call" s_Equation_is_call (f_Equation_is_call K) := by
  obtain ⟨fd, F⟩ := T.dfn 28 (d := d_Equation_is_call) rfl
  exact FunD.at' F
theorem Txt.F_Equation_put_otherwise (T : Txt K mg) : FN K "put_otherwise" "Equation.put_otherwise" s_Equation_put_otherwise (f_Equation_put_otherwise K) := by
  obtain ⟨fd, F⟩ := T.dfn 29 (d := d_Equation_put_otherwise) rfl
  exact FunD.at' F
theorem Txt.F_Equation_renamed (T : Txt K mg) : FN K "renamed" "Equation.renamed" s_Equation_renamed (f_Equation_renamed K) := by
  obtain ⟨fd, F⟩ := T.dfn 30 (d := d_Equation_renamed) rfl
  exact FunD.at' F
theorem Txt.F_Plain_init (T : Txt K mg) : FN K "__init__" "Plain.__init__" s_Plain_init (f_Plain_init K) := by
  obtain ⟨fd, F⟩ := T.dfn 31 (d := d_Plain_init) rfl
  exact FunD.at' F
theorem Txt.F_Plain_names (T : Txt K mg) : FN K "names" "Plain.names" s_Plain_names (f_Plain_names K) := by
  obtain ⟨fd, F⟩ := T.dfn 32 (d := d_Plain_names) rfl
  exact FunD.at' F
theorem Txt.F_Plain_term (T : Txt K mg) : FN K "term" "Plain.term" s_Plain_term (f_Plain_term K) := by
  obtain ⟨fd, F⟩ := T.dfn 33 (d := d_Plain_term) rfl
  exact FunD.at' F
theorem Txt.F_Plain_put_otherwise (T : Txt K mg) : FN K "put_otherwise" "Plain.put_otherwise" s_Plain_put_otherwise (f_Plain_put_otherwise K) := by
  obtain ⟨fd, F⟩ := T.dfn 34 (d := d_Plain_put_otherwise) rfl
  exact FunD.at' F
theorem Txt.F_Call_tells (T : Txt K mg) : FN K "tells" "Call.tells" s_Call_tells (f_Call_tells K) := by
  obtain ⟨fd, F⟩ := T.dfn 35 (d := d_Call_tells) rfl
  exact FunD.at' F
theorem Txt.F_Call_names (T : Txt K mg) : FN K "names" "Call.names" s_Call_names (f_Call_names K) := by
  obtain ⟨fd, F⟩ := T.dfn 36 (d := d_Call_names) rfl
  exact FunD.at' F
theorem Txt.F_Call_is_call (T : Txt K mg) : FN K "is_call" "Call.is_call" s_Call_is_call (f_Call_is_call K) := by
  obtain ⟨fd, F⟩ := T.dfn 37 (d := d_Call_is_call) rfl
  exact FunD.at' F
theorem Txt.F_are_pointed (T : Txt K mg) : FN K "are_pointed" "are_pointed" s_are_pointed (f_are_pointed K) := by
  obtain ⟨fd, F⟩ := T.dfn 38 (d := d_are_pointed) rfl
  exact FunD.at' F
theorem Txt.F_is_valued (T : Txt K mg) : FN K "is_valued" "is_valued" s_is_valued (f_is_valued K) := by
  obtain ⟨fd, F⟩ := T.dfn 39 (d := d_is_valued) rfl
  exact FunD.at' F
theorem Txt.F_plain_of (T : Txt K mg) : FN K "plain_of" "plain_of" s_plain_of (f_plain_of K) := by
  obtain ⟨fd, F⟩ := T.dfn 40 (d := d_plain_of) rfl
  exact FunD.at' F
theorem Txt.F_valued_of (T : Txt K mg) : FN K "valued_of" "valued_of" s_valued_of (f_valued_of K) := by
  obtain ⟨fd, F⟩ := T.dfn 41 (d := d_valued_of) rfl
  exact FunD.at' F
theorem Txt.F_call_of (T : Txt K mg) : FN K "call_of" "call_of" s_call_of (f_call_of K) := by
  obtain ⟨fd, F⟩ := T.dfn 42 (d := d_call_of) rfl
  exact FunD.at' F
theorem Txt.F_made_of (T : Txt K mg) : FN K "made_of" "made_of" s_made_of (f_made_of K) := by
  obtain ⟨fd, F⟩ := T.dfn 43 (d := d_made_of) rfl
  exact FunD.at' F
theorem Txt.F_equation_of (T : Txt K mg) : FN K "equation_of" "equation_of" s_equation_of (f_equation_of K) := by
  obtain ⟨fd, F⟩ := T.dfn 44 (d := d_equation_of) rfl
  exact FunD.at' F
theorem Txt.F_need_names (T : Txt K mg) : FN K "need_names" "need_names" s_need_names (f_need_names K) := by
  obtain ⟨fd, F⟩ := T.dfn 45 (d := d_need_names) rfl
  exact FunD.at' F
theorem Txt.F_equations_of (T : Txt K mg) : FN K "equations_of" "equations_of" s_equations_of (f_equations_of K) := by
  obtain ⟨fd, F⟩ := T.dfn 46 (d := d_equations_of) rfl
  exact FunD.at' F
theorem Txt.F_Node_init (T : Txt K mg) : FN K "__init__" "Node.__init__" s_Node_init (f_Node_init K) := by
  obtain ⟨fd, F⟩ := T.dfn 47 (d := d_Node_init) rfl
  exact FunD.at' F
theorem Txt.F_Node_take_tellers (T : Txt K mg) : FN K "take_tellers" "Node.take_tellers" s_Node_take_tellers (f_Node_take_tellers K) := by
  obtain ⟨fd, F⟩ := T.dfn 48 (d := d_Node_take_tellers) rfl
  exact FunD.at' F
theorem Txt.F_Node_need_told (T : Txt K mg) : FN K "need_told" "Node.need_told" s_Node_need_told (f_Node_need_told K) := by
  obtain ⟨fd, F⟩ := T.dfn 49 (d := d_Node_need_told) rfl
  exact FunD.at' F
theorem Txt.F_Node_inputs (T : Txt K mg) : FN K "inputs" "Node.inputs" s_Node_inputs (f_Node_inputs K) := by
  obtain ⟨fd, F⟩ := T.dfn 50 (d := d_Node_inputs) rfl
  exact FunD.at' F
theorem Txt.F_Node_outs (T : Txt K mg) : FN K "outs" "Node.outs" s_Node_outs (f_Node_outs K) := by
  obtain ⟨fd, F⟩ := T.dfn 51 (d := d_Node_outs) rfl
  exact FunD.at' F
theorem Txt.F_Node_rows (T : Txt K mg) : FN K "rows" "Node.rows" s_Node_rows (f_Node_rows K) := by
  obtain ⟨fd, F⟩ := T.dfn 52 (d := d_Node_rows) rfl
  exact FunD.at' F
theorem Txt.F_Node_names (T : Txt K mg) : FN K "names" "Node.names" s_Node_names (f_Node_names K) := by
  obtain ⟨fd, F⟩ := T.dfn 53 (d := d_Node_names) rfl
  exact FunD.at' F
theorem Txt.F_node_of (T : Txt K mg) : FN K "node_of" "node_of" s_node_of (f_node_of K) := by
  obtain ⟨fd, F⟩ := T.dfn 54 (d := d_node_of) rfl
  exact FunD.at' F
theorem Txt.F_how_many (T : Txt K mg) : FN K "how_many" "how_many" s_how_many (f_how_many K) := by
  obtain ⟨fd, F⟩ := T.dfn 55 (d := d_how_many) rfl
  exact FunD.at' F
theorem Txt.F_need_few (T : Txt K mg) : FN K "need_few" "need_few" s_need_few (f_need_few K) := by
  obtain ⟨fd, F⟩ := T.dfn 56 (d := d_need_few) rfl
  exact FunD.at' F
theorem Txt.F_once_each (T : Txt K mg) : FN K "once_each" "once_each" s_once_each (f_once_each K) := by
  obtain ⟨fd, F⟩ := T.dfn 57 (d := d_once_each) rfl
  exact FunD.at' F
theorem Txt.F_call_rows (T : Txt K mg) : FN K "call_rows" "call_rows" s_call_rows (f_call_rows K) := by
  obtain ⟨fd, F⟩ := T.dfn 58 (d := d_call_rows) rfl
  exact FunD.at' F
theorem Txt.F_rows_out (T : Txt K mg) : FN K "rows_out" "rows_out" s_rows_out (f_rows_out K) := by
  obtain ⟨fd, F⟩ := T.dfn 59 (d := d_rows_out) rfl
  exact FunD.at' F
theorem Txt.F_written_out (T : Txt K mg) : FN K "written_out" "written_out" s_written_out (f_written_out K) := by
  obtain ⟨fd, F⟩ := T.dfn 60 (d := d_written_out) rfl
  exact FunD.at' F
theorem Txt.F_need_calls (T : Txt K mg) : FN K "need_calls" "need_calls" s_need_calls (f_need_calls K) := by
  obtain ⟨fd, F⟩ := T.dfn 61 (d := d_need_calls) rfl
  exact FunD.at' F
theorem Txt.F_need_nodes (T : Txt K mg) : FN K "need_nodes" "need_nodes" s_need_nodes (f_need_nodes K) := by
  obtain ⟨fd, F⟩ := T.dfn 62 (d := d_need_nodes) rfl
  exact FunD.at' F
theorem Txt.F_Program_init (T : Txt K mg) : FN K "__init__" "Program.__init__" s_Program_init (f_Program_init K) := by
  obtain ⟨fd, F⟩ := T.dfn 63 (d := d_Program_init) rfl
  exact FunD.at' F
theorem Txt.F_Program_named (T : Txt K mg) : FN K "named" "Program.named" s_Program_named (f_Program_named K) := by
  obtain ⟨fd, F⟩ := T.dfn 64 (d := d_Program_named) rfl
  exact FunD.at' F
theorem Txt.F_Program_calls_in (T : Txt K mg) : FN K "calls_in" "Program.calls_in" s_Program_calls_in (f_Program_calls_in K) := by
  obtain ⟨fd, F⟩ := T.dfn 65 (d := d_Program_calls_in) rfl
  exact FunD.at' F
theorem Txt.F_Program_below (T : Txt K mg) : FN K "below" "Program.below" s_Program_below (f_Program_below K) := by
  obtain ⟨fd, F⟩ := T.dfn 66 (d := d_Program_below) rfl
  exact FunD.at' F
theorem Txt.F_steps_from (T : Txt K mg) : FN K "steps_from" "steps_from" s_steps_from (f_steps_from K) := by
  obtain ⟨fd, F⟩ := T.dfn 67 (d := d_steps_from) rfl
  exact FunD.at' F
theorem Txt.F_ranked (T : Txt K mg) : FN K "ranked" "ranked" s_ranked (f_ranked K) := by
  obtain ⟨fd, F⟩ := T.dfn 68 (d := d_ranked) rfl
  exact FunD.at' F
theorem Txt.F_Fit_init (T : Txt K mg) : FN K "__init__" "Fit.__init__" s_Fit_init (f_Fit_init K) := by
  obtain ⟨fd, F⟩ := T.dfn 69 (d := d_Fit_init) rfl
  exact FunD.at' F
theorem Txt.F_Fit_named_outside (T : Txt K mg) : FN K "named_outside" "Fit.named_outside" s_Fit_named_outside (f_Fit_named_outside K) := by
  obtain ⟨fd, F⟩ := T.dfn 70 (d := d_Fit_named_outside) rfl
  exact FunD.at' F
theorem Txt.F_Fit_gifts (T : Txt K mg) : FN K "gifts" "Fit.gifts" s_Fit_gifts (f_Fit_gifts K) := by
  obtain ⟨fd, F⟩ := T.dfn 71 (d := d_Fit_gifts) rfl
  exact FunD.at' F
theorem Txt.F_Fit_gifts_reckoned (T : Txt K mg) : FN K "gifts_reckoned" "Fit.gifts_reckoned" s_Fit_gifts_reckoned (f_Fit_gifts_reckoned K) := by
  obtain ⟨fd, F⟩ := T.dfn 72 (d := d_Fit_gifts_reckoned) rfl
  exact FunD.at' F
theorem Txt.F_Fit_steps (T : Txt K mg) : FN K "steps" "Fit.steps" s_Fit_steps (f_Fit_steps K) := by
  obtain ⟨fd, F⟩ := T.dfn 73 (d := d_Fit_steps) rfl
  exact FunD.at' F
theorem Txt.F_Fit_checks (T : Txt K mg) : FN K "checks" "Fit.checks" s_Fit_checks (f_Fit_checks K) := by
  obtain ⟨fd, F⟩ := T.dfn 74 (d := d_Fit_checks) rfl
  exact FunD.at' F
theorem Txt.F_Fit_fit_clocks (T : Txt K mg) : FN K "fit_clocks" "Fit.fit_clocks" s_Fit_fit_clocks (f_Fit_fit_clocks K) := by
  obtain ⟨fd, F⟩ := T.dfn 75 (d := d_Fit_fit_clocks) rfl
  exact FunD.at' F
theorem Txt.F_Fit_readings (T : Txt K mg) : FN K "readings" "Fit.readings" s_Fit_readings (f_Fit_readings K) := by
  obtain ⟨fd, F⟩ := T.dfn 76 (d := d_Fit_readings) rfl
  exact FunD.at' F
theorem Txt.F_Fit_order (T : Txt K mg) : FN K "order" "Fit.order" s_Fit_order (f_Fit_order K) := by
  obtain ⟨fd, F⟩ := T.dfn 77 (d := d_Fit_order) rfl
  exact FunD.at' F
theorem Txt.F_Fit_led_from (T : Txt K mg) : FN K "led_from" "Fit.led_from" s_Fit_led_from (f_Fit_led_from K) := by
  obtain ⟨fd, F⟩ := T.dfn 78 (d := d_Fit_led_from) rfl
  exact FunD.at' F
theorem Txt.F_Fit_summary (T : Txt K mg) : FN K "summary" "Fit.summary" s_Fit_summary (f_Fit_summary K) := by
  obtain ⟨fd, F⟩ := T.dfn 79 (d := d_Fit_summary) rfl
  exact FunD.at' F
theorem Txt.F_Fit_summary_reckoned (T : Txt K mg) : FN K "summary_reckoned" "Fit.summary_reckoned" s_Fit_summary_reckoned (f_Fit_summary_reckoned K) := by
  obtain ⟨fd, F⟩ := T.dfn 80 (d := d_Fit_summary_reckoned) rfl
  exact FunD.at' F
theorem Txt.F_clock_by (T : Txt K mg) : FN K "clock_by" "clock_by" s_clock_by (f_clock_by K) := by
  obtain ⟨fd, F⟩ := T.dfn 81 (d := d_clock_by) rfl
  exact FunD.at' F
theorem Txt.F_begun (T : Txt K mg) : FN K "begun" "begun" s_begun (f_begun K) := by
  obtain ⟨fd, F⟩ := T.dfn 82 (d := d_begun) rfl
  exact FunD.at' F
theorem Txt.F_fitted (T : Txt K mg) : FN K "fitted" "fitted" s_fitted (f_fitted K) := by
  obtain ⟨fd, F⟩ := T.dfn 83 (d := d_fitted) rfl
  exact FunD.at' F
theorem Txt.F_summary_of (T : Txt K mg) : FN K "summary_of" "summary_of" s_summary_of (f_summary_of K) := by
  obtain ⟨fd, F⟩ := T.dfn 84 (d := d_summary_of) rfl
  exact FunD.at' F
theorem Txt.F_cells_in (T : Txt K mg) : FN K "cells_in" "cells_in" s_cells_in (f_cells_in K) := by
  obtain ⟨fd, F⟩ := T.dfn 85 (d := d_cells_in) rfl
  exact FunD.at' F
theorem Txt.F__law_cell_at (T : Txt K mg) : FN K "_law_cell_at" "_law_cell_at" s__law_cell_at (f__law_cell_at K) := by
  obtain ⟨fd, F⟩ := T.dfn 86 (d := d__law_cell_at) rfl
  exact FunD.at' F
theorem Txt.F__law_box (T : Txt K mg) : FN K "_law_box" "_law_box" s__law_box (f__law_box K) := by
  obtain ⟨fd, F⟩ := T.dfn 87 (d := d__law_box) rfl
  exact FunD.at' F
theorem Txt.F__law_take (T : Txt K mg) : FN K "_law_take" "_law_take" s__law_take (f__law_take K) := by
  obtain ⟨fd, F⟩ := T.dfn 88 (d := d__law_take) rfl
  exact FunD.at' F
theorem Txt.F__law_pool (T : Txt K mg) : FN K "_law_pool" "_law_pool" s__law_pool (f__law_pool K) := by
  obtain ⟨fd, F⟩ := T.dfn 89 (d := d__law_pool) rfl
  exact FunD.at' F
theorem Txt.F__law_sum_of (T : Txt K mg) : FN K "_law_sum_of" "_law_sum_of" s__law_sum_of (f__law_sum_of K) := by
  obtain ⟨fd, F⟩ := T.dfn 90 (d := d__law_sum_of) rfl
  exact FunD.at' F
theorem Txt.F__law_node (T : Txt K mg) : FN K "_law_node" "_law_node" s__law_node (f__law_node K) := by
  obtain ⟨fd, F⟩ := T.dfn 91 (d := d__law_node) rfl
  exact FunD.at' F
theorem Txt.F__law_chain (T : Txt K mg) : FN K "_law_chain" "_law_chain" s__law_chain (f__law_chain K) := by
  obtain ⟨fd, F⟩ := T.dfn 92 (d := d__law_chain) rfl
  exact FunD.at' F
theorem Txt.F__law_right (T : Txt K mg) : FN K "_law_right" "_law_right" s__law_right (f__law_right K) := by
  obtain ⟨fd, F⟩ := T.dfn 93 (d := d__law_right) rfl
  exact FunD.at' F
theorem Txt.F__law_strange (T : Txt K mg) : FN K "_law_strange" "_law_strange" s__law_strange (f__law_strange K) := by
  obtain ⟨fd, F⟩ := T.dfn 94 (d := d__law_strange) rfl
  exact FunD.at' F
theorem Txt.F_law (T : Txt K mg) : FN K "law" "law" s_law (f_law K) := by
  obtain ⟨fd, F⟩ := T.dfn 95 (d := d_law) rfl
  exact FunD.at' F
theorem Txt.F_Unknown_init (T : Txt K mg) : FN K "__init__" "Unknown.__init__" s_Unknown_init (f_Unknown_init K) := by
  obtain ⟨fd, F⟩ := T.dfn 96 (d := d_Unknown_init) rfl
  exact FunD.at' F
theorem Txt.F_TooMany_init (T : Txt K mg) : FN K "__init__" "TooMany.__init__" s_TooMany_init (f_TooMany_init K) := by
  obtain ⟨fd, F⟩ := T.dfn 97 (d := d_TooMany_init) rfl
  exact FunD.at' F
abbrev N_is_whole : List Str := ["thing"]
abbrev P_is_whole : List Str := ["thing"]
theorem sc_is_whole : FnScope N_is_whole P_is_whole (defScope s_is_whole) := ⟨rfl, rfl, rfl, by decide +kernel, rfl, by decide +kernel, by decide +kernel⟩
theorem Txt.b_is_whole (T : Txt K mg) : Binds K (fdAt K (f_is_whole K)) P_is_whole [] := T.F_is_whole.bindsN fun _ _ _ _ _ _ us hl => match us, hl with | [_], _ => rfl
abbrev N_is_within : List Str := ["thing", "low", "high"]
abbrev P_is_within : List Str := ["thing", "low", "high"]
theorem sc_is_within : FnScope N_is_within P_is_within (defScope s_is_within) := ⟨rfl, rfl, rfl, by decide +kernel, rfl, by decide +kernel, by decide +kernel⟩
theorem Txt.b_is_within (T : Txt K mg) : Binds K (fdAt K (f_is_within K)) P_is_within [] := T.F_is_within.bindsN fun _ _ _ _ _ _ us hl => match us, hl with | [_, _, _], _ => rfl
abbrev N_is_name : List Str := ["thing", "sign"]
abbrev P_is_name : List Str := ["thing"]
theorem sc_is_name : FnScope N_is_name P_is_name (defScope s_is_name) := ⟨rfl, rfl, rfl, by decide +kernel, rfl, by decide +kernel, by decide +kernel⟩
theorem Txt.b_is_name (T : Txt K mg) : Binds K (fdAt K (f_is_name K)) P_is_name [] := T.F_is_name.bindsN fun _ _ _ _ _ _ us hl => match us, hl with | [_], _ => rfl
abbrev N_is_pointed : List Str := ["thing", "part"]
abbrev P_is_pointed : List Str := ["thing"]
theorem sc_is_pointed : FnScope N_is_pointed P_is_pointed (defScope s_is_pointed) := ⟨rfl, rfl, rfl, by decide +kernel, rfl, by decide +kernel, by decide +kernel⟩
theorem Txt.b_is_pointed (T : Txt K mg) : Binds K (fdAt K (f_is_pointed K)) P_is_pointed [] := T.F_is_pointed.bindsN fun _ _ _ _ _ _ us hl => match us, hl with | [_], _ => rfl
abbrev N_is_value : List Str := ["thing"]
abbrev P_is_value : List Str := ["thing"]
theorem sc_is_value : FnScope N_is_value P_is_value (defScope s_is_value) := ⟨rfl, rfl, rfl, by decide +kernel, rfl, by decide +kernel, by decide +kernel⟩
theorem Txt.b_is_value (T : Txt K mg) : Binds K (fdAt K (f_is_value K)) P_is_value [] := T.F_is_value.bindsN fun _ _ _ _ _ _ us hl => match us, hl with | [_], _ => rfl
abbrev N_ops_told : List Str := []
abbrev P_ops_told : List Str := []
theorem sc_ops_told : FnScope N_ops_told P_ops_told (defScope s_ops_told) := ⟨rfl, rfl, rfl, by decide +kernel, rfl, by decide +kernel, by decide +kernel⟩
theorem Txt.b_ops_told (T : Txt K mg) : Binds K (fdAt K (f_ops_told K)) P_ops_told [] := T.F_ops_told.bindsN fun _ _ _ _ _ _ us hl => match us, hl with | [], _ => rfl
abbrev N_Term_parts : List Str := ["self"]
abbrev P_Term_parts : List Str := ["self"]
theorem sc_Term_parts : FnScope N_Term_parts P_Term_parts (defScope s_Term_parts) := ⟨rfl, rfl, rfl, by decide +kernel, rfl, by decide +kernel, by decide +kernel⟩
theorem Txt.b_Term_parts (T : Txt K mg) : Binds K (fdAt K (f_Term_parts K)) P_Term_parts [] := T.F_Term_parts.bindsN fun _ _ _ _ _ _ us hl => match us, hl with | [_], _ => rfl
abbrev N_Term_names : List Str := ["self", "found", "part", "name"]
abbrev P_Term_names : List Str := ["self"]
theorem sc_Term_names : FnScope N_Term_names P_Term_names (defScope s_Term_names) := ⟨rfl, rfl, rfl, by decide +kernel, rfl, by decide +kernel, by decide +kernel⟩
theorem Txt.b_Term_names (T : Txt K mg) : Binds K (fdAt K (f_Term_names K)) P_Term_names [] := T.F_Term_names.bindsN fun _ _ _ _ _ _ us hl => match us, hl with | [_], _ => rfl
abbrev N_Term_levels : List Str := ["self", "part"]
abbrev P_Term_levels : List Str := ["self"]
theorem sc_Term_levels : FnScope N_Term_levels P_Term_levels (defScope s_Term_levels) := ⟨rfl, rfl, rfl, by decide +kernel, rfl, by decide +kernel, by decide +kernel⟩
theorem Txt.b_Term_levels (T : Txt K mg) : Binds K (fdAt K (f_Term_levels K)) P_Term_levels [] := T.F_Term_levels.bindsN fun _ _ _ _ _ _ us hl => match us, hl with | [_], _ => rfl
abbrev N_need_term : List Str := ["thing"]
abbrev P_need_term : List Str := ["thing"]
theorem sc_need_term : FnScope N_need_term P_need_term (defScope s_need_term) := ⟨rfl, rfl, rfl, by decide +kernel, rfl, by decide +kernel, by decide +kernel⟩
theorem Txt.b_need_term (T : Txt K mg) : Binds K (fdAt K (f_need_term K)) P_need_term [] := T.F_need_term.bindsN fun _ _ _ _ _ _ us hl => match us, hl with | [_], _ => rfl
abbrev N_Name_init : List Str := ["self", "name"]
abbrev P_Name_init : List Str := ["self", "name"]
theorem sc_Name_init : FnScope N_Name_init P_Name_init (defScope s_Name_init) := ⟨rfl, rfl, rfl, by decide +kernel, rfl, by decide +kernel, by decide +kernel⟩
theorem Txt.b_Name_init (T : Txt K mg) : Binds K (fdAt K (f_Name_init K)) P_Name_init [] := T.F_Name_init.bindsN fun _ _ _ _ _ _ us hl => match us, hl with | [_, _], _ => rfl
abbrev N_Name_names : List Str := ["self"]
abbrev P_Name_names : List Str := ["self"]
theorem sc_Name_names : FnScope N_Name_names P_Name_names (defScope s_Name_names) := ⟨rfl, rfl, rfl, by decide +kernel, rfl, by decide +kernel, by decide +kernel⟩
theorem Txt.b_Name_names (T : Txt K mg) : Binds K (fdAt K (f_Name_names K)) P_Name_names [] := T.F_Name_names.bindsN fun _ _ _ _ _ _ us hl => match us, hl with | [_], _ => rfl
abbrev N_Name_renamed : List Str := ["self", "names"]
abbrev P_Name_renamed : List Str := ["self", "names"]
theorem sc_Name_renamed : FnScope N_Name_renamed P_Name_renamed (defScope s_Name_renamed) := ⟨rfl, rfl, rfl, by decide +kernel, rfl, by decide +kernel, by decide +kernel⟩
theorem Txt.b_Name_renamed (T : Txt K mg) : Binds K (fdAt K (f_Name_renamed K)) P_Name_renamed [] := T.F_Name_renamed.bindsN fun _ _ _ _ _ _ us hl => match us, hl with | [_, _], _ => rfl
abbrev N_Name_told : List Str := ["self"]
abbrev P_Name_told : List Str := ["self"]
theorem sc_Name_told : FnScope N_Name_told P_Name_told (defScope s_Name_told) := ⟨rfl, rfl, rfl, by decide +kernel, rfl, by decide +kernel, by decide +kernel⟩
theorem Txt.b_Name_told (T : Txt K mg) : Binds K (fdAt K (f_Name_told K)) P_Name_told [] := T.F_Name_told.bindsN fun _ _ _ _ _ _ us hl => match us, hl with | [_], _ => rfl
abbrev N_Two_init : List Str := ["self", "op", "one", "other"]
abbrev P_Two_init : List Str := ["self", "op", "one", "other"]
theorem sc_Two_init : FnScope N_Two_init P_Two_init (defScope s_Two_init) := ⟨rfl, rfl, rfl, by decide +kernel, rfl, by decide +kernel, by decide +kernel⟩
theorem Txt.b_Two_init (T : Txt K mg) : Binds K (fdAt K (f_Two_init K)) P_Two_init [] := T.F_Two_init.bindsN fun _ _ _ _ _ _ us hl => match us, hl with | [_, _, _, _], _ => rfl
abbrev N_Two_parts : List Str := ["self"]
abbrev P_Two_parts : List Str := ["self"]
theorem sc_Two_parts : FnScope N_Two_parts P_Two_parts (defScope s_Two_parts) := ⟨rfl, rfl, rfl, by decide +kernel, rfl, by decide +kernel, by decide +kernel⟩
theorem Txt.b_Two_parts (T : Txt K mg) : Binds K (fdAt K (f_Two_parts K)) P_Two_parts [] := T.F_Two_parts.bindsN fun _ _ _ _ _ _ us hl => match us, hl with | [_], _ => rfl
abbrev N_Two_renamed : List Str := ["self", "names"]
abbrev P_Two_renamed : List Str := ["self", "names"]
theorem sc_Two_renamed : FnScope N_Two_renamed P_Two_renamed (defScope s_Two_renamed) := ⟨rfl, rfl, rfl, by decide +kernel, rfl, by decide +kernel, by decide +kernel⟩
theorem Txt.b_Two_renamed (T : Txt K mg) : Binds K (fdAt K (f_Two_renamed K)) P_Two_renamed [] := T.F_Two_renamed.bindsN fun _ _ _ _ _ _ us hl => match us, hl with | [_, _], _ => rfl
abbrev N_Two_told : List Str := ["self"]
abbrev P_Two_told : List Str := ["self"]
theorem sc_Two_told : FnScope N_Two_told P_Two_told (defScope s_Two_told) := ⟨rfl, rfl, rfl, by decide +kernel, rfl, by decide +kernel, by decide +kernel⟩
theorem Txt.b_Two_told (T : Txt K mg) : Binds K (fdAt K (f_Two_told K)) P_Two_told [] := T.F_Two_told.bindsN fun _ _ _ _ _ _ us hl => match us, hl with | [_], _ => rfl
abbrev N_simple_of : List Str := ["word", "thing"]
abbrev P_simple_of : List Str := ["word", "thing"]
theorem sc_simple_of : FnScope N_simple_of P_simple_of (defScope s_simple_of) := ⟨rfl, rfl, rfl, by decide +kernel, rfl, by decide +kernel, by decide +kernel⟩
theorem Txt.b_simple_of (T : Txt K mg) : Binds K (fdAt K (f_simple_of K)) P_simple_of [] := T.F_simple_of.bindsN fun _ _ _ _ _ _ us hl => match us, hl with | [_, _], _ => rfl
abbrev N_made_of_told : List Str := ["told", "left", "word", "first", "parts", "one"]
abbrev P_made_of_told : List Str := ["told", "left"]
theorem sc_made_of_told : FnScope N_made_of_told P_made_of_told (defScope s_made_of_told) := ⟨rfl, rfl, rfl, by decide +kernel, rfl, by decide +kernel, by decide +kernel⟩
theorem Txt.b_made_of_told (T : Txt K mg) : Binds K (fdAt K (f_made_of_told K)) P_made_of_told [] := T.F_made_of_told.bindsN fun _ _ _ _ _ _ us hl => match us, hl with | [_, _], _ => rfl
abbrev N_term_of : List Str := ["told", "found"]
abbrev P_term_of : List Str := ["told"]
theorem sc_term_of : FnScope N_term_of P_term_of (defScope s_term_of) := ⟨rfl, rfl, rfl, by decide +kernel, rfl, by decide +kernel, by decide +kernel⟩
theorem Txt.b_term_of (T : Txt K mg) : Binds K (fdAt K (f_term_of K)) P_term_of [] := T.F_term_of.bindsN fun _ _ _ _ _ _ us hl => match us, hl with | [_], _ => rfl
abbrev N_new_name : List Str := ["names", "name"]
abbrev P_new_name : List Str := ["names", "name"]
theorem sc_new_name : FnScope N_new_name P_new_name (defScope s_new_name) := ⟨rfl, rfl, rfl, by decide +kernel, rfl, by decide +kernel, by decide +kernel⟩
theorem Txt.b_new_name (T : Txt K mg) : Binds K (fdAt K (f_new_name K)) P_new_name [] := T.F_new_name.bindsN fun _ _ _ _ _ _ us hl => match us, hl with | [_, _], _ => rfl
abbrev N_each_once : List Str := ["names", "found", "name"]
abbrev P_each_once : List Str := ["names"]
theorem sc_each_once : FnScope N_each_once P_each_once (defScope s_each_once) := ⟨rfl, rfl, rfl, by decide +kernel, rfl, by decide +kernel, by decide +kernel⟩
theorem Txt.b_each_once (T : Txt K mg) : Binds K (fdAt K (f_each_once K)) P_each_once [] := T.F_each_once.bindsN fun _ _ _ _ _ _ us hl => match us, hl with | [_], _ => rfl
abbrev N_Equation_init : List Str := ["self", "row"]
abbrev P_Equation_init : List Str := ["self", "row"]
theorem sc_Equation_init : FnScope N_Equation_init P_Equation_init (defScope s_Equation_init) := ⟨rfl, rfl, rfl, by decide +kernel, rfl, by decide +kernel, by decide +kernel⟩
theorem Txt.b_Equation_init (T : Txt K mg) : Binds K (fdAt K (f_Equation_init K)) P_Equation_init [] := T.F_Equation_init.bindsN fun _ _ _ _ _ _ us hl => match us, hl with | [_, _], _ => rfl
abbrev N_Equation_told : List Str := ["self"]
abbrev P_Equation_told : List Str := ["self"]
theorem sc_Equation_told : FnScope N_Equation_told P_Equation_told (defScope s_Equation_told) := ⟨rfl, rfl, rfl, by decide +kernel, rfl, by decide +kernel, by decide +kernel⟩
theorem Txt.b_Equation_told (T : Txt K mg) : Binds K (fdAt K (f_Equation_told K)) P_Equation_told [] := T.F_Equation_told.bindsN fun _ _ _ _ _ _ us hl => match us, hl with | [_], _ => rfl
abbrev N_Equation_tells : List Str := ["self"]
abbrev P_Equation_tells : List Str := ["self"]
theorem sc_Equation_tells : FnScope N_Equation_tells P_Equation_tells (defScope s_Equation_tells) := ⟨rfl, rfl, rfl, by decide +kernel, rfl, by decide +kernel, by decide +kernel⟩
theorem Txt.b_Equation_tells (T : Txt K mg) : Binds K (fdAt K (f_Equation_tells K)) P_Equation_tells [] := T.F_Equation_tells.bindsN fun _ _ _ _ _ _ us hl => match us, hl with | [_], _ => rfl
abbrev N_Equation_names : List Str := ["self"]
abbrev P_Equation_names : List Str := ["self"]
theorem sc_Equation_names : FnScope N_Equation_names P_Equation_names (defScope s_Equation_names) := ⟨rfl, rfl, rfl, by decide +kernel, rfl, by decide +kernel, by decide +kernel⟩
theorem Txt.b_Equation_names (T : Txt K mg) : Binds K (fdAt K (f_Equation_names K)) P_Equation_names [] := T.F_Equation_names.bindsN fun _ _ _ _ _ _ us hl => match us, hl with | [_], _ => rfl
abbrev N_Equation_term : List Str := ["self"]
abbrev P_Equation_term : List Str := ["self"]
theorem sc_Equation_term : FnScope N_Equation_term P_Equation_term (defScope s_Equation_term) := ⟨rfl, rfl, rfl, by decide +kernel, rfl, by decide +kernel, by decide +kernel⟩
theorem Txt.b_Equation_term (T : Txt K mg) : Binds K (fdAt K (f_Equation_term K)) P_Equation_term [] := T.F_Equation_term.bindsN fun _ _ _ _ _ _ us hl => match us, hl with | [_], _ => rfl
abbrev N_Equation_is_call : List Str := ["self"]
abbrev P_Equation_is_call : List Str := ["self"]
theorem sc_Equation_is_call : FnScope N_Equation_is_call P_Equation_is_call (defScope s_Equation_is_call) := ⟨rfl, rfl, rfl, by decide +kernel, rfl, by decide +kernel, by decide +kernel⟩
theorem Txt.b_Equation_is_call (T : Txt K mg) : Binds K (fdAt K (f_Equation_is_call K)) P_Equation_is_call [] := T.F_Equation_is_call.bindsN fun _ _ _ _ _ _ us hl => match us, hl with | [_], _ => rfl
abbrev N_Equation_put_otherwise : List Str := ["self", "names"]
abbrev P_Equation_put_otherwise : List Str := ["self", "names"]
theorem sc_Equation_put_otherwise : FnScope N_Equation_put_otherwise P_Equation_put_otherwise (defScope s_Equation_put_otherwise) := ⟨rfl, rfl, rfl, by decide +kernel, rfl, by decide +kernel, by decide +kernel⟩
theorem Txt.b_Equation_put_otherwise (T : Txt K mg) : Binds K (fdAt K (f_Equation_put_otherwise K)) P_Equation_put_otherwise [] := T.F_Equation_put_otherwise.bindsN fun _ _ _ _ _ _ us hl => match us, hl with | [_, _], _ => rfl
abbrev N_Equation_renamed : List Str := ["self", "names", "fresh", "name"]
abbrev P_Equation_renamed : List Str := ["self", "names"]
theorem sc_Equation_renamed : FnScope N_Equation_renamed P_Equation_renamed (defScope s_Equation_renamed) := ⟨rfl, rfl, rfl, by decide +kernel, rfl, by decide +kernel, by decide +kernel⟩
theorem Txt.b_Equation_renamed (T : Txt K mg) : Binds K (fdAt K (f_Equation_renamed K)) P_Equation_renamed [] := T.F_Equation_renamed.bindsN fun _ _ _ _ _ _ us hl => match us, hl with | [_, _], _ => rfl
abbrev N_Plain_init : List Str := ["self", "row"]
abbrev P_Plain_init : List Str := ["self", "row"]
theorem sc_Plain_init : FnScope N_Plain_init P_Plain_init (defScope s_Plain_init) := ⟨rfl, rfl, rfl, by decide +kernel, rfl, by decide +kernel, by decide +kernel⟩
theorem Txt.b_Plain_init (T : Txt K mg) : Binds K (fdAt K (f_Plain_init K)) P_Plain_init [] := T.F_Plain_init.bindsN fun _ _ _ _ _ _ us hl => match us, hl with | [_, _], _ => rfl
abbrev N_Plain_names : List Str := ["self"]
abbrev P_Plain_names : List Str := ["self"]
theorem sc_Plain_names : FnScope N_Plain_names P_Plain_names (defScope s_Plain_names) := ⟨rfl, rfl, rfl, by decide +kernel, rfl, by decide +kernel, by decide +kernel⟩
theorem Txt.b_Plain_names (T : Txt K mg) : Binds K (fdAt K (f_Plain_names K)) P_Plain_names [] := T.F_Plain_names.bindsN fun _ _ _ _ _ _ us hl => match us, hl with | [_], _ => rfl
abbrev N_Plain_term : List Str := ["self"]
abbrev P_Plain_term : List Str := ["self"]
theorem sc_Plain_term : FnScope N_Plain_term P_Plain_term (defScope s_Plain_term) := ⟨rfl, rfl, rfl, by decide +kernel, rfl, by decide +kernel, by decide +kernel⟩
theorem Txt.b_Plain_term (T : Txt K mg) : Binds K (fdAt K (f_Plain_term K)) P_Plain_term [] := T.F_Plain_term.bindsN fun _ _ _ _ _ _ us hl => match us, hl with | [_], _ => rfl
abbrev N_Plain_put_otherwise : List Str := ["self", "names"]
abbrev P_Plain_put_otherwise : List Str := ["self", "names"]
theorem sc_Plain_put_otherwise : FnScope N_Plain_put_otherwise P_Plain_put_otherwise (defScope s_Plain_put_otherwise) := ⟨rfl, rfl, rfl, by decide +kernel, rfl, by decide +kernel, by decide +kernel⟩
theorem Txt.b_Plain_put_otherwise (T : Txt K mg) : Binds K (fdAt K (f_Plain_put_otherwise K)) P_Plain_put_otherwise [] := T.F_Plain_put_otherwise.bindsN fun _ _ _ _ _ _ us hl => match us, hl with | [_, _], _ => rfl
abbrev N_Call_tells : List Str := ["self"]
abbrev P_Call_tells : List Str := ["self"]
theorem sc_Call_tells : FnScope N_Call_tells P_Call_tells (defScope s_Call_tells) := ⟨rfl, rfl, rfl, by decide +kernel, rfl, by decide +kernel, by decide +kernel⟩
theorem Txt.b_Call_tells (T : Txt K mg) : Binds K (fdAt K (f_Call_tells K)) P_Call_tells [] := T.F_Call_tells.bindsN fun _ _ _ _ _ _ us hl => match us, hl with | [_], _ => rfl
abbrev N_Call_names : List Str := ["self"]
abbrev P_Call_names : List Str := ["self"]
theorem sc_Call_names : FnScope N_Call_names P_Call_names (defScope s_Call_names) := ⟨rfl, rfl, rfl, by decide +kernel, rfl, by decide +kernel, by decide +kernel⟩
theorem Txt.b_Call_names (T : Txt K mg) : Binds K (fdAt K (f_Call_names K)) P_Call_names [] := T.F_Call_names.bindsN fun _ _ _ _ _ _ us hl => match us, hl with | [_], _ => rfl
abbrev N_Call_is_call : List Str := ["self"]
abbrev P_Call_is_call : List Str := ["self"]
theorem sc_Call_is_call : FnScope N_Call_is_call P_Call_is_call (defScope s_Call_is_call) := ⟨rfl, rfl, rfl, by decide +kernel, rfl, by decide +kernel, by decide +kernel⟩
theorem Txt.b_Call_is_call (T : Txt K mg) : Binds K (fdAt K (f_Call_is_call K)) P_Call_is_call [] := T.F_Call_is_call.bindsN fun _ _ _ _ _ _ us hl => match us, hl with | [_], _ => rfl
abbrev N_are_pointed : List Str := ["thing", "least", "name"]
abbrev P_are_pointed : List Str := ["thing", "least"]
theorem sc_are_pointed : FnScope N_are_pointed P_are_pointed (defScope s_are_pointed) := ⟨rfl, rfl, rfl, by decide +kernel, rfl, by decide +kernel, by decide +kernel⟩
theorem Txt.b_are_pointed (T : Txt K mg) : Binds K (fdAt K (f_are_pointed K)) P_are_pointed [] := T.F_are_pointed.bindsN fun _ _ _ _ _ _ us hl => match us, hl with | [_, _], _ => rfl
abbrev N_is_valued : List Str := ["row"]
abbrev P_is_valued : List Str := ["row"]
theorem sc_is_valued : FnScope N_is_valued P_is_valued (defScope s_is_valued) := ⟨rfl, rfl, rfl, by decide +kernel, rfl, by decide +kernel, by decide +kernel⟩
theorem Txt.b_is_valued (T : Txt K mg) : Binds K (fdAt K (f_is_valued K)) P_is_valued [] := T.F_is_valued.bindsN fun _ _ _ _ _ _ us hl => match us, hl with | [_], _ => rfl
abbrev N_plain_of : List Str := ["row"]
abbrev P_plain_of : List Str := ["row"]
theorem sc_plain_of : FnScope N_plain_of P_plain_of (defScope s_plain_of) := ⟨rfl, rfl, rfl, by decide +kernel, rfl, by decide +kernel, by decide +kernel⟩
theorem Txt.b_plain_of (T : Txt K mg) : Binds K (fdAt K (f_plain_of K)) P_plain_of [] := T.F_plain_of.bindsN fun _ _ _ _ _ _ us hl => match us, hl with | [_], _ => rfl
abbrev N_valued_of : List Str := ["row"]
abbrev P_valued_of : List Str := ["row"]
theorem sc_valued_of : FnScope N_valued_of P_valued_of (defScope s_valued_of) := ⟨rfl, rfl, rfl, by decide +kernel, rfl, by decide +kernel, by decide +kernel⟩
theorem Txt.b_valued_of (T : Txt K mg) : Binds K (fdAt K (f_valued_of K)) P_valued_of [] := T.F_valued_of.bindsN fun _ _ _ _ _ _ us hl => match us, hl with | [_], _ => rfl
abbrev N_call_of : List Str := ["row"]
abbrev P_call_of : List Str := ["row"]
theorem sc_call_of : FnScope N_call_of P_call_of (defScope s_call_of) := ⟨rfl, rfl, rfl, by decide +kernel, rfl, by decide +kernel, by decide +kernel⟩
theorem Txt.b_call_of (T : Txt K mg) : Binds K (fdAt K (f_call_of K)) P_call_of [] := T.F_call_of.bindsN fun _ _ _ _ _ _ us hl => match us, hl with | [_], _ => rfl
abbrev N_made_of : List Str := ["row"]
abbrev P_made_of : List Str := ["row"]
theorem sc_made_of : FnScope N_made_of P_made_of (defScope s_made_of) := ⟨rfl, rfl, rfl, by decide +kernel, rfl, by decide +kernel, by decide +kernel⟩
theorem Txt.b_made_of (T : Txt K mg) : Binds K (fdAt K (f_made_of K)) P_made_of [] := T.F_made_of.bindsN fun _ _ _ _ _ _ us hl => match us, hl with | [_], _ => rfl
abbrev N_equation_of : List Str := ["told", "found"]
abbrev P_equation_of : List Str := ["told"]
theorem sc_equation_of : FnScope N_equation_of P_equation_of (defScope s_equation_of) := ⟨rfl, rfl, rfl, by decide +kernel, rfl, by decide +kernel, by decide +kernel⟩
theorem Txt.b_equation_of (T : Txt K mg) : Binds K (fdAt K (f_equation_of K)) P_equation_of [] := T.F_equation_of.bindsN fun _ _ _ _ _ _ us hl => match us, hl with | [_], _ => rfl
abbrev N_need_names : List Str := ["things", "ahead", "name"]
abbrev P_need_names : List Str := ["things"]
theorem sc_need_names : FnScope N_need_names P_need_names (defScope s_need_names) := ⟨rfl, rfl, rfl, by decide +kernel, rfl, by decide +kernel, by decide +kernel⟩
theorem Txt.b_need_names (T : Txt K mg) : Binds K (fdAt K (f_need_names K)) P_need_names [] := T.F_need_names.bindsN fun _ _ _ _ _ _ us hl => match us, hl with | [_], _ => rfl
abbrev N_equations_of : List Str := ["rows", "found", "row", "equation"]
abbrev P_equations_of : List Str := ["rows"]
theorem sc_equations_of : FnScope N_equations_of P_equations_of (defScope s_equations_of) := ⟨rfl, rfl, rfl, by decide +kernel, rfl, by decide +kernel, by decide +kernel⟩
theorem Txt.b_equations_of (T : Txt K mg) : Binds K (fdAt K (f_equations_of K)) P_equations_of [] := T.F_equations_of.bindsN fun _ _ _ _ _ _ us hl => match us, hl with | [_], _ => rfl
abbrev N_Node_init : List Str := ["self", "name", "inputs", "outs", "rows"]
abbrev P_Node_init : List Str := ["self", "name", "inputs", "outs", "rows"]
theorem sc_Node_init : FnScope N_Node_init P_Node_init (defScope s_Node_init) := ⟨rfl, rfl, rfl, by decide +kernel, rfl, by decide +kernel, by decide +kernel⟩
theorem Txt.b_Node_init (T : Txt K mg) : Binds K (fdAt K (f_Node_init K)) P_Node_init [] := T.F_Node_init.bindsN fun _ _ _ _ _ _ us hl => match us, hl with | [_, _, _, _, _], _ => rfl
abbrev N_Node_take_tellers : List Str := ["self", "name", "row"]
abbrev P_Node_take_tellers : List Str := ["self"]
theorem sc_Node_take_tellers : FnScope N_Node_take_tellers P_Node_take_tellers (defScope s_Node_take_tellers) := ⟨rfl, rfl, rfl, by decide +kernel, rfl, by decide +kernel, by decide +kernel⟩
theorem Txt.b_Node_take_tellers (T : Txt K mg) : Binds K (fdAt K (f_Node_take_tellers K)) P_Node_take_tellers [] := T.F_Node_take_tellers.bindsN fun _ _ _ _ _ _ us hl => match us, hl with | [_], _ => rfl
abbrev N_Node_need_told : List Str := ["self", "row", "name"]
abbrev P_Node_need_told : List Str := ["self"]
theorem sc_Node_need_told : FnScope N_Node_need_told P_Node_need_told (defScope s_Node_need_told) := ⟨rfl, rfl, rfl, by decide +kernel, rfl, by decide +kernel, by decide +kernel⟩
theorem Txt.b_Node_need_told (T : Txt K mg) : Binds K (fdAt K (f_Node_need_told K)) P_Node_need_told [] := T.F_Node_need_told.bindsN fun _ _ _ _ _ _ us hl => match us, hl with | [_], _ => rfl
abbrev N_Node_inputs : List Str := ["self"]
abbrev P_Node_inputs : List Str := ["self"]
theorem sc_Node_inputs : FnScope N_Node_inputs P_Node_inputs (defScope s_Node_inputs) := ⟨rfl, rfl, rfl, by decide +kernel, rfl, by decide +kernel, by decide +kernel⟩
theorem Txt.b_Node_inputs (T : Txt K mg) : Binds K (fdAt K (f_Node_inputs K)) P_Node_inputs [] := T.F_Node_inputs.bindsN fun _ _ _ _ _ _ us hl => match us, hl with | [_], _ => rfl
abbrev N_Node_outs : List Str := ["self"]
abbrev P_Node_outs : List Str := ["self"]
theorem sc_Node_outs : FnScope N_Node_outs P_Node_outs (defScope s_Node_outs) := ⟨rfl, rfl, rfl, by decide +kernel, rfl, by decide +kernel, by decide +kernel⟩
theorem Txt.b_Node_outs (T : Txt K mg) : Binds K (fdAt K (f_Node_outs K)) P_Node_outs [] := T.F_Node_outs.bindsN fun _ _ _ _ _ _ us hl => match us, hl with | [_], _ => rfl
abbrev N_Node_rows : List Str := ["self"]
abbrev P_Node_rows : List Str := ["self"]
theorem sc_Node_rows : FnScope N_Node_rows P_Node_rows (defScope s_Node_rows) := ⟨rfl, rfl, rfl, by decide +kernel, rfl, by decide +kernel, by decide +kernel⟩
theorem Txt.b_Node_rows (T : Txt K mg) : Binds K (fdAt K (f_Node_rows K)) P_Node_rows [] := T.F_Node_rows.bindsN fun _ _ _ _ _ _ us hl => match us, hl with | [_], _ => rfl
abbrev N_Node_names : List Str := ["self"]
abbrev P_Node_names : List Str := ["self"]
theorem sc_Node_names : FnScope N_Node_names P_Node_names (defScope s_Node_names) := ⟨rfl, rfl, rfl, by decide +kernel, rfl, by decide +kernel, by decide +kernel⟩
theorem Txt.b_Node_names (T : Txt K mg) : Binds K (fdAt K (f_Node_names K)) P_Node_names [] := T.F_Node_names.bindsN fun _ _ _ _ _ _ us hl => match us, hl with | [_], _ => rfl
abbrev N_node_of : List Str := ["told", "found", "thing"]
abbrev P_node_of : List Str := ["told"]
theorem sc_node_of : FnScope N_node_of P_node_of (defScope s_node_of) := ⟨rfl, rfl, rfl, by decide +kernel, rfl, by decide +kernel, by decide +kernel⟩
theorem Txt.b_node_of (T : Txt K mg) : Binds K (fdAt K (f_node_of K)) P_node_of [] := T.F_node_of.bindsN fun _ _ _ _ _ _ us hl => match us, hl with | [_], _ => rfl
abbrev N_how_many : List Str := ["program", "name", "counts", "other", "node", "many", "first", "called", "inner"]
abbrev P_how_many : List Str := ["program", "name"]
theorem sc_how_many : FnScope N_how_many P_how_many (defScope s_how_many) := ⟨rfl, rfl, rfl, by decide +kernel, rfl, by decide +kernel, by decide +kernel⟩
theorem Txt.b_how_many (T : Txt K mg) : Binds K (fdAt K (f_how_many K)) P_how_many [] := T.F_how_many.bindsN fun _ _ _ _ _ _ us hl => match us, hl with | [_, _], _ => rfl
abbrev N_need_few : List Str := ["program", "name", "many"]
abbrev P_need_few : List Str := ["program", "name"]
theorem sc_need_few : FnScope N_need_few P_need_few (defScope s_need_few) := ⟨rfl, rfl, rfl, by decide +kernel, rfl, by decide +kernel, by decide +kernel⟩
theorem Txt.b_need_few (T : Txt K mg) : Binds K (fdAt K (f_need_few K)) P_need_few [] := T.F_need_few.bindsN fun _ _ _ _ _ _ us hl => match us, hl with | [_, _], _ => rfl
abbrev N_once_each : List Str := ["names", "found", "name"]
abbrev P_once_each : List Str := ["names"]
theorem sc_once_each : FnScope N_once_each P_once_each (defScope s_once_each) := ⟨rfl, rfl, rfl, by decide +kernel, rfl, by decide +kernel, by decide +kernel⟩
theorem Txt.b_once_each (T : Txt K mg) : Binds K (fdAt K (f_once_each K)) P_once_each [] := T.F_once_each.bindsN fun _ _ _ _ _ _ us hl => match us, hl with | [_], _ => rfl
abbrev N_call_rows : List Str := ["inner", "rows", "told", "word", "outs", "called", "args", "names", "found", "row", "name"]
abbrev P_call_rows : List Str := ["inner", "rows", "told"]
theorem sc_call_rows : FnScope N_call_rows P_call_rows (defScope s_call_rows) := ⟨rfl, rfl, rfl, by decide +kernel, rfl, by decide +kernel, by decide +kernel⟩
theorem Txt.b_call_rows (T : Txt K mg) : Binds K (fdAt K (f_call_rows K)) P_call_rows [] := T.F_call_rows.bindsN fun _ _ _ _ _ _ us hl => match us, hl with | [_, _, _], _ => rfl
abbrev N_rows_out : List Str := ["program", "name", "found", "other", "rows", "row", "called"]
abbrev P_rows_out : List Str := ["program", "name"]
theorem sc_rows_out : FnScope N_rows_out P_rows_out (defScope s_rows_out) := ⟨rfl, rfl, rfl, by decide +kernel, rfl, by decide +kernel, by decide +kernel⟩
theorem Txt.b_rows_out (T : Txt K mg) : Binds K (fdAt K (f_rows_out K)) P_rows_out [] := T.F_rows_out.bindsN fun _ _ _ _ _ _ us hl => match us, hl with | [_, _], _ => rfl
abbrev N_written_out : List Str := ["program", "name", "node", "row"]
abbrev P_written_out : List Str := ["program", "name"]
theorem sc_written_out : FnScope N_written_out P_written_out (defScope s_written_out) := ⟨rfl, rfl, rfl, by decide +kernel, rfl, by decide +kernel, by decide +kernel⟩
theorem Txt.b_written_out (T : Txt K mg) : Binds K (fdAt K (f_written_out K)) P_written_out [] := T.F_written_out.bindsN fun _ _ _ _ _ _ us hl => match us, hl with | [_, _], _ => rfl
abbrev N_need_calls : List Str := ["known", "node", "name", "row", "word", "outs", "called", "args"]
abbrev P_need_calls : List Str := ["known", "node"]
theorem sc_need_calls : FnScope N_need_calls P_need_calls (defScope s_need_calls) := ⟨rfl, rfl, rfl, by decide +kernel, rfl, by decide +kernel, by decide +kernel⟩
theorem Txt.b_need_calls (T : Txt K mg) : Binds K (fdAt K (f_need_calls K)) P_need_calls [] := T.F_need_calls.bindsN fun _ _ _ _ _ _ us hl => match us, hl with | [_, _], _ => rfl
abbrev N_need_nodes : List Str := ["thing", "node", "known"]
abbrev P_need_nodes : List Str := ["thing"]
theorem sc_need_nodes : FnScope N_need_nodes P_need_nodes (defScope s_need_nodes) := ⟨rfl, rfl, rfl, by decide +kernel, rfl, by decide +kernel, by decide +kernel⟩
theorem Txt.b_need_nodes (T : Txt K mg) : Binds K (fdAt K (f_need_nodes K)) P_need_nodes [] := T.F_need_nodes.bindsN fun _ _ _ _ _ _ us hl => match us, hl with | [_], _ => rfl
abbrev N_Program_init : List Str := ["self", "nodes", "one"]
abbrev P_Program_init : List Str := ["self", "nodes"]
theorem sc_Program_init : FnScope N_Program_init P_Program_init (defScope s_Program_init) := ⟨rfl, rfl, rfl, by decide +kernel, rfl, by decide +kernel, by decide +kernel⟩
theorem Txt.b_Program_init (T : Txt K mg) : Binds K (fdAt K (f_Program_init K)) P_Program_init [] := T.F_Program_init.bindsN fun _ _ _ _ _ _ us hl => match us, hl with | [_, _], _ => rfl
abbrev N_Program_named : List Str := ["self", "name"]
abbrev P_Program_named : List Str := ["self", "name"]
theorem sc_Program_named : FnScope N_Program_named P_Program_named (defScope s_Program_named) := ⟨rfl, rfl, rfl, by decide +kernel, rfl, by decide +kernel, by decide +kernel⟩
theorem Txt.b_Program_named (T : Txt K mg) : Binds K (fdAt K (f_Program_named K)) P_Program_named [] := T.F_Program_named.bindsN fun _ _ _ _ _ _ us hl => match us, hl with | [_, _], _ => rfl
abbrev N_Program_calls_in : List Str := ["self", "name", "found", "row", "word", "outs", "called", "args"]
abbrev P_Program_calls_in : List Str := ["self", "name"]
theorem sc_Program_calls_in : FnScope N_Program_calls_in P_Program_calls_in (defScope s_Program_calls_in) := ⟨rfl, rfl, rfl, by decide +kernel, rfl, by decide +kernel, by decide +kernel⟩
theorem Txt.b_Program_calls_in (T : Txt K mg) : Binds K (fdAt K (f_Program_calls_in K)) P_Program_calls_in [] := T.F_Program_calls_in.bindsN fun _ _ _ _ _ _ us hl => match us, hl with | [_, _], _ => rfl
abbrev N_Program_below : List Str := ["self", "name", "wanted", "waiting", "called", "first", "other"]
abbrev P_Program_below : List Str := ["self", "name"]
theorem sc_Program_below : FnScope N_Program_below P_Program_below (defScope s_Program_below) := ⟨rfl, rfl, rfl, by decide +kernel, rfl, by decide +kernel, by decide +kernel⟩
theorem Txt.b_Program_below (T : Txt K mg) : Binds K (fdAt K (f_Program_below K)) P_Program_below [] := T.F_Program_below.bindsN fun _ _ _ _ _ _ us hl => match us, hl with | [_, _], _ => rfl
abbrev N_steps_from : List Str := ["reads", "name", "found", "waiting", "here", "other"]
abbrev P_steps_from : List Str := ["reads", "name"]
theorem sc_steps_from : FnScope N_steps_from P_steps_from (defScope s_steps_from) := ⟨rfl, rfl, rfl, by decide +kernel, rfl, by decide +kernel, by decide +kernel⟩
theorem Txt.b_steps_from (T : Txt K mg) : Binds K (fdAt K (f_steps_from K)) P_steps_from [] := T.F_steps_from.bindsN fun _ _ _ _ _ _ us hl => match us, hl with | [_, _], _ => rfl
abbrev N_ranked : List Str := ["reads", "found", "left", "rank", "ready", "name", "other"]
abbrev P_ranked : List Str := ["reads"]
theorem sc_ranked : FnScope N_ranked P_ranked (defScope s_ranked) := ⟨rfl, rfl, rfl, by decide +kernel, rfl, by decide +kernel, by decide +kernel⟩
theorem Txt.b_ranked (T : Txt K mg) : Binds K (fdAt K (f_ranked K)) P_ranked [] := T.F_ranked.bindsN fun _ _ _ _ _ _ us hl => match us, hl with | [_], _ => rfl
abbrev N_Fit_init : List Str := ["self", "node", "known"]
abbrev P_Fit_init : List Str := ["self", "node", "known"]
theorem sc_Fit_init : FnScope N_Fit_init P_Fit_init (defScope s_Fit_init) := ⟨rfl, rfl, rfl, by decide +kernel, rfl, by decide +kernel, by decide +kernel⟩
theorem Txt.b_Fit_init (T : Txt K mg) : Binds K (fdAt K (f_Fit_init K)) P_Fit_init [] := T.F_Fit_init.bindsN fun _ _ _ _ _ _ us hl => match us, hl with | [_, _, _], _ => rfl
abbrev N_Fit_named_outside : List Str := ["self", "row", "word", "outs", "called", "args", "inner", "names"]
abbrev P_Fit_named_outside : List Str := ["self", "row"]
theorem sc_Fit_named_outside : FnScope N_Fit_named_outside P_Fit_named_outside (defScope s_Fit_named_outside) := ⟨rfl, rfl, rfl, by decide +kernel, rfl, by decide +kernel, by decide +kernel⟩
theorem Txt.b_Fit_named_outside (T : Txt K mg) : Binds K (fdAt K (f_Fit_named_outside K)) P_Fit_named_outside [] := T.F_Fit_named_outside.bindsN fun _ _ _ _ _ _ us hl => match us, hl with | [_, _], _ => rfl
abbrev N_Fit_gifts : List Str := ["self"]
abbrev P_Fit_gifts : List Str := ["self"]
theorem sc_Fit_gifts : FnScope N_Fit_gifts P_Fit_gifts (defScope s_Fit_gifts) := ⟨rfl, rfl, rfl, by decide +kernel, rfl, by decide +kernel, by decide +kernel⟩
theorem Txt.b_Fit_gifts (T : Txt K mg) : Binds K (fdAt K (f_Fit_gifts K)) P_Fit_gifts [] := T.F_Fit_gifts.bindsN fun _ _ _ _ _ _ us hl => match us, hl with | [_], _ => rfl
abbrev N_Fit_gifts_reckoned : List Str := ["self", "found", "row", "names", "told", "out", "labels", "follows", "hangs", "more", "by_when", "name", "label", "other"]
abbrev P_Fit_gifts_reckoned : List Str := ["self"]
theorem sc_Fit_gifts_reckoned : FnScope N_Fit_gifts_reckoned P_Fit_gifts_reckoned (defScope s_Fit_gifts_reckoned) := ⟨rfl, rfl, rfl, by decide +kernel, rfl, by decide +kernel, by decide +kernel⟩
theorem Txt.b_Fit_gifts_reckoned (T : Txt K mg) : Binds K (fdAt K (f_Fit_gifts_reckoned K)) P_Fit_gifts_reckoned [] := T.F_Fit_gifts_reckoned.bindsN fun _ _ _ _ _ _ us hl => match us, hl with | [_], _ => rfl
abbrev N_Fit_steps : List Str := ["self", "gifts", "steps", "clocks", "at", "premise", "name", "other", "is_hold", "more", "clock"]
abbrev P_Fit_steps : List Str := ["self"]
theorem sc_Fit_steps : FnScope N_Fit_steps P_Fit_steps (defScope s_Fit_steps) := ⟨rfl, rfl, rfl, by decide +kernel, rfl, by decide +kernel, by decide +kernel⟩
theorem Txt.b_Fit_steps (T : Txt K mg) : Binds K (fdAt K (f_Fit_steps K)) P_Fit_steps [] := T.F_Fit_steps.bindsN fun _ _ _ _ _ _ us hl => match us, hl with | [_], _ => rfl
abbrev N_Fit_checks : List Str := ["self", "found", "row"]
abbrev P_Fit_checks : List Str := ["self"]
theorem sc_Fit_checks : FnScope N_Fit_checks P_Fit_checks (defScope s_Fit_checks) := ⟨rfl, rfl, rfl, by decide +kernel, rfl, by decide +kernel, by decide +kernel⟩
theorem Txt.b_Fit_checks (T : Txt K mg) : Binds K (fdAt K (f_Fit_checks K)) P_Fit_checks [] := T.F_Fit_checks.bindsN fun _ _ _ _ _ _ us hl => match us, hl with | [_], _ => rfl
abbrev N_Fit_fit_clocks : List Str := ["self", "steps", "clocks", "name", "names", "other", "clock", "premise"]
abbrev P_Fit_fit_clocks : List Str := ["self"]
theorem sc_Fit_fit_clocks : FnScope N_Fit_fit_clocks P_Fit_fit_clocks (defScope s_Fit_fit_clocks) := ⟨rfl, rfl, rfl, by decide +kernel, rfl, by decide +kernel, by decide +kernel⟩
theorem Txt.b_Fit_fit_clocks (T : Txt K mg) : Binds K (fdAt K (f_Fit_fit_clocks K)) P_Fit_fit_clocks [] := T.F_Fit_fit_clocks.bindsN fun _ _ _ _ _ _ us hl => match us, hl with | [_], _ => rfl
abbrev N_Fit_readings : List Str := ["self", "some", "row", "names", "told", "out", "labels", "follows", "hangs", "found", "name", "other"]
abbrev P_Fit_readings : List Str := ["self"]
theorem sc_Fit_readings : FnScope N_Fit_readings P_Fit_readings (defScope s_Fit_readings) := ⟨rfl, rfl, rfl, by decide +kernel, rfl, by decide +kernel, by decide +kernel⟩
theorem Txt.b_Fit_readings (T : Txt K mg) : Binds K (fdAt K (f_Fit_readings K)) P_Fit_readings [] := T.F_Fit_readings.bindsN fun _ _ _ _ _ _ us hl => match us, hl with | [_], _ => rfl
abbrev N_Fit_order : List Str := ["self"]
abbrev P_Fit_order : List Str := ["self"]
theorem sc_Fit_order : FnScope N_Fit_order P_Fit_order (defScope s_Fit_order) := ⟨rfl, rfl, rfl, by decide +kernel, rfl, by decide +kernel, by decide +kernel⟩
theorem Txt.b_Fit_order (T : Txt K mg) : Binds K (fdAt K (f_Fit_order K)) P_Fit_order [] := T.F_Fit_order.bindsN fun _ _ _ _ _ _ us hl => match us, hl with | [_], _ => rfl
abbrev N_Fit_led_from : List Str := ["self", "first", "gifts", "found", "at", "name", "other", "is_hold", "more"]
abbrev P_Fit_led_from : List Str := ["self", "first"]
theorem sc_Fit_led_from : FnScope N_Fit_led_from P_Fit_led_from (defScope s_Fit_led_from) := ⟨rfl, rfl, rfl, by decide +kernel, rfl, by decide +kernel, by decide +kernel⟩
theorem Txt.b_Fit_led_from (T : Txt K mg) : Binds K (fdAt K (f_Fit_led_from K)) P_Fit_led_from [] := T.F_Fit_led_from.bindsN fun _ _ _ _ _ _ us hl => match us, hl with | [_, _], _ => rfl
abbrev N_Fit_summary : List Str := ["self"]
abbrev P_Fit_summary : List Str := ["self"]
theorem sc_Fit_summary : FnScope N_Fit_summary P_Fit_summary (defScope s_Fit_summary) := ⟨rfl, rfl, rfl, by decide +kernel, rfl, by decide +kernel, by decide +kernel⟩
theorem Txt.b_Fit_summary (T : Txt K mg) : Binds K (fdAt K (f_Fit_summary K)) P_Fit_summary [] := T.F_Fit_summary.bindsN fun _ _ _ _ _ _ us hl => match us, hl with | [_], _ => rfl
abbrev N_Fit_summary_reckoned : List Str := ["self", "inputs", "outs", "out", "label", "led", "found", "reached", "follows", "name"]
abbrev P_Fit_summary_reckoned : List Str := ["self"]
theorem sc_Fit_summary_reckoned : FnScope N_Fit_summary_reckoned P_Fit_summary_reckoned (defScope s_Fit_summary_reckoned) := ⟨rfl, rfl, rfl, by decide +kernel, rfl, by decide +kernel, by decide +kernel⟩
theorem Txt.b_Fit_summary_reckoned (T : Txt K mg) : Binds K (fdAt K (f_Fit_summary_reckoned K)) P_Fit_summary_reckoned [] := T.F_Fit_summary_reckoned.bindsN fun _ _ _ _ _ _ us hl => match us, hl with | [_], _ => rfl
abbrev N_clock_by : List Str := ["clock", "is_hold", "more"]
abbrev P_clock_by : List Str := ["clock", "is_hold", "more"]
theorem sc_clock_by : FnScope N_clock_by P_clock_by (defScope s_clock_by) := ⟨rfl, rfl, rfl, by decide +kernel, rfl, by decide +kernel, by decide +kernel⟩
theorem Txt.b_clock_by (T : Txt K mg) : Binds K (fdAt K (f_clock_by K)) P_clock_by [] := T.F_clock_by.bindsN fun _ _ _ _ _ _ us hl => match us, hl with | [_, _, _], _ => rfl
abbrev N_begun : List Str := ["program", "name", "known", "other", "fit"]
abbrev P_begun : List Str := ["program", "name"]
theorem sc_begun : FnScope N_begun P_begun (defScope s_begun) := ⟨rfl, rfl, rfl, by decide +kernel, rfl, by decide +kernel, by decide +kernel⟩
theorem Txt.b_begun (T : Txt K mg) : Binds K (fdAt K (f_begun K)) P_begun [] := T.F_begun.bindsN fun _ _ _ _ _ _ us hl => match us, hl with | [_, _], _ => rfl
abbrev N_fitted : List Str := ["program", "name", "fit"]
abbrev P_fitted : List Str := ["program", "name"]
theorem sc_fitted : FnScope N_fitted P_fitted (defScope s_fitted) := ⟨rfl, rfl, rfl, by decide +kernel, rfl, by decide +kernel, by decide +kernel⟩
theorem Txt.b_fitted (T : Txt K mg) : Binds K (fdAt K (f_fitted K)) P_fitted [] := T.F_fitted.bindsN fun _ _ _ _ _ _ us hl => match us, hl with | [_, _], _ => rfl
abbrev N_summary_of : List Str := ["program", "name", "fit"]
abbrev P_summary_of : List Str := ["program", "name"]
theorem sc_summary_of : FnScope N_summary_of P_summary_of (defScope s_summary_of) := ⟨rfl, rfl, rfl, by decide +kernel, rfl, by decide +kernel, by decide +kernel⟩
theorem Txt.b_summary_of (T : Txt K mg) : Binds K (fdAt K (f_summary_of K)) P_summary_of [] := T.F_summary_of.bindsN fun _ _ _ _ _ _ us hl => match us, hl with | [_, _], _ => rfl
abbrev N_cells_in : List Str := ["program", "name", "found", "other", "many", "row", "first", "called"]
abbrev P_cells_in : List Str := ["program", "name"]
theorem sc_cells_in : FnScope N_cells_in P_cells_in (defScope s_cells_in) := ⟨rfl, rfl, rfl, by decide +kernel, rfl, by decide +kernel, by decide +kernel⟩
theorem Txt.b_cells_in (T : Txt K mg) : Binds K (fdAt K (f_cells_in K)) P_cells_in [] := T.F_cells_in.bindsN fun _ _ _ _ _ _ us hl => match us, hl with | [_, _], _ => rfl
abbrev N__law_cell_at : List Str := ["_law_script", "_law_k"]
abbrev P__law_cell_at : List Str := ["_law_script", "_law_k"]
theorem sc__law_cell_at : FnScope N__law_cell_at P__law_cell_at (defScope s__law_cell_at) := ⟨rfl, rfl, rfl, by decide +kernel, rfl, by decide +kernel, by decide +kernel⟩
theorem Txt.b__law_cell_at (T : Txt K mg) : Binds K (fdAt K (f__law_cell_at K)) P__law_cell_at [] := T.F__law_cell_at.bindsN fun _ _ _ _ _ _ us hl => match us, hl with | [_, _], _ => rfl
abbrev N__law_box : List Str := ["_law_cell"]
abbrev P__law_box : List Str := ["_law_cell"]
theorem sc__law_box : FnScope N__law_box P__law_box (defScope s__law_box) := ⟨rfl, rfl, rfl, by decide +kernel, rfl, by decide +kernel, by decide +kernel⟩
theorem Txt.b__law_box (T : Txt K mg) : Binds K (fdAt K (f__law_box K)) P__law_box [] := T.F__law_box.bindsN fun _ _ _ _ _ _ us hl => match us, hl with | [_], _ => rfl
abbrev N__law_take : List Str := ["_law_box_here", "_law_many", "_law_digit", "_law_number", "_law_high", "_law_low"]
abbrev P__law_take : List Str := ["_law_box_here", "_law_many"]
theorem sc__law_take : FnScope N__law_take P__law_take (defScope s__law_take) := ⟨rfl, rfl, rfl, by decide +kernel, rfl, by decide +kernel, by decide +kernel⟩
theorem Txt.b__law_take (T : Txt K mg) : Binds K (fdAt K (f__law_take K)) P__law_take [] := T.F__law_take.bindsN fun _ _ _ _ _ _ us hl => match us, hl with | [_, _], _ => rfl
abbrev N__law_pool : List Str := ["_law_box_here", "_law_many", "_law_letters", "_law_size", "_law_first", "_law_at", "_law_base", "_law_k"]
abbrev P__law_pool : List Str := ["_law_box_here", "_law_many"]
theorem sc__law_pool : FnScope N__law_pool P__law_pool (defScope s__law_pool) := ⟨rfl, rfl, rfl, by decide +kernel, rfl, by decide +kernel, by decide +kernel⟩
theorem Txt.b__law_pool (T : Txt K mg) : Binds K (fdAt K (f__law_pool K)) P__law_pool [] := T.F__law_pool.bindsN fun _ _ _ _ _ _ us hl => match us, hl with | [_, _], _ => rfl
abbrev N__law_sum_of : List Str := ["_law_names", "_law_term", "_law_name"]
abbrev P__law_sum_of : List Str := ["_law_names"]
theorem sc__law_sum_of : FnScope N__law_sum_of P__law_sum_of (defScope s__law_sum_of) := ⟨rfl, rfl, rfl, by decide +kernel, rfl, by decide +kernel, by decide +kernel⟩
theorem Txt.b__law_sum_of (T : Txt K mg) : Binds K (fdAt K (f__law_sum_of K)) P__law_sum_of [] := T.F__law_sum_of.bindsN fun _ _ _ _ _ _ us hl => match us, hl with | [_], _ => rfl
abbrev N__law_node : List Str := ["_law_box_here", "_law_name", "_law_ahead", "_law_names", "_law_many", "_law_inputs", "_law_kept", "_law_out", "_law_rows", "_law_read", "_law_count", "_law_cells", "_law_straight", "_law_node_here", "_law_names_ahead", "_law_cells_ahead", "_law_straight_ahead", "_law_calls", "_law_k", "_law_args"]
abbrev P__law_node : List Str := ["_law_box_here", "_law_name", "_law_ahead"]
theorem sc__law_node : FnScope N__law_node P__law_node (defScope s__law_node) := ⟨rfl, rfl, rfl, by decide +kernel, rfl, by decide +kernel, by decide +kernel⟩
theorem Txt.b__law_node (T : Txt K mg) : Binds K (fdAt K (f__law_node K)) P__law_node [] := T.F__law_node.bindsN fun _ _ _ _ _ _ us hl => match us, hl with | [_, _, _], _ => rfl
abbrev N__law_chain : List Str := ["_law_box_here", "_law_found", "_law_name"]
abbrev P__law_chain : List Str := ["_law_box_here"]
theorem sc__law_chain : FnScope N__law_chain P__law_chain (defScope s__law_chain) := ⟨rfl, rfl, rfl, by decide +kernel, rfl, by decide +kernel, by decide +kernel⟩
theorem Txt.b__law_chain (T : Txt K mg) : Binds K (fdAt K (f__law_chain K)) P__law_chain [] := T.F__law_chain.bindsN fun _ _ _ _ _ _ us hl => match us, hl with | [_], _ => rfl
abbrev N__law_right : List Str := ["_law_program", "_law_row", "_law_node_here", "_law_count", "_law_cells", "_law_straight", "_law_name", "_law_first", "_law_out", "e"]
abbrev P__law_right : List Str := ["_law_program", "_law_row"]
theorem sc__law_right : FnScope N__law_right P__law_right (defScope s__law_right) := ⟨rfl, rfl, rfl, by decide +kernel, rfl, by decide +kernel, by decide +kernel⟩
theorem Txt.b__law_right (T : Txt K mg) : Binds K (fdAt K (f__law_right K)) P__law_right [] := T.F__law_right.bindsN fun _ _ _ _ _ _ us hl => match us, hl with | [_, _], _ => rfl
abbrev N__law_strange : List Str := ["_law_program", "_law_name", "_law_found", "_law_which", "e"]
abbrev P__law_strange : List Str := ["_law_program", "_law_name"]
theorem sc__law_strange : FnScope N__law_strange P__law_strange (defScope s__law_strange) := ⟨rfl, rfl, rfl, by decide +kernel, rfl, by decide +kernel, by decide +kernel⟩
theorem Txt.b__law_strange (T : Txt K mg) : Binds K (fdAt K (f__law_strange K)) P__law_strange [] := T.F__law_strange.bindsN fun _ _ _ _ _ _ us hl => match us, hl with | [_, _], _ => rfl
abbrev N_law : List Str := ["_law_script", "_law_k", "_law_box_here", "_law_chain_here", "_law_program", "_law_turn", "_law_row"]
abbrev P_law : List Str := ["_law_script"]
theorem sc_law : FnScope N_law P_law (defScope s_law) := ⟨rfl, rfl, rfl, by decide +kernel, rfl, by decide +kernel, by decide +kernel⟩
theorem Txt.b_law (T : Txt K mg) : Binds K (fdAt K (f_law K)) P_law [] := T.F_law.bindsN fun _ _ _ _ _ _ us hl => match us, hl with | [_], _ => rfl
abbrev N_Unknown_init : List Str := ["self", "name"]
abbrev P_Unknown_init : List Str := ["self", "name"]
theorem sc_Unknown_init : FnScope N_Unknown_init P_Unknown_init (defScope s_Unknown_init) := ⟨rfl, rfl, rfl, by decide +kernel, rfl, by decide +kernel, by decide +kernel⟩
theorem Txt.b_Unknown_init (T : Txt K mg) : Binds K (fdAt K (f_Unknown_init K)) P_Unknown_init [] := T.F_Unknown_init.bindsN fun _ _ _ _ _ _ us hl => match us, hl with | [_, _], _ => rfl
abbrev N_TooMany_init : List Str := ["self", "many"]
abbrev P_TooMany_init : List Str := ["self", "many"]
theorem sc_TooMany_init : FnScope N_TooMany_init P_TooMany_init (defScope s_TooMany_init) := ⟨rfl, rfl, rfl, by decide +kernel, rfl, by decide +kernel, by decide +kernel⟩
theorem Txt.b_TooMany_init (T : Txt K mg) : Binds K (fdAt K (f_TooMany_init K)) P_TooMany_init [] := T.F_TooMany_init.bindsN fun _ _ _ _ _ _ us hl => match us, hl with | [_, _], _ => rfl
end
end K99
/-! KR -/
namespace K99
open PySem PySem.Spec PyProof.Rows L2

/-! ### what a for walks, chosen late -/
section
variable {X : Cx}
def rI (X : Cx) (tg l : Expr) : TI := fun σ H R => ∃ t, PI X tg l t ∧ t σ H R
theorem pI {tg l : Expr} : PI X tg l (rI X tg l) := ⟨fun pins s σ H R I h => by
  obtain ⟨t, h1, h2⟩ := h
  exact h1.run pins s σ H R I h2⟩
end

/-! ### heaps -/
theorem Same.new {H : Hp} {p : Addr} {o : HO} (h : H p = none) : Same H (upd H p o) := fun b u e => by
  rw [upd_ne (ne_of_none e h)]
  exact e
theorem Same.mut {H H' : Hp} {p : Addr} {o : HO} (e : Same H H') (h : H p = none) : Same H (upd H' p o) := fun b u q => by
  rw [upd_ne (ne_of_none q h)]
  exact e b u q
theorem Same.sqt {K : PySem.W.Frag} {H H' : Hp} {a : Addr} {xs : List V} (e : Same H H') (h : SqT K H a xs) : SqT K H' a xs := by
  rcases h with (h | ⟨o, h⟩) | h
  · exact .inl (.inl (e _ _ h))
  · exact .inl (.inr ⟨o, e _ _ h⟩)
  · exact .inr h
/-- all but what stands at p is kept -/
def SameX (p : Addr) (H H' : Hp) : Prop := ∀ b o, b ≠ p → H b = some o → H' b = some o
theorem Same.x {H H' : Hp} {p : Addr} (e : Same H H') : SameX p H H' := fun b o _ q => e b o q
theorem SameX.refl (p : Addr) (H : Hp) : SameX p H H := fun _ _ _ q => q
theorem SameX.trans {H H1 H2 : Hp} {p : Addr} (a : SameX p H H1) (b : SameX p H1 H2) : SameX p H H2 := fun c o n q => b c o n (a c o n q)
theorem SameX.put {H H' : Hp} {p : Addr} {o : HO} (e : SameX p H H') : SameX p H (upd H' p o) := fun b u n q => by
  rw [upd_ne n]
  exact e b u n q
theorem SameX.of {H H' : Hp} {p : Addr} (e : SameX p H H') (h : H p = none) : Same H H' := fun b o q => e b o (ne_of_none q h) q
theorem sz {n : Nat} (h : n ≤ 1000000) : n ≤ sizeLine := Nat.le_trans h (by decide)
theorem szl {n : Nat} (h : n ≤ 1000000) : n < sizeLine := Nat.lt_of_le_of_lt h (by decide)

/-! ### loops over the image of a list, by what is taken -/
section
variable {K : PySem.W.Frag} {α : Type} {as : List α} {e : α → V}
theorem pre_more {as pre post : List α} {x : α} {i : Nat} (h : as[i]? = some x) : as = as.take i ++ x :: as.drop (i + 1) := by
  obtain ⟨hi, hx⟩ := List.getElem?_eq_some_iff.mp h
  rw [← hx, List.getElem_cons_drop, List.take_append_drop]
theorem take_more {as : List α} {x : α} {i : Nat} (h : as[i]? = some x) : as.take (i + 1) = as.take i ++ [x] := by
  rw [List.take_add_one, h]
  rfl
/-- a walk over the images of as: the heap stays as it is between -/
def YMap (as : List α) (e : α → V) : Nat → Hp → V → Hp → Prop := fun i H x H' => H' = H ∧ ∃ a, as[i]? = some a ∧ x = e a
theorem yat_map {i : Nat} {H H' : Hp} {x : V} (y : YAt (as.map e) i H x H') : YMap as e i H x H' := by
  obtain ⟨h1, h2⟩ := y
  rw [List.getElem?_map] at h2
  cases q : as[i]? with
  | none =>
    rw [q] at h2
    cases h2
  | some a =>
    rw [q] at h2
    exact ⟨h1, a, q, (Option.some.inj h2).symm⟩
theorem wm_list {a : Addr} (as : List α) (e : α → V) : Walk (Itl K a) as.length (fun H => SqL K H a (as.map e)) (YMap as e) := by
  have w := (walk_list (K := K) (a := a) (xs := as.map e)).mono (G' := fun H => SqL K H a (as.map e)) (Y' := YMap as e) (fun _ h => h) fun i H x H' _ _ y => yat_map y
  rw [List.length_map] at w
  exact w
theorem wm_tup {a : Addr} (as : List α) (e : α → V) : Walk (Itt K a) as.length (fun H => SqT K H a (as.map e)) (YMap as e) := by
  have w := (walk_tup (K := K) (a := a) (xs := as.map e)).mono (G' := fun H => SqT K H a (as.map e)) (Y' := YMap as e) (fun _ h => h) fun i H x H' _ _ y => yat_map y
  rw [List.length_map] at w
  exact w
theorem wm_keys {d : Addr} {o : Obj} {β : Type} (kvs : List β) (k : β → Key) (v : β → V) : Walk (Itk d o (kvs.map fun b => (k b, v b))) kvs.length (fun H => H d = some (.frz o (.dK (kvs.map fun b => (k b, v b))))) (YMap kvs fun b => kV (k b)) := by
  have w := (walk_keys (d := d) (o := o) (kvs := kvs.map fun b => (k b, v b))).mono (G' := fun H => H d = some (.frz o (.dK (kvs.map fun b => (k b, v b))))) (Y' := YMap kvs fun b => kV (k b)) (fun _ h => h) fun i H x H' _ _ y => by
    obtain ⟨h1, k', v', h2, h3⟩ := y
    rw [List.getElem?_map] at h2
    cases q : kvs[i]? with
    | none =>
      rw [q] at h2
      cases h2
    | some a =>
      rw [q] at h2
      obtain ⟨e1, e2⟩ := Prod.mk.inj (Option.some.inj h2)
      exact ⟨h1, a, q, by rw [h3, ← e1]⟩
  rw [List.length_map] at w
  exact w
theorem wm_str (z : Str) : Walk (Its z) z.cps.toList.length (fun _ => True) (YMap z.cps.toList fun c => .str ⟨#[c]⟩) := by
  have w := (walk_str (z := z)).mono (G' := fun _ => True) (Y' := YMap z.cps.toList fun c => .str ⟨#[c]⟩) (fun _ h => h) fun i H x H' _ _ y => by
    obtain ⟨h1, c, h2, h3⟩ := y
    exact ⟨h1, c, by rw [Array.getElem?_toList]; exact h2, h3⟩
  rw [← Array.length_toList] at w
  exact w
variable {J : It} {G : Hp → Prop}
theorem for_map (w : Walk J as.length G (YMap as e)) {g : TG} {tb : TS} {D : Ends} {σ : L2.St} {H : Hp} (Pv : List α → L2.St → Hp → Prop) (h0 : Pv [] σ H) (hG : ∀ pre σ H, Pv pre σ H → G H)
    (hs : ∀ pre x post σ H, as = pre ++ x :: post → Pv pre σ H → g (e x) σ H fun σ2 H2 => tb { D with nx := Pv (pre ++ [x]), ct := Pv (pre ++ [x]), bk := D.nx } σ2 H2) (hd : ∀ σ H, Pv as σ H → D.nx σ H) :
    ∃ W : Nat → Nat → L2.St → Hp → Prop, (∃ m, W 0 m σ H) ∧ ∀ i m σ H, W i m σ H →
      (J.stop i H ∧ D.nx σ H) ∨ (J.go i H ∧ ∃ N : L2.St → Hp → Prop, (∀ σ' H', N σ' H' → ∃ m', m' < m ∧ W (i + 1) m' σ' H') ∧ ∀ x H', J.yld i H x H' → g x σ H' fun σ2 H2 => tb { D with nx := N, ct := N, bk := D.nx } σ2 H2) := by
  refine for_it w (fun i σ H => Pv (as.take i) σ H) h0 (fun i σ H _ p => hG _ σ H p) (fun i x σ H H' hi p y => ?_) (fun σ H p => hd σ H (by rw [List.take_length] at p; exact p))
  obtain ⟨rfl, a, ha, rfl⟩ := y
  have q := hs (as.take i) a (as.drop (i + 1)) σ H' (pre_more (pre := []) (post := []) ha) p
  rw [take_more ha]
  exact q
theorem lc_map (w : Walk J as.length G (YMap as e)) {g : TG} {tt : TT} {te : TE} {vs : List Nat} {σ : L2.St} {H1 : Hp} {D : Addr} {Qd : Hp → Prop} (Pv : List α → Hp → Prop) (h0 : Pv [] (upd H1 D (.lst []))) (hG : ∀ pre H, Pv pre H → G H)
    (hs : ∀ pre x post H, as = pre ++ x :: post → Pv pre H → g (e x) (wipe σ vs) H fun σ2 H2 => wipe σ2 vs = wipe σ vs ∧ tt σ2 H2 fun b H3 =>
      if b = true then te σ2 H3 fun y H4 => ∃ acc, H4 D = some (.lst acc) ∧ acc.length < sizeLine ∧ Pv (pre ++ [x]) (upd H4 D (.lst (acc ++ [y]))) else Pv (pre ++ [x]) H3) (hd : ∀ H, Pv as H → Qd H) :
    ∃ W : Nat → Nat → Hp → Prop, (∃ m, W 0 m (upd H1 D (.lst []))) ∧ ∀ i m H, W i m H →
      (J.stop i H ∧ Qd H) ∨ (J.go i H ∧ ∃ Nx : Hp → Prop, (∀ H', Nx H' → ∃ m', m' < m ∧ W (i + 1) m' H') ∧ ∀ x H', J.yld i H x H' → g x (wipe σ vs) H' fun σ2 H2 => wipe σ2 vs = wipe σ vs ∧ tt σ2 H2 fun b H3 =>
        if b = true then te σ2 H3 fun y H4 => ∃ acc, H4 D = some (.lst acc) ∧ acc.length < sizeLine ∧ Nx (upd H4 D (.lst (acc ++ [y]))) else Nx H3) := by
  refine lc_it w (fun i H => Pv (as.take i) H) h0 (fun i H _ p => hG _ H p) (fun i x H H' hi p y => ?_) (fun H p => hd H (by rw [List.take_length] at p; exact p))
  obtain ⟨rfl, a, ha, rfl⟩ := y
  have q := hs (as.take i) a (as.drop (i + 1)) H' (pre_more (pre := []) (post := []) ha) p
  rw [take_more ha]
  exact q
/-- a comprehension with flat items, each turn laying new objects at most -/
theorem lc_flat (w : Walk J as.length G (YMap as e)) {j : Nat} {tt : TT} {te : TE} {vs : List Nat} {σ : L2.St} {H1 : Hp} {D : Addr} {Qd : Hp → Prop} (p : α → Bool) (f : α → V) (hD : H1 D = none) (hz : as.length ≤ 1000000)
    (hG : ∀ H, Same H1 H → G H) (hw : ∀ x, wipe ((wipe σ vs).set j (some x)) vs = wipe σ vs)
    (ht : ∀ a H, a ∈ as → Same H1 H → ∀ Q : Bool → Hp → Prop, (∀ H', Same H H' → Q (p a) H') → tt ((wipe σ vs).set j (some (e a))) H Q)
    (he : ∀ a H, a ∈ as → p a = true → Same H1 H → ∀ Q : VK, (∀ H', Same H H' → Q (f a) H') → te ((wipe σ vs).set j (some (e a))) H Q)
    (hd : ∀ H, Same H1 H → H D = some (.lst ((as.filter p).map f)) → Qd H) :
    ∃ W : Nat → Nat → Hp → Prop, (∃ m, W 0 m (upd H1 D (.lst []))) ∧ ∀ i m H, W i m H →
      (J.stop i H ∧ Qd H) ∨ (J.go i H ∧ ∃ Nx : Hp → Prop, (∀ H', Nx H' → ∃ m', m' < m ∧ W (i + 1) m' H') ∧ ∀ x H', J.yld i H x H' → gName j x (wipe σ vs) H' fun σ2 H2 => wipe σ2 vs = wipe σ vs ∧ tt σ2 H2 fun b H3 =>
        if b = true then te σ2 H3 fun y H4 => ∃ acc, H4 D = some (.lst acc) ∧ acc.length < sizeLine ∧ Nx (upd H4 D (.lst (acc ++ [y]))) else Nx H3) := by
  refine lc_map w (fun pre H => Same H1 H ∧ H D = some (.lst ((pre.filter p).map f))) ⟨Same.new hD, upd_same⟩ (fun pre H q => hG H q.1) (fun pre x post H ex q => ?_) fun H q => hd H q.1 q.2
  obtain ⟨s1, h1⟩ := q
  have hx : x ∈ as := by
    rw [ex]
    simp
  have hl : pre.length ≤ 1000000 := by
    rw [ex] at hz
    simp at hz
    omega
  refine ⟨hw _, ht x H hx s1 _ fun H2 s2 => ?_⟩
  cases hp : p x with
  | false =>
    refine iteF ⟨s1.trans s2, ?_⟩
    have e0 : (pre ++ [x]).filter p = pre.filter p := by simp [hp]
    rw [e0]
    exact s2 _ _ h1
  | true =>
    refine iteT (he x H2 hx hp (s1.trans s2) _ fun H3 s3 => ⟨_, s3 _ _ (s2 _ _ h1), szl (Nat.le_trans (by rw [List.length_map]; exact List.length_filter_le _ _) hl), Same.mut ((s1.trans s2).trans s3) hD, ?_⟩)
    have e0 : ((pre ++ [x]).filter p).map f = (pre.filter p).map f ++ [f x] := by simp [hp]
    rw [e0]
    exact upd_same
end
end K99
/-! K1 -/
namespace K99
open PySem PySem.Spec PyProof.Rows L2
/-! ### names -/
def lettersZ : Str := "abcdefghijklmnopqrstuvwxyz"
structure Nm (x : Str) : Prop where
  lo : 1 ≤ x.length
  hi : x.length ≤ 8
  own : inV (.str x) ownVs = false
  low : ∀ c ∈ x.cps.toList, c ∈ lettersZ.cps.toList
/-- names with points between -/
structure Ptd (x : Str) : Prop where
  hi : x.length ≤ 80
  sok : x.cps.all (· < 0x110000) = true
  pts : ∃ ps : List Str, ps ≠ [] ∧ ps.length ≤ 100 ∧ (∀ p ∈ ps, Nm p) ∧ x = Txt.join "." ps
section
variable {P : Program} {w : World} {K : PySem.W.Frag} {mg : Str → Option Value} {base : Heap}
def spWhole : Sp := fun vs H Q _ => ∃ i : Int, vs = [.int i] ∧ Q (.bl true) H
theorem ok_is_whole (T : Txt K mg) : FnOk P w K mg base CX0 1 (f_is_whole K) (fdAt K (f_is_whole K)) P_is_whole spWhole := by
  refine FunD.ok T.F_is_whole sc_is_whole (fun vs H Q E h => ?_) (fun cdv A outer s H vs Q E hr h => ?_)
  · obtain ⟨i, rfl, _⟩ := h
    rfl
  · obtain ⟨i, rfl, k⟩ := h
    refine ⟨_, PSs.nox (pss_one (ps_ret (pe_and (pe_callB call_isi (by rfl) T.z_isinstance boot_isinstance (pa_cons (pv 0) (pa_cons (pe_bltn (v := .ty "int") (by rfl) T.z_int boot_int rfl) pa_nil)))
      (pe_one (pe_not (pe_callB call_isi (by rfl) T.z_isinstance boot_isinstance (pa_cons (pv 0) (pa_cons (pe_bltn (v := .ty "bool") (by rfl) T.z_bool boot_bool rfl) pa_nil)))))))), ?_⟩
    refine ⟨_, rfl, _, _, _, _, true, rfl, .ty _, .base (.int i), kit_ty (by decide +kernel), true, rfl, iteT ?_⟩
    exact ⟨_, rfl, _, _, _, _, false, rfl, .ty _, .base (.int i), kit_ty (by decide +kernel), _, rfl, k⟩
def spWithin : Sp := fun vs H Q _ => ∃ i lo hi : Int, vs = [.int i, .int lo, .int hi] ∧ lo ≤ i ∧ i ≤ hi ∧ Q (.bl true) H
theorem ok_is_within (T : Txt K mg) : FnOk P w K mg base CX0 2 (f_is_within K) (fdAt K (f_is_within K)) P_is_within spWithin := by
  refine FunD.ok T.F_is_within sc_is_within (fun vs H Q E h => ?_) (fun cdv A outer s H vs Q E hr h => ?_)
  · obtain ⟨i, lo, hi, rfl, _⟩ := h
    rfl
  · obtain ⟨i, lo, hi, rfl, h1, h2, k⟩ := h
    refine ⟨_, PSs.nox (pss_one (ps_ret (pe_and (pe_call (ok_is_whole T) hr (by rfl) T.g_is_whole T.F_is_whole.kp T.b_is_whole .nil pass0 (pa_cons (pv 0) pa_nil))
      (pe_one (pe_chain op_le op_le (pv 1) (pv 0) (pv 2)))))), ?_⟩
    refine ⟨_, rfl, i, rfl, true, rfl, iteT ?_⟩
    refine ⟨_, rfl, _, rfl, lo, i, rfl, rfl, true, ?_, iteT ⟨_, rfl, i, hi, rfl, rfl, ?_⟩⟩
    · show V.bl (decide (lo ≤ i)) = .bl true
      rw [decide_eq_true h1]
    · show Q (.bl (decide (i ≤ hi))) H
      rw [decide_eq_true h2]
      exact k
def spName : Sp := fun vs H Q _ => ∃ x : Str, vs = [.str x] ∧ Nm x ∧ ∀ H', Same H H' → Q (.bl true) H'
theorem all_true {α : Type} (as : List α) : ((as.filter fun _ => true).map fun _ => V.bl true) = (as.map fun _ => true).map V.bl := by
  induction as with
  | nil => rfl
  | cons a r ih => exact congrArg (V.bl true :: ·) ih
theorem all_id {α : Type} (as : List α) : (as.map fun _ => true).all id = true := by
  simp
theorem ok_is_name (T : Txt K mg) : FnOk P w K mg base CX0 1 (f_is_name K) (fdAt K (f_is_name K)) P_is_name spName := by
  obtain ⟨t1, e1⟩ := T.i_LONGEST
  obtain ⟨t2, e2⟩ := T.s_LETTERS
  refine FunD.ok T.F_is_name sc_is_name (fun vs H Q E h => ?_) (fun cdv A outer s H vs Q E hr h => ?_)
  · obtain ⟨x, rfl, _⟩ := h
    rfl
  · obtain ⟨x, rfl, N, k⟩ := h
    refine ⟨_, PSs.nox (pss_cons (ps_if (PW.pt (pw_or (pt_not (pt_val (pe_callB call_isi (by rfl) T.z_isinstance boot_isinstance (pa_cons (pv 0) (pa_cons (pe_bltn (v := .ty "str") (by rfl) T.z_str boot_str rfl) pa_nil)))))
        (pw_or (pt_not (pt_chain op_le op_le pe_int (pe_callB call_len_str (by rfl) T.z_len PySem.boot_len (pa_cons (pv 0) pa_nil)) (pe_glob (v := .int 8) rfl e1 ⟨t1, rfl⟩)))
          (pw_or1 (pt_cmpR op_in_seq (pv 0) (pe_glob (v := .ref (He.ga K "OWN")) rfl T.t_OWN.1 rfl) (by rfl)))))) pB pss_nil)
      (pss_one (ps_ret (pe_callB (cr_all (by rfl)) (by rfl) T.z_all (by decide +kernel) (pa_cons (pe_lc (own := [("sign", 1)]) (g := gName 1) (by rfl) sc_is_name.nd (pi_str (pv 0)) (blkOk_by (N := N_is_name) (sc := defScope s_is_name) (by decide +kernel))
        (fun _ _ _ _ _ => pg_name (i := 1) sc_is_name.nd rfl (Or.inl rfl)) (fun _ _ _ _ _ => pts_nil) (fun _ _ _ _ _ => pe_cmpR op_in_sign (pv 1) (pe_glob (v := .str lettersZ) rfl e2 ⟨t2, rfl⟩) (by rfl))) pa_nil))))), ?_⟩
    refine ⟨_, rfl, _, _, _, _, true, rfl, .ty _, .base (.str x), kit_ty (by decide +kernel), true, rfl, iteF ?_⟩
    refine ⟨_, rfl, x, rfl, sz (Nat.le_trans N.hi (by decide)), _, _, rfl, rfl, true, ?_, iteT ⟨_, _, rfl, rfl, true, ?_, iteF ?_⟩⟩
    · have := N.lo
      show V.bl (decide ((1 : Int) ≤ (x.length : Nat))) = .bl true
      rw [decide_eq_true (by omega)]
    · show V.bl (decide (((x.length : Nat) : Int) ≤ 8)) = .bl true
      rw [decide_eq_true (show ((x.length : Nat) : Int) ≤ 8 by have := N.hi; omega)]
    refine ⟨_, rfl, _, ownVs, rfl, .inr (T.t_OWN.2 H), rfl, by decide +kernel, false, ?_, iteF ?_⟩
    · rw [N.own]
      all_goals rfl
    refine ⟨_, rfl, x, rfl, fun D hD => ?_⟩
    refine lc_flat (wm_str x) (fun _ => true) (fun _ => .bl true) hD (by have := N.hi; exact Nat.le_trans this (by decide)) (fun _ _ => trivial) (fun _ => rfl) (fun a H' _ _ Q' q => q H' (Same.refl _)) (fun c H' hc _ _ Q' q => ?_) (fun H' s1 h1 => ?_)
    · refine ⟨_, rfl, c, lettersZ, rfl, rfl, ?_⟩
      rw [decide_eq_true (N.low c hc)]
      exact q H' (Same.refl _)
    · exact ⟨D, x.cps.toList.map fun _ => true, rfl, SqL.of (by rw [h1, all_true]), by rw [all_id]; exact k H' s1⟩
def spPointed : Sp := fun vs H Q _ => ∃ x : Str, vs = [.str x] ∧ Ptd x ∧ ∀ H', Same H H' → Q (.bl true) H'
theorem nm_nodot {p : Str} (N : Nm p) : 46 ∉ TL.tl p := fun h => by
  have := N.low 46 h
  revert this
  decide +kernel
theorem ok_is_pointed (T : Txt K mg) : FnOk P w K mg base CX0 2 (f_is_pointed K) (fdAt K (f_is_pointed K)) P_is_pointed spPointed := by
  obtain ⟨t1, e1⟩ := T.i_MOST_SIGNS
  refine FunD.ok T.F_is_pointed sc_is_pointed (fun vs H Q E h => ?_) (fun cdv A outer s H vs Q E hr h => ?_)
  · obtain ⟨x, rfl, _⟩ := h
    rfl
  · obtain ⟨x, rfl, N, k⟩ := h
    refine ⟨_, PSs.nox (pss_cons (ps_if (PW.pt (pw_or (pt_not (pt_val (pe_callB call_isi (by rfl) T.z_isinstance boot_isinstance (pa_cons (pv 0) (pa_cons (pe_bltn (v := .ty "str") (by rfl) T.z_str boot_str rfl) pa_nil)))))
        (pw_or1 (pt_cmpR op_gt (pe_callB call_len_str (by rfl) T.z_len PySem.boot_len (pa_cons (pv 0) pa_nil)) (pe_glob (v := .int 80) rfl e1 ⟨t1, rfl⟩) (by rfl))))) pB pss_nil)
      (pss_one (ps_ret (pe_callB (cr_all (by rfl)) (by rfl) T.z_all (by decide +kernel) (pa_cons (pe_lc (own := [("part", 1)]) (g := gName 1) (by rfl) sc_is_pointed.nd (pi_list (pe_split (pv 0) pe_str)) (blkOk_by (N := N_is_pointed) (sc := defScope s_is_pointed) (by decide +kernel))
        (fun _ _ _ _ _ => pg_name (i := 1) sc_is_pointed.nd rfl (Or.inl rfl)) (fun _ _ _ _ _ => pts_nil) (fun _ _ _ _ _ => pe_call (ok_is_name T) hr (by rfl) T.g_is_name T.F_is_name.kp T.b_is_name .nil pass0 (pa_cons (pv 1) pa_nil))) pa_nil))))), ?_⟩
    have hl := N.hi
    refine ⟨_, rfl, _, _, _, _, true, rfl, .ty _, .base (.str x), kit_ty (by decide +kernel), true, rfl, iteF ?_⟩
    refine ⟨_, rfl, x, rfl, sz (Nat.le_trans hl (by decide)), _, _, rfl, rfl, false, ?_, iteF ?_⟩
    · show V.bl (decide (((80 : Nat) : Int) < ((x.length : Nat) : Int))) = .bl false
      rw [decide_eq_false (by omega)]
    obtain ⟨ps, h0, h100, hN, ex⟩ := N.pts
    have es : Txt.split x "." = ps := by
      rw [ex]
      exact TL.split_join (y := ".") (s := 46) (S := []) (by decide +kernel) (by decide +kernel) h0 fun p hp => nm_nodot (hN p hp)
    have hps : ps.length ≤ 1000000 := by omega
    refine ⟨_, rfl, ⟨_, rfl⟩, x, ".", rfl, rfl, by decide +kernel, sz (by omega), fun l hl => ⟨_, rfl, ⟨_, SqL.of upd_same⟩, fun D hD => ?_⟩⟩
    rw [es] at hD ⊢
    have hlD : l ≠ D := ne_of_none upd_same hD
    refine lc_flat (wm_list ps V.str) (fun _ => true) (fun _ => .bl true) hD hps (fun H' s' => SqL.of (s' _ _ upd_same)) (fun _ => rfl) (fun a H' _ _ Q' q => q H' (Same.refl _)) (fun p H' hp _ _ Q' q => ?_) (fun H' s1 h1 => ?_)
    · exact ⟨_, rfl, p, rfl, hN p hp, fun H2 s2 => q H2 s2⟩
    · exact ⟨D, ps.map fun _ => true, rfl, SqL.of (by rw [h1, all_true]), by rw [all_id]; exact k H' ((Same.new hl).trans s1)⟩
def spValue : Sp := fun vs H Q _ => ∃ i : Int, vs = [.int i] ∧ -1000000000 ≤ i ∧ i ≤ 1000000000 ∧ Q (.bl true) H
theorem ok_is_value (T : Txt K mg) : FnOk P w K mg base CX0 3 (f_is_value K) (fdAt K (f_is_value K)) P_is_value spValue := by
  obtain ⟨t1, e1⟩ := T.i_MOST
  refine FunD.ok T.F_is_value sc_is_value (fun vs H Q E h => ?_) (fun cdv A outer s H vs Q E hr h => ?_)
  · obtain ⟨i, rfl, _⟩ := h
    rfl
  · obtain ⟨i, rfl, h1, h2, k⟩ := h
    refine ⟨_, PSs.nox (pss_one (ps_ret (pe_or (pe_callB call_isi (by rfl) T.z_isinstance boot_isinstance (pa_cons (pv 0) (pa_cons (pe_bltn (v := .ty "bool") (by rfl) T.z_bool boot_bool rfl) pa_nil)))
      (pe_one (pe_call (ok_is_within T) hr (by rfl) T.g_is_within T.F_is_within.kp T.b_is_within .nil pass0 (pa_cons (pv 0) (pa_cons (pe_un un_neg (pe_glob (v := .int 1000000000) rfl e1 ⟨t1, rfl⟩)) (pa_cons (pe_glob (v := .int 1000000000) rfl e1 ⟨t1, rfl⟩) pa_nil)))))))), ?_⟩
    refine ⟨_, rfl, _, _, _, _, false, rfl, .ty _, .base (.int i), kit_ty (by decide +kernel), false, rfl, iteF ?_⟩
    exact ⟨_, rfl, _, rfl, i, _, _, rfl, h1, h2, k⟩
end
end K99
/-! KU -/
namespace K99
open PySem PySem.Spec PyProof.Rows L2

theorem rE.mono {X : Cx} {e : Expr} {σ : L2.St} {H : Hp} {Q Q' : VK} (h : rE X e σ H Q) (hq : ∀ v H', Q v H' → Q' v H') : rE X e σ H Q' := fun pins s I => thn (h pins s I) fun u s' ⟨v, H', I', r, q⟩ => ⟨v, H', I', r, hq v H' q⟩

/-! ### a method of an object whose class is found by what it stands for -/
section
variable {X : Cx} {α : Type} {Obj : Hp → Addr → α → Prop} {spd : α → Sp} {E : XK} {CX : CXT} {m : Str} {lv : Nat}
def MO (P : Program) (w : World) (K : PySem.W.Frag) (mg : Str → Option Value) (base : Heap) (CX : CXT) (Obj : Hp → Addr → α → Prop) (m : Str) (lv : Nat) (d : α) (sp : Sp) : Prop :=
  ∃ C f fd ps, Cls K C ∧ Meth K C m f ∧ FnOk P w K mg base CX lv f fd ps sp ∧ Binds K fd ps [] ∧ ∀ H a, Obj H a d → ∃ dx fs, H a = some (.ins C dx fs) ∧ fs.lookup m = none
def tUM (Obj : Hp → Addr → α → Prop) (p : α → Prop) (spd : α → Sp) (E : XK) (ta : TE) (t : TA) : TE := fun σ H Q => ∃ d, p d ∧ ta σ H fun x H1 => ∃ a, x = .ref a ∧ Obj H1 a d ∧ t σ H1 fun vs H2 => spd d (x :: (vs ++ [])) H2 Q E
theorem pe_um {p : α → Prop} {pos apos : Pos} {e o : Expr} {es : List Expr} {ta : TE} {t : TA} {pl : Sem Bool} (hm : ∀ d, p d → MO X.prog X.w X.K X.mg X.base CX Obj m lv d (spd d)) (h : PE X o ta) (hr : Room lv X.A) (hE : Passes CX X E) (ha : PA X (e :: es) t)
    (h1 : starEach (e :: es) X.env = (false, eval e X.env) :: starEach es X.env := by rfl) (h2 : ((backTo pos (starEach es X.env)).any fun x => x.fst) = false := by rfl)
    (h3 : eval (.Call (.Attribute o m apos) (e :: es) [] pos) X.env = (do
      let ov ← eval o X.env
      standAt apos.atName
      let (f, first) ← holding [ov] (getMethod ov m pl)
      callWith pos f first (backTo pos (starEach (e :: es) X.env)) (backToKw pos (keywordEach [] X.env))) := by rfl) :
    PE X (.Call (.Attribute o m apos) (e :: es) [] pos) (tUM Obj p spd E ta t) := by
  refine ⟨fun pins s σ H Q I q => ?_⟩
  obtain ⟨d, hp, q⟩ := q
  obtain ⟨C, f, fd, ps, c1, c2, c3, c4, c5⟩ := hm d hp
  refine (pe_meth (pl := pl) (dvs := []) pE c1 c2 c3 hr c4 .nil hE ha h1 h2 h3).run pins s σ H Q I ?_
  refine rE.mono (rE.go h q) fun v H1 q1 => ?_
  obtain ⟨a, rfl, o1, q1⟩ := q1
  obtain ⟨dx, fs, e1, e2⟩ := c5 H1 a o1
  exact ⟨a, dx, fs, rfl, e1, e2, q1⟩
theorem pe_um0 {p : α → Prop} {pos apos : Pos} {o : Expr} {ta : TE} {pl : Sem Bool} (hm : ∀ d, p d → MO X.prog X.w X.K X.mg X.base CX Obj m lv d (spd d)) (h : PE X o ta) (hr : Room lv X.A) (hE : Passes CX X E)
    (h3 : eval (.Call (.Attribute o m apos) [] [] pos) X.env = (do
      let ov ← eval o X.env
      standAt apos.atName
      let (f, first) ← holding [ov] (getMethod ov m pl)
      callWith pos f first (backTo pos (starEach [] X.env)) (backToKw pos (keywordEach [] X.env))) := by rfl) :
    PE X (.Call (.Attribute o m apos) [] [] pos) (tUM Obj p spd E ta tNil) := by
  refine ⟨fun pins s σ H Q I q => ?_⟩
  obtain ⟨d, hp, q⟩ := q
  obtain ⟨C, f, fd, ps, c1, c2, c3, c4, c5⟩ := hm d hp
  refine (pe_meth0 (pl := pl) (dvs := []) pE c1 c2 c3 hr c4 .nil hE h3).run pins s σ H Q I ?_
  refine rE.mono (rE.go h q) fun v H1 q1 => ?_
  obtain ⟨a, rfl, o1, q1⟩ := q1
  obtain ⟨dx, fs, e1, e2⟩ := c5 H1 a o1
  exact ⟨a, dx, fs, rfl, e1, e2, q1⟩
end

/-! ### max of a list of ints, by default -/
def rMaxD (K : PySem.W.Frag) : List V → List V → Hp → VK → Prop := fun vs zs H Q => ∃ (a : Addr) (ns : List Int) (d : Int), vs = [V.ref a] ∧ zs = [V.int d] ∧ SqL K H a (ns.map V.int) ∧ (ns = [] → Q (.int d) H) ∧ ∀ m, m ∈ ns → Q (.int m) H
theorem intsAre_at : ∀ {vs : List Value} {ns : List Int} {i : Nat} {v : Value}, IntsAre vs ns → vs[i]? = some v → ∃ m t, v = .int m t ∧ m ∈ ns := by
  intro vs ns i v h
  induction h generalizing i with
  | nil =>
    intro h
    simp at h
  | cons n t r ih =>
    intro h
    cases i with
    | zero =>
      simp at h
      exact ⟨_, _, h.symm, List.mem_cons_self⟩
    | succ i =>
      simp at h
      obtain ⟨m, t', e, hm⟩ := ih h
      exact ⟨m, t', e, List.mem_cons_of_mem _ hm⟩
theorem cr_maxD {X : Cx} (hu : X.A.units + 64 < cLine) (hc : X.calm = true) : CallRK X (.builtin "max") [Str.ofString "default"] (rMaxD X.K) := by
  intro pins s σ H vs zs us ws Q I r rz h
  obtain ⟨a, ns, d, rfl, rfl, hs, q0, q1⟩ := h
  obtain ⟨its, rv, hl, hz⟩ := I.list hs
  obtain rfl := Vals.ref1 r
  obtain ⟨w1, rfl, e1⟩ := vals1 rz
  obtain ⟨t1, rfl⟩ := e1
  have hi := rv.ints
  refine PySem.W.max_list_datum_default (α := Int) (xs := ns) (I.ok.hd hc) hl.isList ⟨[], ?_⟩ ?_ (fun e h' tk hk => ?_) fun y ys i v h' tk e hi' hh hk => ?_
  · exact hi.reads s.heap
  · show X.A.units + 1 + 0 < cLine
    omega
  · exact ⟨.int d, H, I.kept hk, ⟨_, rfl⟩, q0 e⟩
  · obtain ⟨m, t, rfl, hm⟩ := intsAre_at hi (by rw [Array.getElem?_toList] at *; simpa using hi')
    exact ⟨.int m, H, I.kept hk, ⟨_, rfl⟩, q1 m hm⟩
end K99
/-! KL -/
namespace K99
open PySem PySem.Spec PyProof.Rows L2
/-! ### small things -/
theorem tyx_sqt {K : PySem.W.Frag} {H : Hp} {a : Addr} {xs : List V} (h : SqT K H a xs) : TyX K H (.ref a) (.type "tuple") := by
  rcases h with (h | ⟨o, h⟩) | ⟨o, its, n, h1, h2, _⟩
  · exact .base (.tup h)
  · exact .fTuple h
  · exact .kTuple h1 h2
theorem tyx_lst {K : PySem.W.Frag} {H : Hp} {a : Addr} {xs : List V} (h : H a = some (.lst xs)) : TyX K H (.ref a) (.type "list") := .base (.lst h)
theorem eqV_str {x y : Str} : eqV (.str x) (.str y) = decide (x = y) := by
  show decide (x = y) = _
  rfl
theorem inV_str {x : Str} {ys : List Str} : inV (.str x) (ys.map .str) = decide (x ∈ ys) := by
  show (ys.map V.str).any (fun y => eqV y (.str x)) = _
  induction ys with
  | nil => rfl
  | cons y r ih =>
    show (eqV (.str y) (.str x) || (r.map V.str).any fun y => eqV y (.str x)) = _
    rw [ih]
    by_cases h : y = x
    · subst h
      show (decide (y = y) || _) = _
      simp
    · show (decide (y = x) || _) = _
      have h' : ¬ x = y := fun e => h e.symm
      simp [h, h']
theorem flat_str {ys : List Str} : (ys.map V.str).all flatV = true := by
  induction ys with
  | nil => rfl
  | cons y r ih => exact ih
theorem nin_str {x : Str} {ys : List Str} (h : x ∉ ys) : inV (.str x) (ys.map .str) = false := by rw [inV_str, decide_eq_false h]
theorem yin_str {x : Str} {ys : List Str} (h : x ∈ ys) : inV (.str x) (ys.map .str) = true := by rw [inV_str, decide_eq_true h]
theorem filter_all {α : Type} {p : α → Bool} {xs : List α} (h : ∀ x, x ∈ xs → p x = true) : xs.filter p = xs := List.filter_eq_self.mpr h
/-- a new object's heap -/
theorem new_same {H H2 : Hp} {x dx : Addr} {u v : HO} (h1 : H x = none) (h2 : H dx = none) (e : SameX x (upd (upd H dx u) x v) H2) : Same H H2 := fun b o q => by
  have n1 := ne_of_none q h1
  have n2 := ne_of_none q h2
  exact e b o n1 (by rw [upd_ne n1, upd_ne n2]; exact q)
theorem SameX.upd2 {H : Hp} {x : Addr} {v : HO} : SameX x H (upd H x v) := fun b o n q => by
  rw [upd_ne n]
  exact q
theorem Same.thenX {H H1 H2 : Hp} {p : Addr} (a : Same H H1) (b : SameX p H1 H2) : SameX p H H2 := SameX.trans (Same.x a) b
theorem Same.backX {H H1 H2 : Hp} {p : Addr} (a : SameX p H H1) (b : Same H1 H2) : SameX p H H2 := SameX.trans a (Same.x b)
end K99
namespace K99
open PySem PySem.Spec PyProof.Rows L2
/-! ### rules in a comprehension's block: what is known of the text is the same there -/
section
variable {X : Cx} {K : PySem.W.Frag}
theorem pe_fldK {e : Expr} {f : Str} {pos : Pos} {ta : TE} (h : PE X e ta) (h2 : attributeBase e f X.env (eval e X.env) = eval e X.env) (hK : X.K = K := by rfl) : PE X (.Attribute e f pos) (tFld K ta f) := by
  subst hK
  exact pe_fld h h2
theorem pg_tupK {pos : Pos} {es : List Expr} {k : Nat} {t : TGs} {n : Nat} (hc : X.calm = true) (h : PGs X es t) (h1 : (assignEach es X.env).length = n := by rfl) (h2 : List.findIdx? (fun x => x.fst) (assignEach es X.env) = none := by rfl) (hK : X.K = K := by rfl) : PG X (.Tuple es k pos) (gTup K n t) := by
  subst hK
  exact pg_tup hc h h1 h2
def rLenS (K : PySem.W.Frag) : List V → Hp → VK → Prop := fun xs H Q => ∃ p ys, xs = [V.ref p] ∧ (SqL K H p ys ∨ SqT K H p ys) ∧ Q (V.int ys.length) H
theorem call_len_seqK (hK : X.K = K := by rfl) : CallR X (.builtin "len") (rLenS K) := by
  subst hK
  exact call_len_seq
def rListOf (K : PySem.W.Frag) : List V → Hp → VK → Prop := fun xs H Q => ∃ p ys, xs = [V.ref p] ∧ (SqL K H p ys ∨ SqT K H p ys) ∧ ∀ l, H l = none → Q (V.ref l) (upd H l (.lst ys))
theorem call_list_ofK (hK : X.K = K := by rfl) : CallR X (.type "list") (rListOf K) := by
  subst hK
  exact call_list_of
end
end K99
namespace K99
open PySem PySem.Spec PyProof.Rows L2
/-- all that was tracked but lists and dicts is as it was -/
def SameN (H H' : Hp) : Prop := ∀ b o, H b = some o → (∀ xs, o ≠ .lst xs) → (∀ kvs, o ≠ .dK kvs) → H' b = some o
theorem Same.n {H H' : Hp} (e : Same H H') : SameN H H' := fun b o q _ _ => e b o q
theorem SameN.refl (H : Hp) : SameN H H := fun _ _ q _ _ => q
theorem SameN.trans {H H1 H2 : Hp} (a : SameN H H1) (b : SameN H1 H2) : SameN H H2 := fun c o q n m => b c o (a c o q n m) n m
theorem SameX.nL {H H' : Hp} {D : Addr} {xs : List V} (s : SameX D H H') (h : H D = some (.lst xs)) : SameN H H' := fun b o q n _ => by
  refine s b o (fun e => ?_) q
  subst e
  rw [h] at q
  exact n xs (Option.some.inj q).symm
theorem SameX.nD {H H' : Hp} {D : Addr} {kvs : List (Key × V)} (s : SameX D H H') (h : H D = some (.dK kvs)) : SameN H H' := fun b o q _ n => by
  refine s b o (fun e => ?_) q
  subst e
  rw [h] at q
  exact n kvs (Option.some.inj q).symm
theorem SameN.lst {H : Hp} {D : Addr} {xs ys : List V} (h : H D = some (.lst xs)) : SameN H (upd H D (.lst ys)) := SameX.nL (fun b o n q => by rw [upd_ne n]; exact q) h
theorem SameN.sqt {K : PySem.W.Frag} {H H' : Hp} {a : Addr} {xs : List V} (e : SameN H H') (h : SqT K H a xs) : SqT K H' a xs := by
  rcases h with (h | ⟨o, h⟩) | h
  · exact .inl (.inl (e _ _ h (fun _ q => by cases q) (fun _ q => by cases q)))
  · exact .inl (.inr ⟨o, e _ _ h (fun _ q => by cases q) (fun _ q => by cases q)⟩)
  · exact .inr h
theorem SameN.ins {H H' : Hp} {a C dx : Addr} {fs : List (Str × V)} (e : SameN H H') (h : H a = some (.ins C dx fs)) : H' a = some (.ins C dx fs) := e _ _ h (fun _ q => by cases q) (fun _ q => by cases q)
section
variable {α : Type} {as : List α} {e : α → V} {J : It} {G : Hp → Prop}
/-- a comprehension of which each turn makes a new thing -/
theorem lc_new (w : Walk J as.length G (YMap as e)) {j : Nat} {te : TE} {vs : List Nat} {σ : L2.St} {H1 : Hp} {D : Addr} {Qd : Hp → Prop} (R : Hp → α → V → Prop) (hR : ∀ H H' a v, SameN H H' → R H a v → R H' a v) (hD : H1 D = none) (hz : as.length ≤ 1000000)
    (hG : ∀ H, Same H1 H → G H) (hw : ∀ x, wipe ((wipe σ vs).set j (some x)) vs = wipe σ vs)
    (he : ∀ a H, a ∈ as → Same H1 H → ∀ Q : VK, (∀ v H', Same H H' → R H' a v → Q v H') → te ((wipe σ vs).set j (some (e a))) H Q)
    (hd : ∀ H xs, Same H1 H → H D = some (.lst xs) → Paired (R H) as xs → Qd H) {tt : TT} (ht : ∀ σ H (Q : Bool → Hp → Prop), Q true H → tt σ H Q) :
    ∃ W : Nat → Nat → Hp → Prop, (∃ m, W 0 m (upd H1 D (.lst []))) ∧ ∀ i m H, W i m H →
      (J.stop i H ∧ Qd H) ∨ (J.go i H ∧ ∃ Nx : Hp → Prop, (∀ H', Nx H' → ∃ m', m' < m ∧ W (i + 1) m' H') ∧ ∀ x H', J.yld i H x H' → gName j x (wipe σ vs) H' fun σ2 H2 => wipe σ2 vs = wipe σ vs ∧ tt σ2 H2 fun b H3 =>
        if b = true then te σ2 H3 fun y H4 => ∃ acc, H4 D = some (.lst acc) ∧ acc.length < sizeLine ∧ Nx (upd H4 D (.lst (acc ++ [y]))) else Nx H3) := by
  refine lc_map w (fun pre H => Same H1 H ∧ ∃ xs, H D = some (.lst xs) ∧ Paired (R H) pre xs) ⟨Same.new hD, _, upd_same, .nil⟩ (fun pre H q => hG H q.1) (fun pre x post H ex q => ?_) fun H q => ?_
  · obtain ⟨s1, xs, h1, h2⟩ := q
    have hx : x ∈ as := by
      rw [ex]
      simp
    have hl : xs.length ≤ 1000000 := by
      rw [← h2.length]
      rw [ex] at hz
      simp at hz
      omega
    refine ⟨hw _, ht _ _ _ ?_⟩
    refine iteT (he x H hx s1 _ fun v H3 s3 r => ?_)
    have h3 := s3 _ _ h1
    refine ⟨_, h3, szl hl, Same.mut (s1.trans s3) hD, _, upd_same, ?_⟩
    have n3 : SameN H3 (upd H3 D (.lst (xs ++ [v]))) := SameN.lst h3
    exact (L2.Paired.mapP h2 fun a b q => hR _ _ _ _ (SameN.trans (Same.n s3) n3) q).snoc (hR _ _ _ _ n3 r)
  · obtain ⟨s1, xs, h1, h2⟩ := q
    exact hd H xs s1 h1 h2
end
end K99
namespace K99
open PySem PySem.Spec PyProof.Rows L2
theorem FnOk.ex {P : Program} {w : World} {K : PySem.W.Frag} {mg : Str → Option Value} {base : Heap} {CX : CXT} {k : Nat} {f : Addr} {fd : FuncData} {ps : List Str} {ι : Type} {p : ι → Prop} {spd : ι → Sp} (F : ∀ d, p d → FnOk P w K mg base CX k f fd ps (spd d)) :
    FnOk P w K mg base CX k f fd ps (fun vs H Q E => ∃ d, p d ∧ spd d vs H Q E) :=
  ⟨fun vs H Q E ⟨d, hd, q⟩ => (F d hd).len vs H Q E q, fun A outer s H args us vs Q E hr he hb hv ⟨d, hd, q⟩ => (F d hd).run A outer s H args us vs Q E hr he hb hv q⟩
end K99
namespace K99
open PySem PySem.Spec PyProof.Rows L2
theorem pi_listK {X : Cx} {K : PySem.W.Frag} {tg l : Expr} {tl : TE} (h : PE X l tl) (hK : X.K = K := by rfl) : PI X tg l (iList K tl) := by
  subst hK
  exact pi_list h
end K99
/-! K2 -/
namespace K99
open PySem PySem.Spec PyProof.Rows L2
/-! ### terms: sums of names -/
inductive Tm where
  | nm (x : Str)
  | two (l : Tm) (x : Str)
def Tm.dep : Tm → Nat
  | .nm _ => 1
  | .two l _ => l.dep + 1
def Tm.nms : Tm → List Str
  | .nm x => [x]
  | .two l x => l.nms ++ [x]
def Tm.map (f : Str → Str) : Tm → Tm
  | .nm x => .nm (f x)
  | .two l x => .two (l.map f) (f x)
theorem Tm.map_dep {f : Str → Str} : ∀ t : Tm, (t.map f).dep = t.dep
  | .nm _ => rfl
  | .two l x => congrArg (· + 1) (Tm.map_dep l)
theorem Tm.map_nms {f : Str → Str} : ∀ t : Tm, (t.map f).nms = t.nms.map f
  | .nm _ => rfl
  | .two l x => by
    show (l.map f).nms ++ [f x] = (l.nms ++ [x]).map f
    rw [Tm.map_nms l, List.map_append]
    rfl
theorem Tm.dep_pos : ∀ t : Tm, 1 ≤ t.dep
  | .nm _ => Nat.le_refl 1
  | .two l _ => Nat.le_add_left 1 _
theorem Tm.nms_len : ∀ t : Tm, t.nms.length = t.dep
  | .nm _ => rfl
  | .two l x => by
    show (l.nms ++ [x]).length = l.dep + 1
    rw [List.length_append, Tm.nms_len l]
    rfl
/-- told as tuples -/
def TmD (K : PySem.W.Frag) (H : Hp) : Addr → Tm → Prop
  | a, .nm x => SqT K H a [.str "name", .str x]
  | a, .two l x => ∃ b c, SqT K H a [.str "two", .str "+", .ref b, .ref c] ∧ TmD K H b l ∧ SqT K H c [.str "name", .str x]
/-- as an object -/
def TmO (K : PySem.W.Frag) (H : Hp) : Addr → Tm → Prop
  | a, .nm x => ∃ dx, H a = some (.ins (A_Name K) dx [("name", .str x)])
  | a, .two l x => ∃ dx b c dc, H a = some (.ins (A_Two K) dx [("op", .str "+"), ("one", .ref b), ("second", .ref c)]) ∧ TmO K H b l ∧ H c = some (.ins (A_Name K) dc [("name", .str x)])
theorem TmD.mono {K : PySem.W.Frag} {H H' : Hp} (e : Same H H') : ∀ {t : Tm} {a : Addr}, TmD K H a t → TmD K H' a t
  | .nm _, _, h => Same.sqt e h
  | .two _ _, _, ⟨b, c, h1, h2, h3⟩ => ⟨b, c, Same.sqt e h1, TmD.mono e h2, Same.sqt e h3⟩
theorem TmO.mono {K : PySem.W.Frag} {H H' : Hp} (e : Same H H') : ∀ {t : Tm} {a : Addr}, TmO K H a t → TmO K H' a t
  | .nm _, _, ⟨dx, h⟩ => ⟨dx, e _ _ h⟩
  | .two _ _, _, ⟨dx, b, c, dc, h1, h2, h3⟩ => ⟨dx, b, c, dc, e _ _ h1, TmO.mono e h2, e _ _ h3⟩
def Tm.cls (K : PySem.W.Frag) : Tm → Addr
  | .nm _ => A_Name K
  | .two _ _ => A_Two K
def ToB (K : PySem.W.Frag) : Hp → Addr → Tm → Prop := fun H a t => TmO K H a t
section
variable {P : Program} {w : World} {K : PySem.W.Frag} {mg : Str → Option Value} {base : Heap}
def spOps : Sp := fun vs H Q _ => vs = [] ∧ ∀ l H', Same H H' → H' l = some (.lst opsVs) → Q (.ref l) H'
theorem ok_ops_told (T : Txt K mg) : FnOk P w K mg base CX0 1 (f_ops_told K) (fdAt K (f_ops_told K)) P_ops_told (spOps) := by
  refine FunD.ok T.F_ops_told sc_ops_told (fun vs H Q E h => ?_) (fun cdv A outer s H vs Q E hr h => ?_)
  · obtain ⟨rfl, _⟩ := h
    rfl
  · obtain ⟨rfl, k⟩ := h
    refine ⟨_, PSs.nox (pss_one (ps_ret (pe_callTy call_list_of (by rfl) T.z_list boot_list (pa_cons (pe_glob (v := .ref (He.ga K "OPS")) rfl T.t_OPS.1 rfl) pa_nil)))), ?_⟩
    exact ⟨_, _, rfl, .inr (T.t_OPS.2 H), fun l hl => k l _ (Same.new hl) upd_same⟩
/-! ### parts -/
def spParts0 : Sp := fun vs H Q _ => ∃ a, vs = [V.ref a] ∧ ∀ l H', Same H H' → H' l = some (.lst []) → Q (.ref l) H'
theorem ok_Term_parts (T : Txt K mg) : FnOk P w K mg base CX0 1 (f_Term_parts K) (fdAt K (f_Term_parts K)) P_Term_parts (spParts0) := by
  refine FunD.ok T.F_Term_parts sc_Term_parts (fun vs H Q E h => ?_) (fun cdv A outer s H vs Q E hr h => ?_)
  · obtain ⟨a, rfl, _⟩ := h
    rfl
  · obtain ⟨a, rfl, k⟩ := h
    refine ⟨_, PSs.nox (pss_one (ps_ret (pe_lst pa_nil))), ?_⟩
    exact ⟨Nat.zero_le _, fun l hl => k l _ (Same.new hl) upd_same⟩
def Tm.sub : Tm → List Tm
  | .nm _ => []
  | .two l x => [l, .nm x]
def Tm.ps (K : PySem.W.Frag) (H : Hp) (t : Tm) (xs : List V) : Prop := ∃ ps : List (Addr × Tm), xs = ps.map (fun p => V.ref p.1) ∧ ps.map (·.2) = t.sub ∧ ∀ p, p ∈ ps → TmO K H p.1 p.2
def spParts (K : PySem.W.Frag) (t : Tm) : Sp := fun vs H Q _ => ∃ a H0, vs = [V.ref a] ∧ Same H0 H ∧ TmO K H0 a t ∧ ∀ l xs H', Same H H' → Tm.ps K H0 t xs → H' l = some (.lst xs) → Q (.ref l) H'
theorem ok_Two_parts (T : Txt K mg) (l : Tm) (x : Str) : FnOk P w K mg base CX0 1 (f_Two_parts K) (fdAt K (f_Two_parts K)) P_Two_parts (spParts K (.two l x)) := by
  refine FunD.ok T.F_Two_parts sc_Two_parts (fun vs H Q E h => ?_) (fun cdv A outer s H vs Q E hr h => ?_)
  · obtain ⟨a, H0, rfl, _⟩ := h
    rfl
  · obtain ⟨a, H0, rfl, s0, o, k⟩ := h
    obtain ⟨dx, b, c, dc, h1, h2, h3⟩ := o
    refine ⟨_, PSs.nox (pss_one (ps_ret (pe_lst (pa_cons (pe_fld (pv 0) rfl) (pa_cons (pe_fld (pv 0) rfl) pa_nil))))), ?_⟩
    refine ⟨_, rfl, _, _, _, _, _, rfl, s0 _ _ h1, T.c_Two, T.n_Two_one, rfl, ?_⟩
    refine ⟨_, rfl, _, _, _, _, _, rfl, s0 _ _ h1, T.c_Two, T.n_Two_second, rfl, ?_⟩
    refine ⟨sz (n := 2) (by decide), fun l' hl => k l' _ _ (Same.new hl) ⟨[(b, l), (c, .nm x)], rfl, rfl, fun p hp => ?_⟩ upd_same⟩
    rcases List.mem_cons.mp hp with rfl | hp
    · exact h2
    · rcases List.mem_cons.mp hp with rfl | hp
      · exact ⟨dc, h3⟩
      · cases hp
theorem mo_parts (T : Txt K mg) (t : Tm) : MO P w K mg base CX0 (ToB K) "parts" 1 t (spParts K t) := by
  cases t with
  | nm x =>
    refine ⟨_, _, _, _, T.c_Name, T.m_Name_parts, (ok_Term_parts T).imp fun vs H Q E h => ?_, T.b_Term_parts, fun H a h => ?_⟩
    · obtain ⟨a, H0, rfl, s0, o, k⟩ := h
      exact ⟨a, rfl, fun l H' s e => k l _ H' s ⟨[], rfl, rfl, fun _ h => by cases h⟩ e⟩
    · obtain ⟨dx, h⟩ := h
      exact ⟨dx, _, h, rfl⟩
  | two l x =>
    refine ⟨_, _, _, _, T.c_Two, T.m_Two_parts, ok_Two_parts T l x, T.b_Two_parts, fun H a h => ?_⟩
    obtain ⟨dx, b, c, dc, h, _⟩ := h
    exact ⟨dx, _, h, rfl⟩
theorem Tm.sub_dep {t s : Tm} {n : Nat} (h : t.dep ≤ n + 1) (hs : s ∈ t.sub) : s.dep ≤ n := by
  cases t with
  | nm x => cases hs
  | two l x =>
    have h1 : l.dep + 1 ≤ n + 1 := h
    have h2 := l.dep_pos
    rcases List.mem_cons.mp hs with rfl | hs
    · omega
    · rcases List.mem_cons.mp hs with rfl | hs
      · show 1 ≤ n
        omega
      · cases hs
theorem Tm.sub_at {ps : List (Addr × Tm)} {t : Tm} (e : ps.map (·.2) = t.sub) {p : Addr × Tm} (h : p ∈ ps) : p.2 ∈ t.sub := by
  rw [← e]
  exact List.mem_map_of_mem h
theorem Tm.sub_len : ∀ t : Tm, t.sub.length ≤ 2
  | .nm _ => Nat.zero_le _
  | .two _ _ => Nat.le_refl _
/-! ### levels -/
def spLevels (K : PySem.W.Frag) (t : Tm) : Sp := fun vs H Q _ => ∃ a, vs = [V.ref a] ∧ TmO K H a t ∧ ∀ (i : Int) H', Same H H' → i ≤ t.dep → Q (.int i) H'
theorem ok_Term_levels (T : Txt K mg) (n : Nat) (IH : ∀ t : Tm, t.dep ≤ n → MO P w K mg base CX0 (ToB K) "levels" (n + 1) t (spLevels K t)) (t : Tm) (ht : t.dep ≤ n + 1) : FnOk P w K mg base CX0 (n+2) (f_Term_levels K) (fdAt K (f_Term_levels K)) P_Term_levels (spLevels K t) := by
  refine FunD.ok T.F_Term_levels sc_Term_levels (fun vs H Q E h => ?_) (fun cdv A outer s H vs Q E hr h => ?_)
  · obtain ⟨a, rfl, _⟩ := h
    rfl
  · obtain ⟨a, rfl, o, k⟩ := h
    refine ⟨_, PSs.nox (pss_one (ps_ret (pe_op op_add pe_int (pe_callBK (cr_maxD hr.units (by rfl)) (by rfl) T.z_max (by decide +kernel) (pa_cons (pe_lc (own := [("part", 1)]) (by rfl) sc_Term_levels.nd (pi_list (pe_um0 (p := fun _ => True) (fun d _ => mo_parts T d) (pv 0) (hr.mono (by first | decide | omega)) pass0)) (blkOk_by (N := N_Term_levels) (sc := defScope s_Term_levels) (by decide +kernel)) (fun _ _ _ _ _ => (pg_name (i := 1) sc_Term_levels.nd rfl (by first | exact Or.inl rfl | exact Or.inr rfl))) (fun _ _ _ _ _ => pts_nil) (fun _ _ _ _ _ => (pe_um0 (p := fun d : Tm => d.dep ≤ n) IH (pv 1) (hr.mono (by first | decide | omega)) pass0))) pa_nil) (pk_cons pe_int pk_nil))))), ?_⟩
    refine ⟨t, trivial, _, rfl, a, rfl, o, a, H, rfl, Same.refl _, o, fun l xs H1 s1 ps hl => ?_⟩
    obtain ⟨ps, rfl, es, hp⟩ := ps
    refine ⟨l, rfl, ⟨_, SqL.of hl⟩, fun D hD => ?_⟩
    have hlen : ps.length ≤ 1000000 := by
      have : (ps.map (·.2)).length = t.sub.length := congrArg _ es
      rw [List.length_map] at this
      rw [this]
      exact Nat.le_trans t.sub_len (by decide)
    refine lc_map (wm_list ps fun p => V.ref p.1) (fun pre H => Same H1 H ∧ ∃ is : List Int, H D = some (.lst (is.map .int)) ∧ is.length = pre.length ∧ ∀ i, i ∈ is → i + 1 ≤ t.dep) ⟨Same.new hD, [], upd_same, rfl, fun _ h => by cases h⟩ (fun pre H q => SqL.of (q.1 _ _ hl)) (fun pre p post H2 e q => ?_) fun H2 q => ?_
    · obtain ⟨s2, is, h1, h2, h3⟩ := q
      have hm : p ∈ ps := by
        rw [e]
        simp
      have o2 := (hp p hm).mono (s1.trans s2)
      have hd := Tm.sub_dep ht (Tm.sub_at es hm)
      have hd' : p.2.dep + 1 ≤ t.dep := by
        have := Tm.sub_dep (n := t.dep - 1) (by omega) (Tm.sub_at es hm)
        have := t.dep_pos
        omega
      refine ⟨rfl, ?_⟩
      refine ⟨p.2, hd, _, rfl, p.1, rfl, o2, p.1, rfl, o2, fun i H3 s3 hi => ⟨_, s3 _ _ h1, szl ?_, Same.mut (s2.trans s3) hD, is ++ [i], ?_, ?_, ?_⟩⟩
      · rw [List.length_map, h2]
        rw [e] at hlen
        simp at hlen
        omega
      · rw [upd_same]
        simp
      · simp [h2]
      · intro j hj
        rcases List.mem_append.mp hj with hj | hj
        · exact h3 j hj
        · rcases List.mem_singleton.mp hj with rfl
          omega
    · obtain ⟨s2, is, h1, h2, h3⟩ := q
      refine ⟨D, is, 0, rfl, rfl, SqL.of h1, fun _ => ?_, fun m hm => ?_⟩
      · exact ⟨1, 0, rfl, rfl, k _ _ (s1.trans s2) (by have := t.dep_pos; omega)⟩
      · exact ⟨1, m, rfl, rfl, k _ _ (s1.trans s2) (by have := h3 m hm; omega)⟩
theorem to_look (K : PySem.W.Frag) {H : Hp} {a : Addr} (t : Tm) (h : TmO K H a t) : ∃ dx fs, H a = some (.ins (t.cls K) dx fs) := by
  cases t with
  | nm x =>
    obtain ⟨dx, h⟩ := h
    exact ⟨dx, _, h⟩
  | two l x =>
    obtain ⟨dx, b, c, dc, h, _⟩ := h
    exact ⟨dx, _, h⟩
theorem mo_levels (T : Txt K mg) : ∀ (n : Nat) (t : Tm), t.dep ≤ n → MO P w K mg base CX0 (ToB K) "levels" (n + 1) t (spLevels K t)
  | 0, t, h => absurd t.dep_pos (by omega)
  | n + 1, t, h => by
    have F := ok_Term_levels (P := P) (w := w) (base := base) T n (mo_levels T n) t h
    cases t with
    | nm x =>
      refine ⟨_, _, _, _, T.c_Name, T.m_Name_levels, F, T.b_Term_levels, fun H a h => ?_⟩
      obtain ⟨dx, h⟩ := h
      exact ⟨dx, _, h, rfl⟩
    | two l x =>
      refine ⟨_, _, _, _, T.c_Two, T.m_Two_levels, F, T.b_Term_levels, fun H a h => ?_⟩
      obtain ⟨dx, b, c, dc, h, _⟩ := h
      exact ⟨dx, _, h, rfl⟩
end
end K99
/-! K3 -/
namespace K99
open PySem PySem.Spec PyProof.Rows L2
section
variable {P : Program} {w : World} {K : PySem.W.Frag} {mg : Str → Option Value} {base : Heap}
/-! ### names -/
def spNames (K : PySem.W.Frag) (t : Tm) : Sp := fun vs H Q _ => ∃ a, vs = [V.ref a] ∧ TmO K H a t ∧ t.nms.Nodup ∧ ∀ l H', Same H H' → H' l = some (.lst (t.nms.map .str)) → Q (.ref l) H'
theorem ok_Name_names (T : Txt K mg) (x : Str) : FnOk P w K mg base CX0 1 (f_Name_names K) (fdAt K (f_Name_names K)) P_Name_names (spNames K (.nm x)) := by
  refine FunD.ok T.F_Name_names sc_Name_names (fun vs H Q E h => ?_) (fun cdv A outer s H vs Q E hr h => ?_)
  · obtain ⟨a, rfl, _⟩ := h
    rfl
  · obtain ⟨a, rfl, ⟨dx, h1⟩, nd, k⟩ := h
    refine ⟨_, PSs.nox (pss_one (ps_ret (pe_lst (pa_cons (pe_fld (pv 0) rfl) pa_nil)))), ?_⟩
    refine ⟨_, rfl, _, _, _, _, _, rfl, h1, T.c_Name, T.n_Name_name, rfl, ?_⟩
    exact ⟨sz (n := 1) (by decide), fun l hl => k l _ (Same.new hl) upd_same⟩
theorem Tm.nms_sub (l : Tm) (x : Str) : (Tm.two l x).sub.flatMap Tm.nms = (Tm.two l x).nms := by
  show l.nms ++ ([x] ++ []) = l.nms ++ [x]
  rfl
theorem Tm.sub_nodup {l : Tm} {x : Str} (h : (Tm.two l x).nms.Nodup) {s : Tm} (hs : s ∈ (Tm.two l x).sub) : s.nms.Nodup := by
  have h1 : (l.nms ++ [x]).Nodup := h
  rcases List.mem_cons.mp hs with rfl | hs
  · exact (List.nodup_append.mp h1).1
  · rcases List.mem_cons.mp hs with rfl | hs
    · exact (List.nodup_append.mp h1).2.1
    · cases hs
theorem ok_Term_names (T : Txt K mg) (n : Nat) (IH : ∀ t : Tm, t.dep ≤ n → t.dep ≤ 10 → MO P w K mg base CX0 (ToB K) "names" (n + 1) t (spNames K t)) (l0 : Tm) (x0 : Str) (ht : (Tm.two l0 x0).dep ≤ n + 1) (h6 : (Tm.two l0 x0).dep ≤ 10) : FnOk P w K mg base CX0 (n+2) (f_Term_names K) (fdAt K (f_Term_names K)) P_Term_names (spNames K (.two l0 x0)) := by
  refine FunD.ok T.F_Term_names sc_Term_names (fun vs H Q E h => ?_) (fun cdv A outer s H vs Q E hr h => ?_)
  · obtain ⟨a, rfl, _⟩ := h
    rfl
  · obtain ⟨a, rfl, o, nd, k⟩ := h
    refine ⟨_, PSs.nox (pss_cons (ps_set (i := 1) sc_Term_names.nd rfl (by first | exact Or.inl rfl | exact Or.inr rfl) (pe_lst pa_nil)) (pss_cons (ps_for PassesOwn.never rfl (pi_list (pe_um0 (p := fun _ => True) (fun d _ => mo_parts T d) (pv 0) (hr.mono (by first | decide | omega)) pass0)) (pg_name (i := 2) sc_Term_names.nd rfl (by first | exact Or.inl rfl | exact Or.inr rfl)) (pss_one (ps_expr (pe_bm PySem.F.plainAttrs_list PySem.F.slot_list_extend PySem.F.type_list_extend mt_extend (pv 1) (pa_cons (pe_lc (own := [("name", 3)]) (by rfl) sc_Term_names.nd (pi_list (pe_um0 (p := fun d : Tm => d.dep ≤ n ∧ d.dep ≤ 10) (fun d h => IH d h.1 h.2) (pv 2) (hr.mono (by first | decide | omega)) pass0)) (blkOk_by (N := N_Term_names) (sc := defScope s_Term_names) (by decide +kernel)) (fun _ _ _ _ _ => (pg_name (i := 3) sc_Term_names.nd rfl (by first | exact Or.inl rfl | exact Or.inr rfl))) (fun _ _ _ _ _ => (pts_one (pt_cmpR (r := rIn K true) op_notIn_seq (pv 3) (pv 1) (by rfl)))) (fun _ _ _ _ _ => (pv 3))) pa_nil))))) (pss_one (ps_ret (pv 1))))), ?_⟩
    refine ⟨Nat.zero_le _, fun F hF => ?_⟩
    have o1 := o.mono (Same.new (o := .lst []) hF)
    refine ⟨.two l0 x0, trivial, _, rfl, a, rfl, o1, a, H, rfl, Same.new hF, o, fun l xs H1 s1 ps hl => ?_⟩
    obtain ⟨ps, rfl, es, hp⟩ := ps
    refine ⟨l, rfl, ⟨_, SqL.of hl⟩, ?_⟩
    have hlF : l ≠ F := fun e => by
      subst e
      have h := s1 l (.lst []) upd_same
      rw [hl] at h
      have h := HO.lst.inj (Option.some.inj h)
      have h2 : ps = [] := List.map_eq_nil_iff.mp h
      subst h2
      cases es
    have hH1 : SameX F H H1 := SameX.trans SameX.upd2 (Same.x s1)
    have hnd : (ps.flatMap fun p => p.2.nms).Nodup := by
      have e : (ps.flatMap fun p => p.2.nms) = (ps.map (·.2)).flatMap Tm.nms := by rw [List.flatMap_map]
      rw [e, es, Tm.nms_sub]
      exact nd
    have hen : (ps.flatMap fun p => p.2.nms) = (Tm.two l0 x0).nms := by
      have e : (ps.flatMap fun p => p.2.nms) = (ps.map (·.2)).flatMap Tm.nms := by rw [List.flatMap_map]
      rw [e, es, Tm.nms_sub]
    refine for_map (wm_list ps fun p => V.ref p.1) (fun pre σ H2 => SameX F H1 H2 ∧ (∃ x y, σ = [some (.ref a), some (.ref F), x, y]) ∧ H2 F = some (.lst ((pre.flatMap fun p => p.2.nms).map .str))) ⟨SameX.refl _ _, ⟨_, _, rfl⟩, s1 _ _ upd_same⟩ (fun pre σ H2 q => SqL.of (q.1 _ _ hlF hl)) (fun pre p post σ H2 e q => ?_) (fun σ H2 q => ?_)
    · obtain ⟨s2, ⟨x, y, rfl⟩, h2⟩ := q
      have hm : p ∈ ps := by
        rw [e]
        simp
      have hs : Same H H2 := SameX.of (SameX.trans hH1 s2) hF
      have o2 := (hp p hm).mono hs
      have hd := Tm.sub_dep ht (Tm.sub_at es hm)
      rw [e, List.flatMap_append, List.flatMap_cons, List.nodup_append] at hnd
      obtain ⟨hn1, hn2, hn3⟩ := hnd
      have hn4 := (List.nodup_append.mp hn2).1
      have hdis : ∀ z, z ∈ p.2.nms → z ∉ pre.flatMap fun p => p.2.nms := fun z hz hz' => hn3 z hz' z (List.mem_append_left _ hz) rfl
      have hlen : ((pre.flatMap fun p => p.2.nms) ++ p.2.nms).length ≤ 10 := by
        have h1 := congrArg List.length hen
        rw [e, List.flatMap_append, List.flatMap_cons, Tm.nms_len] at h1
        simp only [List.length_append] at h1 ⊢
        omega
      refine ⟨_, rfl, .inl ⟨rfl, _, SqL.of h2⟩, ?_⟩
      refine ⟨p.2, ⟨hd, Nat.le_trans (Tm.sub_dep (n := 9) h6 (Tm.sub_at es hm)) (by decide)⟩, _, rfl, p.1, rfl, o2, p.1, rfl, o2, Tm.sub_nodup nd (Tm.sub_at es hm), fun l2 H3 s3 hl2 => ?_⟩
      refine ⟨l2, rfl, ⟨_, SqL.of hl2⟩, fun D hD => ?_⟩
      have h3 := s3 _ _ h2
      refine lc_flat (wm_list p.2.nms V.str) (fun z => !decide (z ∈ pre.flatMap fun p => p.2.nms)) V.str hD (Nat.le_trans (by rw [List.length_append] at hlen; omega) (by decide : 10 ≤ 1000000)) (fun H4 s4 => SqL.of (s4 _ _ hl2)) (fun _ => rfl) (fun z H4 hz s4 Q' q => ?_) (fun z H4 hz _ s4 Q' q => ⟨_, rfl, q H4 (Same.refl _)⟩) (fun H4 s4 h4 => ?_)
      · refine ⟨_, rfl, _, rfl, F, _, rfl, .inl (SqL.of (s4 _ _ h3)), rfl, flat_str, _, ?_, q H4 (Same.refl _)⟩
        rw [← inV_str]
        rfl
      · rw [filter_all (fun z hz => by simpa using hdis z hz)] at h4
        refine ⟨F, D, _, _, rfl, rfl, s4 _ _ h3, h4, sz (Nat.le_trans (by simpa using hlen) (by decide : 10 ≤ 1000000)), ?_⟩
        refine ⟨SameX.put (SameX.trans s2 (Same.x (s3.trans s4))), ⟨_, _, rfl⟩, ?_⟩
        rw [upd_same, List.flatMap_append, List.map_append]
        simp
    · obtain ⟨s2, ⟨x, y, rfl⟩, h2⟩ := q
      refine ⟨_, rfl, k F _ (SameX.of (SameX.trans hH1 s2) hF) ?_⟩
      rw [h2, hen]
theorem mo_names (T : Txt K mg) : ∀ (n : Nat) (t : Tm), t.dep ≤ n → t.dep ≤ 10 → MO P w K mg base CX0 (ToB K) "names" (n + 1) t (spNames K t)
  | 0, t, h, _ => absurd t.dep_pos (by omega)
  | n + 1, .nm x, h, _ => by
    refine ⟨_, _, _, _, T.c_Name, T.m_Name_names, (ok_Name_names T x).mono (by omega), T.b_Name_names, fun H a h => ?_⟩
    obtain ⟨dx, h⟩ := h
    exact ⟨dx, _, h, rfl⟩
  | n + 1, .two l x, h, h6 => by
    refine ⟨_, _, _, _, T.c_Two, T.m_Two_names, ok_Term_names (P := P) (w := w) (base := base) T n (fun t ht h => mo_names T n t ht h) l x h h6, T.b_Term_names, fun H a h => ?_⟩
    obtain ⟨dx, b, c, dc, h, _⟩ := h
    exact ⟨dx, _, h, rfl⟩
end
end K99
/-! K4 -/
namespace K99
open PySem PySem.Spec PyProof.Rows L2
section
variable {P : Program} {w : World} {K : PySem.W.Frag} {mg : Str → Option Value} {base : Heap}
/-! ### terms: made and told -/
def spNeedTerm (K : PySem.W.Frag) : Sp := fun vs H Q _ => ∃ a t, vs = [V.ref a] ∧ TmO K H a t ∧ t.dep ≤ 4 ∧ ∀ H', Same H H' → Q (.ref a) H'
theorem to_ty (T : Txt K mg) {H : Hp} {a : Addr} {t : Tm} (h : TmO K H a t) : ∃ u, TyX K H (.ref a) u ∧ PySem.W.kitOne K u (.ref (A_Term K)) = some true := by
  cases t with
  | nm x =>
    obtain ⟨dx, h⟩ := h
    exact ⟨_, .base (T.ty_Name h), T.k_Name_Term⟩
  | two l x =>
    obtain ⟨dx, b, c, dc, h, _⟩ := h
    exact ⟨_, .base (T.ty_Two h), T.k_Two_Term⟩
theorem ok_need_term (T : Txt K mg) : FnOk P w K mg base CX0 8 (f_need_term K) (fdAt K (f_need_term K)) P_need_term (spNeedTerm K) := by
  obtain ⟨t_MOST_LEVELS, e_MOST_LEVELS⟩ := T.i_MOST_LEVELS
  refine FunD.ok T.F_need_term sc_need_term (fun vs H Q E h => ?_) (fun cdv A outer s H vs Q E hr h => ?_)
  · obtain ⟨a, t, rfl, _⟩ := h
    rfl
  · obtain ⟨a, t, rfl, o, hd, k⟩ := h
    refine ⟨_, PSs.nox (pss_cons (ps_if (PW.pt (pw_or (pt_not (pt_val (pe_callB call_isi (by rfl) T.z_isinstance boot_isinstance (pa_cons (pv 0) (pa_cons (pe_glob (v := .ref (He.ga K "Term")) rfl T.g_Term rfl) pa_nil))))) (pw_or1 (pt_cmpR op_ge (pe_um0 (p := fun d : Tm => d.dep ≤ 4) (mo_levels T 4) (pv 0) (hr.mono (by first | decide | omega)) pass0) (pe_glob (v := .int 5) rfl e_MOST_LEVELS ⟨t_MOST_LEVELS, rfl⟩) (by rfl))))) pB pss_nil) (pss_one (ps_ret (pv 0)))), ?_⟩
    obtain ⟨u, hu, hk⟩ := to_ty T o
    refine ⟨_, rfl, _, _, _, _, _, rfl, .own _, hu, hk, _, rfl, iteF ?_⟩
    refine ⟨t, hd, _, rfl, a, rfl, o, a, rfl, o, fun i H1 s1 hi => ?_⟩
    refine ⟨i, 5, rfl, rfl, false, ?_, iteF ?_⟩
    · show V.bl (decide ((5 : Int) ≤ i)) = .bl false
      rw [decide_eq_false (by omega)]
    · exact ⟨_, rfl, k H1 s1⟩
def spNameInit (K : PySem.W.Frag) : Sp := fun vs H Q _ => ∃ a x dx, vs = [V.ref a, .str x] ∧ H a = some (.ins (A_Name K) dx []) ∧ Ptd x ∧ ∀ H', SameX a H H' → H' a = some (.ins (A_Name K) dx [("name", .str x)]) → Q .non H'
theorem ok_Name_init (T : Txt K mg) : FnOk P w K mg base CX0 4 (f_Name_init K) (fdAt K (f_Name_init K)) P_Name_init (spNameInit K) := by
  refine FunD.ok T.F_Name_init sc_Name_init (fun vs H Q E h => ?_) (fun cdv A outer s H vs Q E hr h => ?_)
  · obtain ⟨a, x, dx, rfl, _⟩ := h
    rfl
  · obtain ⟨a, x, dx, rfl, h1, p, k⟩ := h
    refine ⟨_, PSs.nox (pss_cons (ps_if (pt_not (pt_val (pe_call (ok_is_pointed T) (hr.mono (by first | decide | omega)) (by rfl) T.g_is_pointed T.F_is_pointed.kp T.b_is_pointed .nil pass0 (pa_cons (pv 1) pa_nil)))) pB pss_nil) (pss_one (ps_fld (pv 0) (pv 1) rfl))), ?_⟩
    refine ⟨_, rfl, x, rfl, p, fun H1 s1 => ⟨_, rfl, iteF ?_⟩⟩
    refine ⟨_, rfl, _, rfl, _, _, _, _, rfl, s1 _ _ h1, T.c_Name, T.n_Name_name, by decide, ?_⟩
    exact k _ (SameX.put (Same.x s1)) upd_same
def spTold (K : PySem.W.Frag) (t : Tm) : Sp := fun vs H Q _ => ∃ a, vs = [V.ref a] ∧ TmO K H a t ∧ ∀ b H', Same H H' → TmD K H' b t → Q (.ref b) H'
theorem ok_Name_told (T : Txt K mg) (x : Str) : FnOk P w K mg base CX0 1 (f_Name_told K) (fdAt K (f_Name_told K)) P_Name_told (spTold K (.nm x)) := by
  refine FunD.ok T.F_Name_told sc_Name_told (fun vs H Q E h => ?_) (fun cdv A outer s H vs Q E hr h => ?_)
  · obtain ⟨a, rfl, _⟩ := h
    rfl
  · obtain ⟨a, rfl, ⟨dx, h1⟩, k⟩ := h
    refine ⟨_, PSs.nox (pss_one (ps_ret (pe_tup (pa_cons pe_str (pa_cons (pe_fld (pv 0) rfl) pa_nil))))), ?_⟩
    refine ⟨_, rfl, _, _, _, _, _, rfl, h1, T.c_Name, T.n_Name_name, rfl, ?_⟩
    exact ⟨sz (n := 2) (by decide), fun l hl => k l _ (Same.new hl) (SqT.of upd_same)⟩
theorem ok_Two_told (T : Txt K mg) (n : Nat) (IH : ∀ t : Tm, t.dep ≤ n → MO P w K mg base CX0 (ToB K) "told" (n + 1) t (spTold K t)) (l : Tm) (x : Str) (ht : (Tm.two l x).dep ≤ n + 1) : FnOk P w K mg base CX0 (n+2) (f_Two_told K) (fdAt K (f_Two_told K)) P_Two_told (spTold K (.two l x)) := by
  refine FunD.ok T.F_Two_told sc_Two_told (fun vs H Q E h => ?_) (fun cdv A outer s H vs Q E hr h => ?_)
  · obtain ⟨a, rfl, _⟩ := h
    rfl
  · obtain ⟨a, rfl, ⟨dx, b, c, dc, h1, h2, h3⟩, k⟩ := h
    refine ⟨_, PSs.nox (pss_one (ps_ret (pe_tup (pa_cons pe_str (pa_cons (pe_fld (pv 0) rfl) (pa_cons (pe_um0 (p := fun d : Tm => d.dep ≤ n) IH (pe_fld (pv 0) rfl) (hr.mono (by first | decide | omega)) pass0) (pa_cons (pe_um0 (p := fun d : Tm => d.dep ≤ n) IH (pe_fld (pv 0) rfl) (hr.mono (by first | decide | omega)) pass0) pa_nil))))))), ?_⟩
    have hd1 : l.dep ≤ n := Tm.sub_dep ht (List.mem_cons_self ..)
    have hd2 : (Tm.nm x).dep ≤ n := Tm.sub_dep ht (List.mem_cons_of_mem _ (List.mem_cons_self ..))
    refine ⟨_, rfl, _, _, _, _, _, rfl, h1, T.c_Two, T.n_Two_op, rfl, ?_⟩
    refine ⟨l, hd1, ⟨_, rfl, _, _, _, _, _, rfl, h1, T.c_Two, T.n_Two_one, rfl, b, rfl, h2, b, rfl, h2, fun b' H1 s1 d1 => ?_⟩⟩
    refine ⟨.nm x, hd2, ⟨_, rfl, _, _, _, _, _, rfl, s1 _ _ h1, T.c_Two, T.n_Two_second, rfl, c, rfl, ⟨dc, s1 _ _ h3⟩, c, rfl, ⟨dc, s1 _ _ h3⟩, fun c' H2 s2 d2 => ?_⟩⟩
    refine ⟨sz (n := 4) (by decide), fun p hp => k p _ ((s1.trans s2).trans (Same.new hp)) ⟨b', c', SqT.of upd_same, d1.mono (s2.trans (Same.new hp)), TmD.mono (t := .nm x) (Same.new hp) d2⟩⟩
theorem mo_told (T : Txt K mg) : ∀ (n : Nat) (t : Tm), t.dep ≤ n → MO P w K mg base CX0 (ToB K) "told" (n + 1) t (spTold K t)
  | 0, t, h => absurd t.dep_pos (by omega)
  | n + 1, .nm x, h => by
    refine ⟨_, _, _, _, T.c_Name, T.m_Name_told, (ok_Name_told T x).mono (by omega), T.b_Name_told, fun H a h => ?_⟩
    obtain ⟨dx, h⟩ := h
    exact ⟨dx, _, h, rfl⟩
  | n + 1, .two l x, h => by
    refine ⟨_, _, _, _, T.c_Two, T.m_Two_told, ok_Two_told (P := P) (w := w) (base := base) T n (mo_told T n) l x h, T.b_Two_told, fun H a h => ?_⟩
    obtain ⟨dx, b, c, dc, h, _⟩ := h
    exact ⟨dx, _, h, rfl⟩
def spTwoInit (K : PySem.W.Frag) : Sp := fun vs H Q _ => ∃ a b c l x dx H0, vs = [V.ref a, .str "+", .ref b, .ref c] ∧ H0 a = none ∧ Same H0 H ∧ H a = some (.ins (A_Two K) dx []) ∧ TmO K H0 b l ∧ TmO K H0 c (.nm x) ∧ l.dep ≤ 4 ∧
  ∀ H', SameX a H H' → H' a = some (.ins (A_Two K) dx [("op", .str "+"), ("one", .ref b), ("second", .ref c)]) → Q .non H'
theorem ok_Two_init (T : Txt K mg) : FnOk P w K mg base CX0 10 (f_Two_init K) (fdAt K (f_Two_init K)) P_Two_init (spTwoInit K) := by
  refine FunD.ok T.F_Two_init sc_Two_init (fun vs H Q E h => ?_) (fun cdv A outer s H vs Q E hr h => ?_)
  · obtain ⟨a, b, c, l, x, dx, H0, rfl, _⟩ := h
    rfl
  · obtain ⟨a, b, c, l, x, dx, H0, rfl, h0, s0, h1, o1, o2, hd, k⟩ := h
    refine ⟨_, PSs.nox (pss_cons (ps_if (PW.pt (pw_or (pt_not (pt_val (pe_callB call_isi (by rfl) T.z_isinstance boot_isinstance (pa_cons (pv 1) (pa_cons (pe_bltn (v := .ty "str") (by rfl) T.z_str boot_str rfl) pa_nil))))) (pw_or1 (pt_cmpR op_notIn_seq (pv 1) (pe_call0 (ok_ops_told T) (hr.mono (by first | decide | omega)) (by rfl) T.g_ops_told T.F_ops_told.kp T.b_ops_told .nil pass0) (by rfl))))) pB pss_nil) (pss_cons (ps_fld (pv 0) (pv 1) rfl) (pss_cons (ps_fld (pv 0) (pe_call (ok_need_term T) (hr.mono (by first | decide | omega)) (by rfl) T.g_need_term T.F_need_term.kp T.b_need_term .nil pass0 (pa_cons (pv 2) pa_nil)) rfl) (pss_one (ps_fld (pv 0) (pe_call (ok_need_term T) (hr.mono (by first | decide | omega)) (by rfl) T.g_need_term T.F_need_term.kp T.b_need_term .nil pass0 (pa_cons (pv 3) pa_nil)) rfl))))), ?_⟩
    refine ⟨_, rfl, _, _, _, _, true, rfl, .ty _, .base (.str _), kit_ty (by decide +kernel), true, rfl, iteF ?_⟩
    refine ⟨_, rfl, rfl, fun l1 H1 s1 hl => ⟨l1, opsVs, rfl, .inl (SqL.of hl), rfl, rfl, false, rfl, iteF ?_⟩⟩
    refine ⟨_, rfl, _, rfl, _, _, _, _, rfl, s1 _ _ h1, T.c_Two, T.n_Two_op, by decide, ?_⟩
    have x1 : SameX a H (upd H1 a (.ins (A_Two K) dx [("op", .str "+")])) := SameX.put (Same.x s1)
    have y1 := SameX.of (SameX.trans (Same.x s0) x1) h0
    refine ⟨_, rfl, b, l, rfl, o1.mono y1, hd, fun H2 s2 => ?_⟩
    refine ⟨_, rfl, _, _, _, _, rfl, s2 _ _ upd_same, T.c_Two, T.n_Two_one, (by show 1 < 1000; decide), ?_⟩
    have x2 : SameX a H (upd H2 a (.ins (A_Two K) dx [("op", .str "+"), ("one", .ref b)])) := SameX.put (SameX.trans x1 (Same.x s2))
    have y2 := SameX.of (SameX.trans (Same.x s0) x2) h0
    refine ⟨_, rfl, c, .nm x, rfl, o2.mono y2, (by decide : 1 ≤ 4), fun H3 s3 => ?_⟩
    refine ⟨_, rfl, _, _, _, _, rfl, s3 _ _ upd_same, T.c_Two, T.n_Two_second, (by show 2 < 1000; decide), ?_⟩
    exact k _ (SameX.put (SameX.trans x2 (Same.x s3))) upd_same
/-! ### renamed -/
def spRen (K : PySem.W.Frag) (f : Str → Str) (t : Tm) : Sp := fun vs H Q _ => ∃ a d kvs, vs = [V.ref a, .ref d] ∧ TmO K H a t ∧ H d = some (.dK kvs) ∧ (∀ x, x ∈ t.nms → valV kvs (.inr x) = some (.str (f x)) ∧ Ptd (f x)) ∧ ∀ b H', Same H H' → TmO K H' b (t.map f) → Q (.ref b) H'
theorem ok_Name_renamed (T : Txt K mg) (f : Str → Str) (x : Str) : FnOk P w K mg base CX0 7 (f_Name_renamed K) (fdAt K (f_Name_renamed K)) P_Name_renamed (spRen K f (.nm x)) := by
  refine FunD.ok T.F_Name_renamed sc_Name_renamed (fun vs H Q E h => ?_) (fun cdv A outer s H vs Q E hr h => ?_)
  · obtain ⟨a, d, kvs, rfl, _⟩ := h
    rfl
  · obtain ⟨a, d, kvs, rfl, ⟨dx, h1⟩, h2, h3, k⟩ := h
    refine ⟨_, PSs.nox (pss_cons (ps_if (pt_cmp (pc_dnotin (hu_of hr) (pe_fld (pv 0) rfl) (pv 1))) pB pss_nil) (pss_one (ps_ret (pe_make T.mk_Name (ok_Name_init T) (hr.mono (by first | decide | omega)) rfl T.g_Name T.b_Name_init .nil pass0 (pa_cons (pe_dget (hu_of hr) (pv 1) (pe_fld (pv 0) rfl) (fun _ _ => rfl)) pa_nil))))), ?_⟩
    obtain ⟨h3, h4⟩ := h3 x (List.mem_cons_self ..)
    refine ⟨_, rfl, _, _, _, _, _, rfl, h1, T.c_Name, T.n_Name_name, rfl, ?_⟩
    refine ⟨_, rfl, d, _, rfl, .inl ⟨kvs, .inr x, .inl h2, rfl, rfl⟩, false, ?_, iteF ?_⟩
    · rw [h3]
      rfl
    refine ⟨_, rfl, ⟨_, rfl, _, _, _, _, _, rfl, h1, T.c_Name, T.n_Name_name, rfl, ?_⟩⟩
    refine ⟨d, _, rfl, .inl ⟨kvs, .inr x, .inl h2, rfl, h3.symm⟩, fun y dy hy hdy hn => ?_⟩
    refine ⟨y, f x, dy, rfl, upd_same, h4, fun H' s' e' => ⟨rfl, ?_⟩⟩
    exact k _ _ (new_same hy hdy s') ⟨dy, e'⟩
theorem ok_Two_renamed (T : Txt K mg) (f : Str → Str) (n : Nat) (IH : ∀ t : Tm, t.dep ≤ n → MO P w K mg base CX0 (ToB K) "renamed" (n + 19) t (spRen K f t)) (l : Tm) (x : Str) (ht : (Tm.two l x).dep ≤ n + 1) (h5 : (Tm.two l x).dep ≤ 5) : FnOk P w K mg base CX0 (n+20) (f_Two_renamed K) (fdAt K (f_Two_renamed K)) P_Two_renamed (spRen K f (.two l x)) := by
  refine FunD.ok T.F_Two_renamed sc_Two_renamed (fun vs H Q E h => ?_) (fun cdv A outer s H vs Q E hr h => ?_)
  · obtain ⟨a, d, kvs, rfl, _⟩ := h
    rfl
  · obtain ⟨a, d, kvs, rfl, ⟨dx, b, c, dc, h1, h2, h3⟩, hd, hk, k⟩ := h
    refine ⟨_, PSs.nox (pss_one (ps_ret (pe_make T.mk_Two (ok_Two_init T) (hr.mono (by first | decide | omega)) rfl T.g_Two T.b_Two_init .nil pass0 (pa_cons (pe_fld (pv 0) rfl) (pa_cons (pe_um (p := fun d : Tm => d.dep ≤ n) IH (pe_fld (pv 0) rfl) (hr.mono (by first | decide | omega)) pass0 (pa_cons (pv 1) pa_nil)) (pa_cons (pe_um (p := fun d : Tm => d.dep ≤ n) IH (pe_fld (pv 0) rfl) (hr.mono (by first | decide | omega)) pass0 (pa_cons (pv 1) pa_nil)) pa_nil)))))), ?_⟩
    have hd1 : l.dep ≤ n := Tm.sub_dep ht (List.mem_cons_self ..)
    have hd2 : (Tm.nm x).dep ≤ n := Tm.sub_dep ht (List.mem_cons_of_mem _ (List.mem_cons_self ..))
    have hd3 : l.dep + 1 ≤ 5 := h5
    have hk1 : ∀ z, z ∈ l.nms → valV kvs (.inr z) = some (.str (f z)) ∧ Ptd (f z) := fun z hz => hk z (List.mem_append_left _ hz)
    have hk2 : ∀ z, z ∈ (Tm.nm x).nms → valV kvs (.inr z) = some (.str (f z)) ∧ Ptd (f z) := fun z hz => hk z (List.mem_append_right _ hz)
    refine ⟨_, rfl, _, _, _, _, _, rfl, h1, T.c_Two, T.n_Two_op, rfl, ?_⟩
    refine ⟨l, hd1, ⟨_, rfl, _, _, _, _, _, rfl, h1, T.c_Two, T.n_Two_one, rfl, b, rfl, h2, ⟨_, rfl, b, d, kvs, rfl, h2, hd, hk1, fun b' H1 s1 o1 => ?_⟩⟩⟩
    refine ⟨.nm x, hd2, ⟨_, rfl, _, _, _, _, _, rfl, s1 _ _ h1, T.c_Two, T.n_Two_second, rfl, c, rfl, ⟨dc, s1 _ _ h3⟩, ⟨_, rfl, c, d, kvs, rfl, ⟨dc, s1 _ _ h3⟩, s1 _ _ hd, hk2, fun c' H2 s2 o2 => ?_⟩⟩⟩
    intro y dy hy hdy hn
    refine ⟨y, b', c', l.map f, f x, dy, H2, rfl, hy, (Same.new hdy).trans (Same.new (by rw [upd_ne hn.symm]; exact hy)), upd_same, o1.mono s2, o2, ?_, fun H3 s3 e3 => ⟨rfl, ?_⟩⟩
    · rw [Tm.map_dep]
      omega
    · have s4 := new_same hy hdy s3
      obtain ⟨dd, o2⟩ := o2
      exact k _ _ ((s1.trans s2).trans s4) ⟨dy, b', c', dd, e3, o1.mono (s2.trans s4), s4 _ _ o2⟩
theorem mo_renamed (T : Txt K mg) (f : Str → Str) : ∀ (n : Nat) (t : Tm), t.dep ≤ n → n ≤ 5 → MO P w K mg base CX0 (ToB K) "renamed" (n + 19) t (spRen K f t)
  | 0, t, h, _ => absurd t.dep_pos (by omega)
  | n + 1, .nm x, h, _ => by
    refine ⟨_, _, _, _, T.c_Name, T.m_Name_renamed, (ok_Name_renamed T f x).mono (by omega), T.b_Name_renamed, fun H a h => ?_⟩
    obtain ⟨dx, h⟩ := h
    exact ⟨dx, _, h, rfl⟩
  | n + 1, .two l x, h, h5 => by
    refine ⟨_, _, _, _, T.c_Two, T.m_Two_renamed, ok_Two_renamed (P := P) (w := w) (base := base) T f n (fun t ht => mo_renamed T f n t ht (by omega)) l x h (by omega), T.b_Two_renamed, fun H a h => ?_⟩
    obtain ⟨dx, b, c, dc, h, _⟩ := h
    exact ⟨dx, _, h, rfl⟩
/-! ### read from tuples -/
def spSimple (K : PySem.W.Frag) : Sp := fun vs H Q _ => ∃ x, vs = [V.str "name", .str x] ∧ Ptd x ∧ ∀ b H', Same H H' → TmO K H' b (.nm x) → Q (.ref b) H'
theorem ok_simple_of (T : Txt K mg) : FnOk P w K mg base CX0 8 (f_simple_of K) (fdAt K (f_simple_of K)) P_simple_of (spSimple K) := by
  refine FunD.ok T.F_simple_of sc_simple_of (fun vs H Q E h => ?_) (fun cdv A outer s H vs Q E hr h => ?_)
  · obtain ⟨x, rfl, _⟩ := h
    rfl
  · obtain ⟨x, rfl, p, k⟩ := h
    refine ⟨_, PSs.nox (pss_cons (ps_if (PW.pt (pw_and (pt_cmpR op_eq (pv 0) pe_str (by rfl)) (pw_and1 (pt_val (pe_call (ok_is_pointed T) (hr.mono (by first | decide | omega)) (by rfl) T.g_is_pointed T.F_is_pointed.kp T.b_is_pointed .nil pass0 (pa_cons (pv 1) pa_nil)))))) (pss_one (ps_ret (pe_make T.mk_Name (ok_Name_init T) (hr.mono (by first | decide | omega)) rfl T.g_Name T.b_Name_init .nil pass0 (pa_cons (pv 1) pa_nil)))) pss_nil) (pss_cons (ps_if (PW.pt (pw_and (pt_cmpR op_eq (pv 0) pe_str (by rfl)) (pw_and1 (pt_val (pe_call (ok_is_value T) (hr.mono (by first | decide | omega)) (by rfl) T.g_is_value T.F_is_value.kp T.b_is_value .nil pass0 (pa_cons (pv 1) pa_nil)))))) pB pss_nil) (pss_one (ps_ret pe_non)))), ?_⟩
    refine ⟨_, rfl, rfl, true, rfl, iteT ?_⟩
    refine ⟨_, rfl, x, rfl, p, fun H1 s1 => ⟨_, rfl, iteT ?_⟩⟩
    refine ⟨_, rfl, fun y dy hy hdy hn => ?_⟩
    refine ⟨y, x, dy, rfl, upd_same, p, fun H' s' e' => ⟨rfl, ?_⟩⟩
    exact k _ _ (s1.trans (new_same hy hdy s')) ⟨dy, e'⟩
def spMadeT (K : PySem.W.Frag) (t : Tm) : Sp := fun vs H Q _ => ∃ (a : Addr) (i : Int), vs = [V.ref a, .int i] ∧ TmD K H a t ∧ (t.dep : Int) ≤ i ∧ (∀ x, x ∈ t.nms → Ptd x) ∧ ∀ b H', Same H H' → TmO K H' b t → Q (.ref b) H'
theorem ok_made_nm (T : Txt K mg) (x : Str) : FnOk P w K mg base CX0 10 (f_made_of_told K) (fdAt K (f_made_of_told K)) P_made_of_told (spMadeT K (.nm x)) := by
  refine FunD.ok T.F_made_of_told sc_made_of_told (fun vs H Q E h => ?_) (fun cdv A outer s H vs Q E hr h => ?_)
  · obtain ⟨a, i, rfl, _⟩ := h
    rfl
  · obtain ⟨a, i, rfl, o, hd, hp, k⟩ := h
    refine ⟨_, PSs.nox (pss_cons (ps_if (PW.pt (pw_or (pt_cmpR op_eq (pv 1) pe_int (by rfl)) (pw_or (pt_not (pt_val (pe_callB call_isi (by rfl) T.z_isinstance boot_isinstance (pa_cons (pv 0) (pa_cons (pe_bltn (v := .ty "tuple") (by rfl) T.z_tuple boot_tuple rfl) pa_nil))))) (pw_or (pt_cmpR op_lt (pe_callB call_len_seq (by rfl) T.z_len PySem.boot_len (pa_cons (pv 0) pa_nil)) pe_int (by rfl)) (pw_or1 (pt_not (pt_val (pe_callB call_isi (by rfl) T.z_isinstance boot_isinstance (pa_cons (pe_ix ix_tup (pv 0) pe_int (fun _ _ => rfl)) (pa_cons (pe_bltn (v := .ty "str") (by rfl) T.z_str boot_str rfl) pa_nil)))))))))) (pss_one (ps_ret pe_non)) pss_nil) (pss_cons (ps_set (i := 2) sc_made_of_told.nd rfl (by first | exact Or.inl rfl | exact Or.inr rfl) (pe_ix ix_tup (pv 0) pe_int (fun _ _ => rfl))) (pss_cons (ps_if (PW.pt (pw_and (pt_cmpR op_in_seq (pv 2) (pe_tup (pa_cons pe_str (pa_cons pe_str pa_nil))) (by rfl)) (pw_and1 (pt_cmpR op_eq (pe_callB call_len_seq (by rfl) T.z_len PySem.boot_len (pa_cons (pv 0) pa_nil)) pe_int (by rfl))))) (pss_one (ps_ret (pe_call (ok_simple_of T) (hr.mono (by first | decide | omega)) (by rfl) T.g_simple_of T.F_simple_of.kp T.b_simple_of .nil pass0 (pa_cons (pv 2) (pa_cons (pe_ix ix_tup (pv 0) pe_int (fun _ _ => rfl)) pa_nil))))) pss_nil) pB))), ?_⟩
    have o : SqT K H a [.str "name", .str x] := o
    have hd : (1 : Int) ≤ i := hd
    refine ⟨_, rfl, rfl, false, ?_, iteF ?_⟩
    · show V.bl (decide (V.int i = V.int 0)) = .bl false
      rw [decide_eq_false (fun e => by injection e; omega)]
    refine ⟨_, rfl, _, _, _, _, true, rfl, .ty _, tyx_sqt o, kit_ty (by decide +kernel), true, rfl, iteF ?_⟩
    refine ⟨_, rfl, a, _, rfl, .inr o, _, _, rfl, rfl, false, rfl, iteF ?_⟩
    refine ⟨_, rfl, a, _, _, _, rfl, rfl, o, rfl, _, _, _, _, true, rfl, .ty _, .base (.str _), kit_ty (by decide +kernel), true, rfl, iteF ?_⟩
    refine ⟨_, rfl, a, _, _, _, rfl, rfl, o, rfl, ?_⟩
    refine ⟨_, rfl, sz (n := 2) (by decide), fun p hp' => ⟨p, _, rfl, .inr (SqT.of upd_same), rfl, rfl, true, rfl, iteT ?_⟩⟩
    refine ⟨_, rfl, a, _, rfl, .inr (Same.sqt (Same.new hp') o), rfl, true, rfl, iteT ?_⟩
    refine ⟨_, rfl, _, rfl, a, _, _, _, rfl, rfl, Same.sqt (Same.new hp') o, rfl, ?_⟩
    exact ⟨x, rfl, hp x (List.mem_cons_self ..), fun b H' s' e' => k b H' ((Same.new hp').trans s') e'⟩
end
end K99
/-! K5 -/
namespace K99
open PySem PySem.Spec PyProof.Rows L2
theorem TmD.monoN {K : PySem.W.Frag} {H H' : Hp} (e : SameN H H') : ∀ {t : Tm} {a : Addr}, TmD K H a t → TmD K H' a t
  | .nm _, _, h => SameN.sqt e h
  | .two _ _, _, ⟨b, c, h1, h2, h3⟩ => ⟨b, c, SameN.sqt e h1, TmD.monoN e h2, SameN.sqt e h3⟩
theorem TmO.monoN {K : PySem.W.Frag} {H H' : Hp} (e : SameN H H') : ∀ {t : Tm} {a : Addr}, TmO K H a t → TmO K H' a t
  | .nm _, _, ⟨dx, h⟩ => ⟨dx, SameN.ins e h⟩
  | .two _ _, _, ⟨dx, b, c, dc, h1, h2, h3⟩ => ⟨dx, b, c, dc, SameN.ins e h1, TmO.monoN e h2, SameN.ins e h3⟩
section
variable {P : Program} {w : World} {K : PySem.W.Frag} {mg : Str → Option Value} {base : Heap}
theorem ok_made_two (T : Txt K mg) (n : Nat) (IH : ∀ t : Tm, t.dep ≤ n → FnOk P w K mg base CX0 (n + 19) (f_made_of_told K) (fdAt K (f_made_of_told K)) P_made_of_told (spMadeT K t)) (l : Tm) (x : Str) (ht : (Tm.two l x).dep ≤ n + 1) (h5 : (Tm.two l x).dep ≤ 5) : FnOk P w K mg base CX0 (n+20) (f_made_of_told K) (fdAt K (f_made_of_told K)) P_made_of_told (spMadeT K (.two l x)) := by
  refine FunD.ok T.F_made_of_told sc_made_of_told (fun vs H Q E h => ?_) (fun cdv A outer s H vs Q E hr h => ?_)
  · obtain ⟨a, i, rfl, _⟩ := h
    rfl
  · obtain ⟨a, i, rfl, o, hd, hp, k⟩ := h
    refine ⟨_, PSs.nox (pss_cons (ps_if (PW.pt (pw_or (pt_cmpR op_eq (pv 1) pe_int (by rfl)) (pw_or (pt_not (pt_val (pe_callB call_isi (by rfl) T.z_isinstance boot_isinstance (pa_cons (pv 0) (pa_cons (pe_bltn (v := .ty "tuple") (by rfl) T.z_tuple boot_tuple rfl) pa_nil))))) (pw_or (pt_cmpR op_lt (pe_callB call_len_seq (by rfl) T.z_len PySem.boot_len (pa_cons (pv 0) pa_nil)) pe_int (by rfl)) (pw_or1 (pt_not (pt_val (pe_callB call_isi (by rfl) T.z_isinstance boot_isinstance (pa_cons (pe_ix ix_tup (pv 0) pe_int (fun _ _ => rfl)) (pa_cons (pe_bltn (v := .ty "str") (by rfl) T.z_str boot_str rfl) pa_nil)))))))))) (pss_one (ps_ret pe_non)) pss_nil) (pss_cons (ps_set (i := 2) sc_made_of_told.nd rfl (by first | exact Or.inl rfl | exact Or.inr rfl) (pe_ix ix_tup (pv 0) pe_int (fun _ _ => rfl))) (pss_cons (ps_if (PW.pt (pw_and (pt_cmpR op_in_seq (pv 2) (pe_tup (pa_cons pe_str (pa_cons pe_str pa_nil))) (by rfl)) (pw_and1 (pt_cmpR op_eq (pe_callB call_len_seq (by rfl) T.z_len PySem.boot_len (pa_cons (pv 0) pa_nil)) pe_int (by rfl))))) (pss_one (ps_ret (pe_call (ok_simple_of T) (hr.mono (by first | decide | omega)) (by rfl) T.g_simple_of T.F_simple_of.kp T.b_simple_of .nil pass0 (pa_cons (pv 2) (pa_cons (pe_ix ix_tup (pv 0) pe_int (fun _ _ => rfl)) pa_nil))))) pss_nil) (pss_cons (ps_set (i := 3) sc_made_of_told.nd rfl (by first | exact Or.inl rfl | exact Or.inr rfl) (pe_op op_add pe_int (pe_callTy call_int1 (by rfl) T.z_int boot_int (pa_cons (pe_cmpR op_eq (pv 2) pe_str (by rfl)) pa_nil)))) (pss_cons (ps_setLc (i := 4) (own := [("one", 5)]) (by rfl) sc_made_of_told.nd rfl rfl (by rfl) (pi_tup (pe_slice sl_tupA (pv 0) (po_some (pv 3)) po_none)) (blkOk_by (N := N_made_of_told) (sc := defScope s_made_of_told) (by decide +kernel)) (fun _ _ _ _ _ => (pg_name (i := 5) sc_made_of_told.nd rfl (by first | exact Or.inl rfl | exact Or.inr rfl))) (fun _ _ _ _ _ => pts_nil) (fun _ _ _ _ _ => (pe_call (FnOk.ex (p := fun d : Tm => d.dep ≤ n) (spd := spMadeT K) IH) (hr.mono (by first | decide | omega)) (by rfl) T.g_made_of_told T.F_made_of_told.kp T.b_made_of_told .nil pass0 (pa_cons (pv 5) (pa_cons (pe_op op_sub (pv 1) pe_int) pa_nil))))) (pss_cons (ps_if (pt_cmpR (op_noneIn hr.units) pe_non (pv 4) (by rfl)) (pss_one (ps_ret pe_non)) pss_nil) (pss_cons (ps_if (PW.pt (pw_and (pt_cmpR op_eq (pv 2) pe_str (by rfl)) (pw_and (pt_cmpR op_eq (pe_callB call_len_seq (by rfl) T.z_len PySem.boot_len (pa_cons (pv 4) pa_nil)) pe_int (by rfl)) (pw_and (pt_val (pe_callB call_isi (by rfl) T.z_isinstance boot_isinstance (pa_cons (pe_ix ix_tup (pv 0) pe_int (fun _ _ => rfl)) (pa_cons (pe_bltn (v := .ty "str") (by rfl) T.z_str boot_str rfl) pa_nil)))) (pw_and1 (pt_cmpR op_in_seq (pe_ix ix_tup (pv 0) pe_int (fun _ _ => rfl)) (pe_call0 (ok_ops_told T) (hr.mono (by first | decide | omega)) (by rfl) T.g_ops_told T.F_ops_told.kp T.b_ops_told .nil pass0) (by rfl))))))) (pss_one (ps_ret (pe_make T.mk_Two (ok_Two_init T) (hr.mono (by first | decide | omega)) rfl T.g_Two T.b_Two_init .nil pass0 (pa_cons (pe_ix ix_tup (pv 0) pe_int (fun _ _ => rfl)) (pa_cons (pe_ix ix_list (pv 4) pe_int (fun _ _ => rfl)) (pa_cons (pe_ix ix_list (pv 4) pe_int (fun _ _ => rfl)) pa_nil)))))) pss_nil) (pss_cons (ps_if (PW.pt (pw_and (pt_cmpR op_eq (pv 2) pe_str (by rfl)) (pw_and1 (pt_cmpR op_eq (pe_callB call_len_seq (by rfl) T.z_len PySem.boot_len (pa_cons (pv 4) pa_nil)) pe_int (by rfl))))) pB pss_nil) (pss_cons (ps_if (PW.pt (pw_and (pt_cmpR op_eq (pv 2) pe_str (by rfl)) (pw_and1 (pt_cmpR op_eq (pe_callB call_len_seq (by rfl) T.z_len PySem.boot_len (pa_cons (pv 4) pa_nil)) pe_int (by rfl))))) pB pss_nil) (pss_one (ps_ret pe_non))))))))))), ?_⟩
    obtain ⟨b, c, o1, o2, o3⟩ := o
    have hd : ((l.dep + 1 : Nat) : Int) ≤ i := hd
    have hd3 : l.dep + 1 ≤ 5 := h5
    refine ⟨_, rfl, rfl, false, ?_, iteF ?_⟩
    · show V.bl (decide (V.int i = V.int 0)) = .bl false
      rw [decide_eq_false (fun e => by injection e; omega)]
    refine ⟨_, rfl, _, _, _, _, true, rfl, .ty _, tyx_sqt o1, kit_ty (by decide +kernel), true, rfl, iteF ?_⟩
    refine ⟨_, rfl, a, _, rfl, .inr o1, _, _, rfl, rfl, false, rfl, iteF ?_⟩
    refine ⟨_, rfl, a, _, _, _, rfl, rfl, o1, rfl, _, _, _, _, true, rfl, .ty _, .base (.str _), kit_ty (by decide +kernel), true, rfl, iteF ?_⟩
    refine ⟨_, rfl, a, _, _, _, rfl, rfl, o1, rfl, ?_⟩
    refine ⟨_, rfl, sz (n := 2) (by decide), fun p hp' => ⟨p, _, rfl, .inr (SqT.of upd_same), rfl, rfl, false, rfl, iteF ?_⟩⟩
    generalize hH1 : upd H p (.tup [V.str "name", .str "value"]) = H1
    have s1 : Same H H1 := by
      rw [← hH1]
      exact Same.new hp'
    have o1 := Same.sqt s1 o1
    refine ⟨_, rfl, rfl, .inr ⟨true, rfl, ?_⟩⟩
    refine ⟨1, 1, rfl, rfl, ?_⟩
    refine ⟨_, rfl, _, rfl, ?_⟩
    refine ⟨_, rfl, a, _, rfl, o1, fun h => absurd h.1 (by show ¬ (2 : Nat) = 0; decide), fun _ q hq => ?_⟩
    have e2 : SqT K (upd H1 q (.tup (cutV [V.str "two", .str "+", .ref b, .ref c] (some (1 + 1)) none))) q ([(b, l), (c, Tm.nm x)].map fun p => V.ref p.1) := SqT.of upd_same
    have s2 : Same H1 (upd H1 q (.tup (cutV [V.str "two", .str "+", .ref b, .ref c] (some (1 + 1)) none))) := Same.new hq
    generalize upd H1 q (.tup (cutV [V.str "two", .str "+", .ref b, .ref c] (some (1 + 1)) none)) = H2 at e2 s2 ⊢
    refine ⟨q, rfl, ⟨_, e2⟩, fun D hD => ?_⟩
    have hm : ∀ p : Addr × Tm, p ∈ [(b, l), (c, Tm.nm x)] → TmD K H2 p.1 p.2 ∧ p.2.dep ≤ n ∧ ((p.2.dep : Nat) : Int) ≤ i - 1 ∧ ∀ z, z ∈ p.2.nms → Ptd z := fun p hp' => by
      have hl := l.dep_pos
      have ht' : l.dep + 1 ≤ n + 1 := ht
      rcases List.mem_cons.mp hp' with rfl | hp'
      · exact ⟨TmD.mono (s1.trans s2) o2, by show l.dep ≤ n; omega, by show ((l.dep : Nat) : Int) ≤ i - 1; omega, fun z hz => hp z (List.mem_append_left _ hz)⟩
      · rcases List.mem_cons.mp hp' with rfl | hp'
        · exact ⟨TmD.mono (t := .nm x) (s1.trans s2) o3, by show 1 ≤ n; omega, by show ((1 : Nat) : Int) ≤ i - 1; omega, fun z hz => hp z (List.mem_append_right _ hz)⟩
        · cases hp'
    refine lc_new (wm_tup [(b, l), (c, Tm.nm x)] fun p => V.ref p.1) (fun H p v => ∃ b', v = .ref b' ∧ TmO K H b' p.2) (fun H H' p v e ⟨b', e1, o⟩ => ⟨b', e1, o.monoN e⟩) hD (by decide : 2 ≤ 1000000) (fun H' s' => Same.sqt s' e2) (fun _ => rfl) (fun p H3 hp3 s3 Q' q' => ?_) (fun H3 xs s3 h3 pr => ?_) (fun _ _ _ q => q)
    · obtain ⟨g1, g2, g3, g4⟩ := hm p hp3
      refine ⟨_, rfl, _, rfl, i, 1, rfl, rfl, p.2, g2, p.1, i - 1, rfl, g1.mono s3, g3, g4, fun b' H' s' o' => q' _ _ s' ⟨b', rfl, o'⟩⟩
    cases pr with
    | cons r1 pr =>
    cases pr with
    | cons r2 pr =>
    cases pr with
    | nil =>
    obtain ⟨b', rfl, r1⟩ := r1
    obtain ⟨c', rfl, dc, r2⟩ := r2
    have n1 : NoneOr K H3 (.ref b') := by
      cases l with
      | nm y =>
        obtain ⟨_, r1⟩ := r1
        exact T.ne_Name r1
      | two l y =>
        obtain ⟨_, _, _, _, r1, _⟩ := r1
        exact T.ne_Two r1
    have n2 : NoneOr K H3 (.ref c') := T.ne_Name r2
    have s4 := (s1.trans s2).trans s3
    have o1 := Same.sqt (s2.trans s3) o1
    refine ⟨_, rfl, D, _, rfl, rfl, SqL.of h3, fun z hz => ?_, false, rfl, iteF ?_⟩
    · rcases List.mem_cons.mp hz with rfl | hz
      · exact n1
      · rcases List.mem_cons.mp hz with rfl | hz
        · exact n2
        · cases hz
    refine ⟨_, rfl, rfl, true, rfl, iteT ?_⟩
    refine ⟨_, rfl, D, _, rfl, .inl (SqL.of h3), rfl, true, rfl, iteT ?_⟩
    refine ⟨_, rfl, a, _, _, _, rfl, rfl, o1, rfl, _, _, _, _, true, rfl, .ty _, .base (.str _), kit_ty (by decide +kernel), true, rfl, iteT ?_⟩
    refine ⟨_, rfl, a, _, _, _, rfl, rfl, o1, rfl, rfl, fun l' H4 s5 h4 => ?_⟩
    refine ⟨l', opsVs, rfl, .inl (SqL.of h4), rfl, rfl, true, rfl, iteT ?_⟩
    have o1 := Same.sqt s5 o1
    have h3 := s5 _ _ h3
    refine ⟨_, rfl, a, _, _, _, rfl, rfl, o1, rfl, _, rfl, D, _, _, _, rfl, rfl, SqL.of h3, rfl, _, rfl, D, _, _, _, rfl, rfl, SqL.of h3, rfl, fun y dy hy hdy hn => ?_⟩
    refine ⟨y, b', c', l, x, dy, H4, rfl, hy, (Same.new hdy).trans (Same.new (by rw [upd_ne hn.symm]; exact hy)), upd_same, r1.mono s5, ⟨dc, s5 _ _ r2⟩, by omega, fun H5 s6 e5 => ⟨rfl, ?_⟩⟩
    have s7 := new_same hy hdy s6
    exact k _ _ (s4.trans (s5.trans s7)) ⟨dy, b', c', dc, e5, r1.mono (s5.trans s7), s7 _ _ (s5 _ _ r2)⟩
theorem ok_made (T : Txt K mg) : ∀ (n : Nat) (t : Tm), t.dep ≤ n → n ≤ 5 → FnOk P w K mg base CX0 (n + 19) (f_made_of_told K) (fdAt K (f_made_of_told K)) P_made_of_told (spMadeT K t)
  | 0, t, h, _ => absurd t.dep_pos (by omega)
  | n + 1, .nm x, h, _ => (ok_made_nm T x).mono (by omega)
  | n + 1, .two l x, h, h5 => ok_made_two T n (fun t ht => ok_made T n t ht (by omega)) l x h (by omega)
def spTermOf (K : PySem.W.Frag) : Sp := fun vs H Q _ => ∃ a t, vs = [V.ref a] ∧ TmD K H a t ∧ t.dep ≤ 5 ∧ (∀ x, x ∈ t.nms → Ptd x) ∧ ∀ b H', Same H H' → TmO K H' b t → Q (.ref b) H'
theorem ok_term_of (T : Txt K mg) : FnOk P w K mg base CX0 30 (f_term_of K) (fdAt K (f_term_of K)) P_term_of (spTermOf K) := by
  obtain ⟨t_MOST_LEVELS, e_MOST_LEVELS⟩ := T.i_MOST_LEVELS
  refine FunD.ok T.F_term_of sc_term_of (fun vs H Q E h => ?_) (fun cdv A outer s H vs Q E hr h => ?_)
  · obtain ⟨a, t, rfl, _⟩ := h
    rfl
  · obtain ⟨a, t, rfl, o, hd, hp, k⟩ := h
    refine ⟨_, PSs.nox (pss_cons (ps_set (i := 1) sc_term_of.nd rfl (by first | exact Or.inl rfl | exact Or.inr rfl) (pe_call (FnOk.ex (p := fun d : Tm => d.dep ≤ 5) (spd := spMadeT K) fun t h => ok_made T 5 t h (by decide)) (hr.mono (by first | decide | omega)) (by rfl) T.g_made_of_told T.F_made_of_told.kp T.b_made_of_told .nil pass0 (pa_cons (pv 0) (pa_cons (pe_glob (v := .int 5) rfl e_MOST_LEVELS ⟨t_MOST_LEVELS, rfl⟩) pa_nil)))) (pss_cons (ps_if (pt_cmp (pc_isN (pv 1))) pB pss_nil) (pss_one (ps_ret (pv 1))))), ?_⟩
    refine ⟨_, rfl, t, hd, a, 5, rfl, o, by omega, hp, fun b H1 s1 o1 => ?_⟩
    exact ⟨_, rfl, false, rfl, iteF ⟨_, rfl, k b H1 s1 o1⟩⟩
end
end K99
/-! KX -/
namespace K99
open PySem PySem.Spec PyProof.Rows L2
section
variable {X : Cx} {CX : CXT} {k : Nat} {f C : Addr} {fd : FuncData} {ps : List Str} {sp : Sp} {dvs : List V} {ds : List Value} {E : XK} {x m : Str} {p1 p2 pos : Pos} {e : Expr} {es : List Expr} {ta : TA}
/-- C.m(e, ..) of an own class, m a def of it -/
theorem pe_clsfn {pl : Sem Bool} (F : FnOk X.prog X.w X.K X.mg X.base CX k f fd ps sp) (hr : Room k X.A) (hg : Gl X x) (hm : X.mg x = some (.ref C))
    (h1 : PySem.W.specialIn X.K (.ref C) "__getattribute__" = some (some (.builtin "type.__getattribute__"))) (h2 : PySem.W.readsIn X.K C (.type "type") = true) (h3 : PySem.W.findCls X.K (.ref C) (.type "type") m = some (.val (.ref f)))
    (hk : PySem.W.keepIn X.K (.ref f) = true) (hb : L2.Binds X.K fd ps ds) (hd : Vals dvs ds) (hx : Passes CX X E) (ha : PA X (e :: es) ta) (hdb : (x == ("__debug__" : Str)) = false := by decide)
    (hc : eval (.Call (.Attribute (.Name x p1) m p2) (e :: es) [] pos) X.env = (do
      let ov ← eval (.Name x p1) X.env
      standAt p2.atName
      let (f, first) ← holding [ov] (getMethod ov m pl)
      callWith pos f first (backTo pos (starEach (e :: es) X.env)) (backToKw pos (keywordEach [] X.env))) := by rfl)
    (hst : starEach (e :: es) X.env = (false, eval e X.env) :: starEach es X.env := by rfl) (hpl : (backTo pos (starEach es X.env)).any (·.1) = false := by rfl) :
    PE X (.Call (.Attribute (.Name x p1) m p2) (e :: es) [] pos) (tCall sp dvs E ta) := by
  refine ⟨fun pins s σ H Q I h => ?_⟩
  refine PySem.W.methodCall_KW (thn ((pe_glob (v := .ref C) hg hm rfl hdb).run pins s σ H (fun v H' => v = .ref C ∧ H' = H) I ⟨rfl, rfl⟩) fun u s1 ⟨v, H1, I1, r, e1, e2⟩ => ?_) hc
  subst e1
  subst e2
  obtain rfl : u = Value.ref C := r
  refine PySem.W.method_cls I1.kIn h1 (PySem.W.cls_value I1.kIn h2 h3 rfl ?_)
  refine PySem.W.callWith_K (first := []) (h₀ := X.base) I.ok.mod.kin hk (thn (ha.run pos pins _ σ H1 _ (I1.tok _) h) fun us s2 ⟨vs, H2, I2, r, q2⟩ => ⟨I2.kIn, ?_⟩) hst hpl
  exact run_fn (us := us) (vs := vs) F hr hb hd hx I2 r q2
/-- C.__init__(self, ..) of an own class of exceptions whose __init__ is ValueError's -/
theorem pe_clsve {pl : Sem Bool} (hg : Gl X x) (hm : X.mg x = some (.ref C))
    (h1 : PySem.W.specialIn X.K (.ref C) "__getattribute__" = some (some (.builtin "type.__getattribute__"))) (h2 : PySem.W.readsIn X.K C (.type "type") = true) (h3 : PySem.W.findCls X.K (.ref C) (.type "type") "__init__" = some (.val (.builtin "ValueError.__init__")))
    (ha : PA X (e :: es) ta) (hdb : (x == ("__debug__" : Str)) = false := by decide)
    (hc : eval (.Call (.Attribute (.Name x p1) "__init__" p2) (e :: es) [] pos) X.env = (do
      let ov ← eval (.Name x p1) X.env
      standAt p2.atName
      let (f, first) ← holding [ov] (getMethod ov "__init__" pl)
      callWith pos f first (backTo pos (starEach (e :: es) X.env)) (backToKw pos (keywordEach [] X.env))) := by rfl)
    (he : starEach (e :: es) X.env = (false, eval e X.env) :: starEach es X.env := by rfl) (hpl : (backTo pos (starEach es X.env)).any (·.1) = false := by rfl) :
    PE X (.Call (.Attribute (.Name x p1) "__init__" p2) (e :: es) [] pos) (tVeI X.K ta) := by
  refine ⟨fun pins s σ H Q I h => ?_⟩
  refine PySem.W.methodCall_KW (thn ((pe_glob (v := .ref C) hg hm rfl hdb).run pins s σ H (fun v H' => v = .ref C ∧ H' = H) I ⟨rfl, rfl⟩) fun u s1 ⟨v, H1, I1, r, e1, e2⟩ => ?_) hc
  subst e1
  subst e2
  obtain rfl : u = Value.ref C := r
  refine PySem.W.method_cls I1.kIn h1 (PySem.W.cls_value I1.kIn h2 h3 rfl ?_)
  show wpAny _ _ (callWith pos (Value.builtin "ValueError.__init__") [] (backTo pos (starEach (e :: es) X.env)) []) _ _ _
  refine PyProof.Rows.callWith_method1 (thn (ha.run pos pins _ σ H1 _ (I1.tok _) h) fun us s1 ⟨vs, H1, I1, r1, a, C, ws, ev, hl, T, ea, q⟩ => ?_) he hpl
  subst ev
  cases r1 with
  | @cons _ u0 _ ur ra rw' =>
    obtain rfl : u0 = Value.ref a := ra
    have hlen : ur.length ≤ sizeLine := by
      rw [← Paired.length rw', sizeLine_eq]
      omega
    exact oinit_ok T I1 ea hlen fun s' J => ⟨.non, H1, J, rfl, q⟩
end
end K99
/-! KZ -/
namespace K99
open PySem PySem.Spec PyProof.Rows L2
section
variable {prog : Program} {w : World} {A : Around} {E : Value → Shared → Prop} {s : Shared} {z TI TO T i1 i2 : Addr} {fp1 fp2 : List Addr} {n1 n2 i : Nat} {P1 P2 : Nat → Value → Prop} {St1 St2 : Nat → Heap → Prop} {f : Bool} {oT : Obj}
/-- next of a zip over two iterators of any kind, its tuple still held -/
theorem zh_item {Q : Option Value → Shared → Prop} (S : ZipSep2 z TI TO i1 i2 fp1 fp2) (D1 : Draws prog w A.in1 i1 fp1 n1 P1 St1) (D2 : Draws prog w A.in1 i2 fp2 n2 P2 St2)
    (hz : IsZipHeld s.heap z TI TO T f) (hT : s.heap.get? T = some oT) (hTI : IsTupOf2 s.heap TI (.ref i1) (.ref i2)) (u1 : St1 i s.heap) (u2 : St2 i s.heap) (b1 : i < n1) (b2 : i < n2)
    (hQ : ∀ x1 x2 h' tk, P1 i x1 → P2 i x2 → IsZipHeld h' z TI TO T true → St1 (i + 1) h' → St2 (i + 1) h' → IsTupOf2 h' s.heap.objs.size x1 x2 →
      (∀ c o, c ≠ z → c ≠ i1 → c ≠ i2 → s.heap.get? c = some o → h'.get? c = some o) → Q (some (.ref s.heap.objs.size)) { s with heap := h', toks := tk }) : wpAny (model prog w) A (pyNext (.ref z)) Q E s := by
  have ht : s.TypeIs (.ref z) "zip" := ⟨_, hz, rfl⟩
  unfold pyNext
  refine wpAny_bind (wpAny_attempt (wpAny_callSpecial?_slot (name := Str.ofString "__next__") ht PySem.F.slot_zip_next (wpAny_call_entry PySem.F.slot_zip_next ht PySem.F.entry_zip_next ?_ (PySem.F.args_zip_next_1 _))))
  show wpAny _ _ (field (.ref z) 2 >>= _) _ _ s
  refine wpAny_bind (wpAny_field (x := .bool false) hz rfl rfl ?_)
  show wpAny _ _ (field (.ref z) 3 >>= _) _ _ s
  refine wpAny_bind (wpAny_field (x := .ref TI) hz rfl rfl (wpAny_bind (wpAny_seqItems hTI rfl ?_)))
  show wpAny _ _ (Builtin.SmallTypes.ownedTupleIsFree (.ref z) >>= _) _ _ s
  refine wpAny_bind (wpAny_tupleHeld_zip hz hT fun g1 e1 c1 => ?_)
  simp only [Bool.false_eq_true, if_false]
  rw [← Array.forIn_toList]
  simp only [List.forIn_cons, List.forIn_nil]
  refine wpAny_bind (wpAny_bind (wpAny_bind (wpAny_holding ?_)))
  show wpAny _ _ (Builtin.SmallTypes.nextOf (.ref i1) >>= _) _ _ { s with heap := g1 }
  refine wpAny_bind (D1.item i _ _ _ b1 (D1.over u1 c1 S.zf1) fun x1 g2 k2 p1 e2 c2 => wpAny_pure (wpAny_pure ?_))
  refine wpAny_bind (wpAny_bind (wpAny_holding ?_))
  show wpAny _ _ (Builtin.SmallTypes.nextOf (.ref i2) >>= _) _ _ { s with heap := g2, toks := k2 }
  refine wpAny_bind (D2.item i _ _ _ b2 (D2.over (D2.over u2 c1 S.zf2) c2 S.sep1_2) fun x2 g3 k3 p2 e3 c3 => wpAny_pure ?_)
  refine wpAny_pure (wpAny_pure ?_)
  show wpAny _ _ (newTuple [x1, x2] >>= _) _ _ { s with heap := g3, toks := k3 }
  refine wpAny_bind (wpAny_newTuple (wpAny_pure ⟨_, rfl, ?_⟩))
  show wpAny _ _ _ _ _ { s with heap := g3.push { cls := .type "tuple", data := .seq #[x1, x2] }, toks := k3 }
  have hs : g3.objs.size = s.heap.objs.size := by rw [c3.1, c2.1, c1.1]
  have hz3 : IsZipHeld g3 z TI TO T true := c3.extBut _ _ S.zi2 (c2.extBut _ _ S.zi1 e1)
  have hp : IsTupOf2 (g3.push { cls := .type "tuple", data := .seq #[x1, x2] }) g3.objs.size x1 x2 := Heap.get?_push_size _ rfl
  have up : ∀ c o, g3.get? c = some o → (g3.push { cls := .type "tuple", data := .seq #[x1, x2] }).get? c = some o := fun c o e => Heap.get?_push_of_some _ e
  refine wpAny_pure ?_
  have q := hQ x1 x2 (g3.push { cls := .type "tuple", data := .seq #[x1, x2] }) k3 p1 p2 (up _ _ hz3) (D1.frame _ _ _ (D1.over e2 c3 S.sep2_1) fun b _ o e => up b o e) (D2.frame _ _ _ e3 fun b _ o e => up b o e) (by rw [hs] at hp; exact hp)
    fun c o a1 a2 a3 e => up c o (c3.extBut _ _ a3 (c2.extBut _ _ a2 (c1.extBut _ _ a1 e)))
  rw [← hs] at q
  exact q
theorem zh_end {Q : Option Value → Shared → Prop} {n : Nat} (S : ZipSep2 z TI TO i1 i2 fp1 fp2) (D1 : Draws prog w A.in1 i1 fp1 n P1 St1)
    (hz : IsZipHeld s.heap z TI TO T f) (hT : s.heap.get? T = some oT) (hTI : IsTupOf2 s.heap TI (.ref i1) (.ref i2)) (u1 : St1 n s.heap)
    (hQ : ∀ h', (∀ c o, c ≠ z → c ≠ i1 → s.heap.get? c = some o → h'.get? c = some o) → Q none { s with heap := h' }) : wpAny (model prog w) A (pyNext (.ref z)) Q E s := by
  have ht : s.TypeIs (.ref z) "zip" := ⟨_, hz, rfl⟩
  unfold pyNext
  refine wpAny_bind (wpAny_attempt (wpAny_callSpecial?_slot (name := Str.ofString "__next__") ht PySem.F.slot_zip_next (wpAny_call_entry PySem.F.slot_zip_next ht PySem.F.entry_zip_next ?_ (PySem.F.args_zip_next_1 _))))
  show wpAny _ _ (field (.ref z) 2 >>= _) _ _ s
  refine wpAny_bind (wpAny_field (x := .bool false) hz rfl rfl ?_)
  show wpAny _ _ (field (.ref z) 3 >>= _) _ _ s
  refine wpAny_bind (wpAny_field (x := .ref TI) hz rfl rfl (wpAny_bind (wpAny_seqItems hTI rfl ?_)))
  show wpAny _ _ (Builtin.SmallTypes.ownedTupleIsFree (.ref z) >>= _) _ _ s
  refine wpAny_bind (wpAny_tupleHeld_zip hz hT fun g1 e1 c1 => ?_)
  simp only [Bool.false_eq_true, if_false]
  rw [← Array.forIn_toList]
  simp only [List.forIn_cons, List.forIn_nil]
  refine wpAny_bind (wpAny_bind (wpAny_bind (wpAny_holding ?_)))
  show wpAny _ _ (Builtin.SmallTypes.nextOf (.ref i1) >>= _) _ _ { s with heap := g1 }
  refine wpAny_bind (D1.done _ _ _ (D1.over u1 c1 S.zf1) fun g2 e c2 he => ?_)
  obtain ⟨o, ho, hc⟩ := he
  refine wpAny_bind (wpAny_isInstance (T := "StopIteration") (b := true) ⟨o, ho, hc⟩ isSubtype_stop ?_)
  exact wpAny_pure (hQ _ fun c o a1 a2 e => c2 _ _ a2 (c1.extBut _ _ a1 e))
end
section
variable {prog : Program} {w : World}
/-- zip of a list and a tuple of one length, as what dict() takes -/
theorem zipLT (z TI TO i1 i2 l t : Addr) (S : ZipSep2 z TI TO i1 i2 [i1, l] [i2, t]) (h1 : l ≠ i1) (h2 : t ≠ i2) (n3 : TI ≠ l) (n4 : TI ≠ t) (xs ys : Array Value) (n : Nat) (hx : xs.size = n) (hy : ys.size = n) :
    PairArg prog w "zip" z [z, TI, TO, i1, i2, l, t] [z, TO, i1, i2] n (fun i k v => xs[i]? = some k ∧ ys[i]? = some v)
      (fun h => (IsZip h z TI TO .none ∧ IsTupOf2 h TI (.ref i1) (.ref i2) ∧ IsTupOf2 h TO .none .none) ∧ (h.IsListIter i1 l 0 ∧ h.IsList l xs) ∧ (h.IsTupleIter i2 t 0 ∧ h.IsTuple t ys)) where
  type := fun s ok => ⟨_, ok.1.1, rfl⟩
  notDict := by decide
  keep := fun h h' ok hk => ⟨⟨hk _ _ ok.1.1, hk _ _ ok.1.2.1, hk _ _ ok.1.2.2⟩, ⟨ok.2.1.1.at fun o e => hk _ o e, ok.2.1.2.at fun o e => hk _ o e⟩, ⟨ok.2.2.1.at fun o e => hk _ o e, ok.2.2.2.at fun o e => hk _ o e⟩⟩
  there := fun h ok b hb => by
    obtain ⟨⟨q1, q2, q3⟩, ⟨⟨o1, g1, _⟩, ⟨o2, g2, _⟩⟩, ⟨⟨o3, g3, _⟩, ⟨o4, g4, _⟩⟩⟩ := ok
    have hb : b = z ∨ b = TI ∨ b = TO ∨ b = i1 ∨ b = i2 ∨ b = l ∨ b = t := by simpa using hb
    rcases hb with e | e | e | e | e | e | e
    · exact ⟨_, e ▸ q1⟩
    · exact ⟨_, e ▸ q2⟩
    · exact ⟨_, e ▸ q3⟩
    · exact ⟨_, e ▸ g1⟩
    · exact ⟨_, e ▸ g3⟩
    · exact ⟨_, e ▸ g2⟩
    · exact ⟨_, e ▸ g4⟩
  sub := fun b hb => by
    have hb : b = z ∨ b = TO ∨ b = i1 ∨ b = i2 := by simpa using hb
    rcases hb with e | e | e | e <;> simp [e]
  noKeys := fun A s Q E hA ok h => getAttrOr_miss_zip ok.1.1 rfl rfl rfl zip_no_keys (by decide +kernel) hA h
  iter := fun A s d Q E hA ok hd hdf h => by
    obtain ⟨⟨q1, q2, q3⟩, q4, q5⟩ := ok
    have hdn : d ≠ z ∧ d ≠ TI ∧ d ≠ TO ∧ d ≠ i1 ∧ d ≠ i2 ∧ d ≠ l ∧ d ≠ t := by simpa using hdf
    obtain ⟨d1, d2, d3, d4, d5, d6, d7⟩ := hdn
    have D1 : Draws prog w A.in1 i1 [i1, l] xs.size (fun i v => xs[i]? = some v) (fun i h => h.IsListIter i1 l i ∧ h.IsList l xs) := Draws.list (A := A.in1) hA i1 l h1 xs
    have D2 : Draws prog w A.in1 i2 [i2, t] ys.size (fun i v => ys[i]? = some v) (fun i h => h.IsTupleIter i2 t i ∧ h.IsTuple t ys) := Draws.tuple (A := A.in1) hA i2 t h2 ys
    rw [hx] at D1
    rw [hy] at D2
    refine wpAny_pyIter_zip q1 (h z [z, TO, i1, i2] (fun i h => (IsTupOf2 h TI (.ref i1) (.ref i2) ∧ (h.IsListIter i1 l i ∧ h.IsList l xs) ∧ (h.IsTupleIter i2 t i ∧ h.IsTuple t ys)) ∧
      ((IsZip h z TI TO .none ∧ IsTupOf2 h TO .none .none) ∨ ∃ T f oT, IsZipHeld h z TI TO T f ∧ h.get? T = some oT ∧ T ≠ z ∧ T ≠ i1 ∧ T ≠ i2 ∧ T ≠ d)) s.heap s.toks ?_ ⟨⟨q2, q4, q5⟩, .inl ⟨q1, q3⟩⟩ (fun _ _ e => e) fun b hb => .inl hb)
    refine ⟨by simp [d1, d3, d4, d5], fun i g g' st hk => ?_, fun i s₁ Q₁ E₁ hi st hds hQ => ?_, fun s₁ Q₁ E₁ st hQ => ?_⟩
    · obtain ⟨⟨a1, a2, a3⟩, a4⟩ := st
      refine ⟨⟨hk _ _ d2.symm a1, ⟨a2.1.at fun o e => hk _ o d4.symm e, a2.2.at fun o e => hk _ o d6.symm e⟩, ⟨a3.1.at fun o e => hk _ o d5.symm e, a3.2.at fun o e => hk _ o d7.symm e⟩⟩, ?_⟩
      rcases a4 with ⟨a4, a5⟩ | ⟨T, f, oT, a4, a5, r1, r2, r3, r4⟩
      · exact .inl ⟨hk _ _ d1.symm a4, hk _ _ d3.symm a5⟩
      · exact .inr ⟨T, f, oT, hk _ _ d1.symm a4, hk _ _ r4 a5, r1, r2, r3, r4⟩
    · obtain ⟨⟨a1, a2, a3⟩, a4⟩ := st
      have lt : ∀ {c o}, s₁.heap.get? c = some o → s₁.heap.objs.size ≠ c := fun e => Nat.ne_of_gt (Heap.lt_size e)
      have m1 : s₁.heap.objs.size ≠ i1 := let ⟨⟨_, e, _⟩, _⟩ := a2; lt e
      have m2 : s₁.heap.objs.size ≠ i2 := let ⟨⟨_, e, _⟩, _⟩ := a3; lt e
      rcases a4 with ⟨a4, a5⟩ | ⟨T, f, oT, a4, a5, r1, r2, r3, r4⟩
      · refine wpAny_pyNext_zipD2_item S D1 D2 a4 a1 a5 a2 a3 hi hi fun x1 x2 h' tk p1 p2 b1 b2 b3 b4 b5 b6 hk => ?_
        exact hQ s₁.heap.objs.size x1 x2 h' tk ⟨p1, p2⟩ (.inl ⟨_, b5, rfl, _, rfl⟩) ⟨⟨hk _ _ S.TIz S.TITO S.TIi1 S.TIi2 a1, b3, b4⟩, .inr ⟨_, false, _, b1, b5, lt a4, m1, m2, Nat.ne_of_gt hds⟩⟩
          fun c o hc e => hk c o (fun x => hc (by simp [x])) (fun x => hc (by simp [x])) (fun x => hc (by simp [x])) (fun x => hc (by simp [x])) e
      · refine zh_item S D1 D2 a4 a5 a1 a2 a3 hi hi fun x1 x2 h' tk p1 p2 b1 b3 b4 b5 hk => ?_
        exact hQ s₁.heap.objs.size x1 x2 h' tk ⟨p1, p2⟩ (.inl ⟨_, b5, rfl, _, rfl⟩) ⟨⟨hk _ _ S.TIz S.TIi1 S.TIi2 a1, b3, b4⟩, .inr ⟨T, true, oT, b1, hk _ _ r1 r2 r3 a5, r1, r2, r3, r4⟩⟩
          fun c o hc e => hk c o (fun x => hc (by simp [x])) (fun x => hc (by simp [x])) (fun x => hc (by simp [x])) e
    · obtain ⟨⟨a1, a2, a3⟩, a4⟩ := st
      rcases a4 with ⟨a4, a5⟩ | ⟨T, f, oT, a4, a5, r1, r2, r3, r4⟩
      · exact wpAny_pyNext_zipD2_end S D1 D2 a4 a1 a5 a2 a3 (Nat.le_refl _) (Nat.le_refl _) (.inl rfl) fun h' tk hk => hQ h' tk fun c o hc e => hk c o (fun x => hc (by simp [x])) (fun x => hc (by simp [x])) (fun x => hc (by simp [x])) (fun x => hc (by simp [x])) e
      · exact zh_end S D1 a4 a5 a1 a2 fun h' hk => hQ h' s₁.toks fun c o hc e => hk c o (fun x => hc (by simp [x])) (fun x => hc (by simp [x])) e
end

/-! ### dict(zip(xs, ys)), a list of texts and a tuple -/
def tDZip (K : PySem.W.Frag) (ta : TA) : TE := fun σ H Q => ta σ H fun vs H1 => ∃ (l t : Addr) (xs : List Str) (ys : List V), vs = [.ref l, .ref t] ∧ SqL K H1 l (xs.map V.str) ∧ SqT K H1 t ys ∧ ys.length = xs.length ∧ xs.length ≤ 1000000 ∧
  ∀ p, H1 p = none → Q (.ref p) (upd H1 p (.dK (mergeK [] ((xs.map Sum.inr).zip ys))))
theorem vals_get {xs : List V} {us : List Value} (r : Vals xs us) {i : Nat} {u : Value} (h : us[i]? = some u) : ∃ x, xs[i]? = some x ∧ RelV x u := by
  induction r generalizing i with
  | nil => simp at h
  | cons a r ih =>
    cases i with
    | zero =>
      simp at h
      exact ⟨_, rfl, h ▸ a⟩
    | succ i =>
      simp at h
      obtain ⟨x, h1, h2⟩ := ih h
      exact ⟨x, by simpa using h1, h2⟩
theorem kv_zip : ∀ {xs : List Str} {ys : List V} {us : List Value}, Vals ys us → ys.length = xs.length → KV ((xs.map Sum.inr).zip ys) ((xs.map (Sum.inr : Str → Key)).zip us)
  | [], _, _, .nil, _ => .nil
  | [], _ :: _, _, _, h => by simp at h
  | _ :: _, [], _, _, h => by simp at h
  | x :: xs, y :: ys, _, .cons a r, h => .cons ⟨rfl, a⟩ (kv_zip r (by simpa using h))
theorem nat_out {b n : Nat} (h : b < n) (hb : b = n + 4 ∨ b = n + 3 ∨ b = n ∨ b = n + 1) : False := by omega
theorem pe_dictZip {X : Cx} {a b : Expr} {ta : TA} {p1 p2 pos1 pos : Pos} (hc : X.calm = true) (hg1 : Gl X "zip") (hm1 : X.mg "zip" = none) (hg2 : Gl X "dict") (hm2 : X.mg "dict" = none) (ha : PA X [a, b] ta)
    (hs : starEach [a, b] X.env = (false, eval a X.env) :: starEach [b] X.env := by rfl) (hpl : (backTo pos1 (starEach [b] X.env)).any (·.1) = false := by rfl)
    (na : starEach [Expr.Call (.Name "zip" p1) [a, b] [] pos1] X.env = (false, eval (.Call (.Name "zip" p1) [a, b] [] pos1) X.env) :: starEach [] X.env := by rfl) :
    PE X (.Call (.Name "dict" p2) [.Call (.Name "zip" p1) [a, b] [] pos1] [] pos) (tDZip X.K ta) := by
  refine ⟨fun pins s σ H Q I h => ?_⟩
  refine Call_ (ld_blt I hg2 hm2 boot_dict (PyProof.Rows.callWith_type1 (args_cons ?_ na) na))
  refine Call_ (ld_blt I hg1 hm1 PyProof.Rows.boot_zip (PyProof.Rows.callWith_type1 (thn (ha.run pos1 pins s σ H _ I h) fun us s1 ⟨vs, H1, I1, r1, l, t, xs, ys, ev, hl, ht, hlen, hz, q⟩ => ?_) hs hpl))
  subst ev
  obtain ⟨u1, u2, rfl, e1, e2⟩ := vals2 r1
  obtain rfl : u1 = Value.ref l := e1
  obtain rfl : u2 = Value.ref t := e2
  obtain ⟨its, rv, pl, hz1⟩ := I1.list hl
  obtain ⟨itt, rt, pt, hz2⟩ := I1.tuple ht
  have il : s1.heap.IsList l its.toArray := pl.isList
  have itp : s1.heap.IsTuple t itt.toArray := pt
  refine zip_begins2 (begins_list l its.toArray) (begins_tuple t itt.toArray) il itp fun h' g1 g2 g3 g4 g5 g6 hk => ?_
  refine args_nil ?_
  have ll : l < s1.heap.objs.size := let ⟨_, e, _⟩ := il; Heap.lt_size e
  have lt : t < s1.heap.objs.size := let ⟨_, e, _⟩ := itp; Heap.lt_size e
  have a1 : ∀ j : Nat, ¬ s1.heap.objs.size + j = l := fun j e => absurd ll (by rw [← e]; exact Nat.not_lt.mpr (Nat.le_add_right _ _))
  have a2 : ∀ j : Nat, ¬ s1.heap.objs.size + j = t := fun j e => absurd lt (by rw [← e]; exact Nat.not_lt.mpr (Nat.le_add_right _ _))
  have a3 : ¬ s1.heap.objs.size = l := a1 0
  have a4 : ¬ s1.heap.objs.size = t := a2 0
  have S : ZipSep2 (s1.heap.objs.size + 4) (s1.heap.objs.size + 2) (s1.heap.objs.size + 3) s1.heap.objs.size (s1.heap.objs.size + 1) [s1.heap.objs.size, l] [s1.heap.objs.size + 1, t] := by
    constructor <;> simp [a1, a2, a3, a4]
  have hx : its.toArray.size = xs.length := by rw [List.size_toArray, ← rv.length, List.length_map]
  have hy : itt.toArray.size = xs.length := by rw [List.size_toArray, ← rt.length, hlen]
  have hll : l ≠ s1.heap.objs.size := Nat.ne_of_lt ll
  have htt : t ≠ s1.heap.objs.size + 1 := fun e => a2 1 e.symm
  refine call_dict_pairs (s := { s1 with heap := h' }) (knd := mixKind X.prog X.w) (kvs := (xs.map (Sum.inr : Str → Key)).zip itt) (zipLT _ _ _ _ _ l t S hll htt (a1 2) (a2 2) its.toArray itt.toArray xs.length hx hy) (I1.ok.hd hc)
    ⟨⟨g1, g2, g3⟩, ⟨⟨_, g4, rfl, rfl⟩, il.at fun o e => hk _ o e⟩, ⟨⟨_, g5, rfl, rfl⟩, itp.at fun o e => hk _ o e⟩⟩ ?_ (sz hz) fun h2 tk hd hk2 => ?_
  · refine ⟨by simp [← rt.length, hlen], fun i key v hr => ?_⟩
    obtain ⟨k1, k2⟩ := hr
    rw [List.getElem?_toArray] at k1 k2
    obtain ⟨x, hx1, hx2⟩ := vals_get rv k1
    rw [List.getElem?_map] at hx1
    cases hxi : xs[i]? with
    | none =>
      rw [hxi] at hx1
      cases hx1
    | some y =>
      rw [hxi] at hx1
      obtain rfl := (Option.some.inj hx1).symm
      obtain ⟨tk', rfl⟩ := hx2
      refine ⟨.inr y, ?_, ?_⟩
      · rw [List.getElem?_zip_eq_some]
        exact ⟨by rw [List.getElem?_map, hxi]; rfl, k2⟩
      · exact kV_is (k := .inr y) ⟨tk', rfl⟩
  · have hm : (h'.objs.size == sysModules) = false := beq_eq_false_iff_ne.mpr (Nat.ne_of_gt (Nat.lt_of_lt_of_le I1.big (by rw [g6]; omega)))
    have hkk : ∀ b u, s1.heap.get? b = some u → h2.get? b = some u := fun b u e => hk2 b u (fun hb => by
      exact nat_out (Heap.lt_size e) (by simpa using hb)) (hk b u e)
    have hle : s1.heap.objs.size ≤ h'.objs.size := by rw [g6]; omega
    have hlen2 : (mergeK [] ((xs.map Sum.inr).zip ys)).length ≤ sizeLine := by
      refine Nat.le_trans (length_mergeK _ []) ?_
      rw [List.length_nil, Nat.zero_add, List.length_zip, List.length_map, hlen, Nat.min_self]
      exact sz hz
    exact ⟨.ref h'.objs.size, upd H1 h'.objs.size (.dK (mergeK [] ((xs.map Sum.inr).zip ys))), I1.laid (t' := tk) hkk hle (show ObjOk X.prog X.w _ _ _ (.dK _) from ⟨hlen2, hm, _, KV.merge (kv_zip rt hlen) .nil, hd⟩), rfl, q _ (I1.hok.fresh hle)⟩

/-! ### d.update(d2) -/
def rUpd : V → List V → Hp → VK → Prop := fun x vs H Q => ∃ (d e : Addr) (kvs more : List (Key × V)), x = .ref d ∧ vs = [.ref e] ∧ H d = some (.dK kvs) ∧ H e = some (.dK more) ∧ d ≠ e ∧ kvs.length + more.length ≤ sizeLine ∧ Q .non (upd H d (.dK (mergeK kvs more)))
theorem mt_update {X : Cx} : MtR X "dict.update" rUpd := by
  intro pins s σ H x vs v us Q I rx rv h
  obtain ⟨d, e, kvs, more, rfl, rfl, h1, h2, hne, hz, q⟩ := h
  cases rx
  obtain ⟨u, rfl, ru⟩ := vals1 rv
  obtain rfl : u = Value.ref e := ru
  obtain ⟨_, m1, vs1, r1, d1⟩ := dk_of I.hok h1
  obtain ⟨_, m2, vs2, r2, d2⟩ := dk_of I.hok h2
  refine call_meetsIn PySem.F.slot_dict_update d1.typeIs PySem.F.entry_dict_update (PySem.F.args_dict_update_2 _ _) (meets_dict_update (mixKind X.prog X.w) d e hne m2) ⟨vs1, vs2, d1, d2, by rw [← r1.length, ← r2.length]; exact hz, fun h' hd _ hs => ?_⟩
  have he : ∃ q, h'.get? d = some q := let ⟨q, _, _, hq, _⟩ := hd; ⟨q, hq⟩
  refine ⟨.non, upd H d (.dK (mergeK kvs more)), d_write (t' := s.toks) I (by rw [h1]; exact True.intro) hs he (dk_new (Nat.le_trans (length_mergeK _ _) hz) m1 (KV.merge r2 r1) hd), rfl, q⟩
end K99
/-! K6 -/
namespace K99
open PySem PySem.Spec PyProof.Rows L2
/-! ### rows -/
inductive Rw where
  | bef (x : Str) (v : Int) (a : Str)
  | call (x nd a : Str) (k : Nat)
  | pln (x : Str) (t : Tm)
def Rw.tell : Rw → Str
  | .bef x _ _ => x
  | .call x _ _ _ => x
  | .pln x _ => x
def Rw.ments : Rw → List Str
  | .bef _ _ a => [a]
  | .call _ _ a _ => [a]
  | .pln _ t => t.nms
def Rw.isCall : Rw → Bool
  | .call _ _ _ _ => true
  | _ => false
def Rw.isPln : Rw → Bool
  | .pln _ _ => true
  | _ => false
def Rw.word : Rw → Str
  | .bef _ _ _ => "before"
  | .call _ _ _ _ => "call"
  | .pln _ _ => "plain"
structure Rw.oks (r : Rw) : Prop where
  tell : Ptd r.tell
  ment : ∀ x, x ∈ r.ments → Ptd x
  nd : r.ments.Nodup
  more : match r with
    | .bef _ v _ => -1000000000 ≤ v ∧ v ≤ 1000000000
    | .call _ c _ k => Nm c ∧ 1 ≤ k ∧ k ≤ 2
    | .pln _ t => t.dep ≤ 5
/-- told as a tuple -/
def RwD (K : PySem.W.Frag) (H : Hp) (a : Addr) : Rw → Prop
  | .bef x v b => SqT K H a [.str "before", .str x, .int v, .str b]
  | .call x c b k => ∃ o g, SqT K H a [.str "call", .ref o, .str c, .ref g] ∧ SqT K H o [.str x] ∧ SqT K H g ((List.replicate k b).map .str)
  | .pln x t => ∃ d, SqT K H a [.str "plain", .str x, .ref d] ∧ TmD K H d t
/-- as an object -/
def EqO (K : PySem.W.Frag) (H : Hp) (a : Addr) (r : Rw) : Prop := ∃ d, RwD K H d r ∧ match r with
  | .bef _ _ _ => ∃ dx, H a = some (.ins (A_Before K) dx [("told_row", .ref d)])
  | .call _ _ _ _ => ∃ dx, H a = some (.ins (A_Call K) dx [("told_row", .ref d)])
  | .pln _ t => ∃ dx k, H a = some (.ins (A_Plain K) dx [("told_row", .ref d), ("kept_term", .ref k)]) ∧ TmO K H k t
def EqB (K : PySem.W.Frag) : Hp → Addr → Rw → Prop := fun H a r => EqO K H a r
theorem RwD.monoN {K : PySem.W.Frag} {H H' : Hp} (e : SameN H H') {r : Rw} {a : Addr} (h : RwD K H a r) : RwD K H' a r := by
  cases r with
  | bef x v b => exact SameN.sqt e h
  | call x c b k =>
    obtain ⟨o, g, h1, h2, h3⟩ := h
    exact ⟨o, g, SameN.sqt e h1, SameN.sqt e h2, SameN.sqt e h3⟩
  | pln x t =>
    obtain ⟨d, h1, h2⟩ := h
    exact ⟨d, SameN.sqt e h1, h2.monoN e⟩
theorem RwD.mono {K : PySem.W.Frag} {H H' : Hp} (e : Same H H') {r : Rw} {a : Addr} (h : RwD K H a r) : RwD K H' a r := h.monoN (Same.n e)
theorem EqO.monoN {K : PySem.W.Frag} {H H' : Hp} (e : SameN H H') {r : Rw} {a : Addr} (h : EqO K H a r) : EqO K H' a r := by
  obtain ⟨d, h0, h⟩ := h
  refine ⟨d, h0.monoN e, ?_⟩
  cases r with
  | bef x v b =>
    obtain ⟨dx, h⟩ := h
    exact ⟨dx, SameN.ins e h⟩
  | call x c b k =>
    obtain ⟨dx, h⟩ := h
    exact ⟨dx, SameN.ins e h⟩
  | pln x t =>
    obtain ⟨dx, k, h, h2⟩ := h
    exact ⟨dx, k, SameN.ins e h, h2.monoN e⟩
theorem EqO.mono {K : PySem.W.Frag} {H H' : Hp} (e : Same H H') {r : Rw} {a : Addr} (h : EqO K H a r) : EqO K H' a r := h.monoN (Same.n e)
/-- what all rows' objects have -/
theorem EqO.row {K : PySem.W.Frag} {H : Hp} {r : Rw} {a : Addr} (h : EqO K H a r) : ∃ d C dx fs, RwD K H d r ∧ H a = some (.ins C dx fs) ∧ (C = A_Before K ∨ C = A_Call K ∨ C = A_Plain K) ∧ List.lookup (Str.ofString "told_row") fs = some (V.ref d) := by
  obtain ⟨d, h0, h⟩ := h
  cases r with
  | bef x v b =>
    obtain ⟨dx, h⟩ := h
    exact ⟨d, _, dx, _, h0, h, .inl rfl, rfl⟩
  | call x c b k =>
    obtain ⟨dx, h⟩ := h
    exact ⟨d, _, dx, _, h0, h, .inr (.inl rfl), rfl⟩
  | pln x t =>
    obtain ⟨dx, k, h, h2⟩ := h
    exact ⟨d, _, dx, _, h0, h, .inr (.inr rfl), rfl⟩
theorem told_ok {K : PySem.W.Frag} {mg : Str → Option Value} (T : Txt K mg) {C : Addr} (h : C = A_Before K ∨ C = A_Call K ∨ C = A_Plain K) : Cls K C ∧ NoAttr K C "told_row" := by
  rcases h with h | h | h
  · rw [h]
    exact ⟨T.c_Before, T.n_Before_told_row⟩
  · rw [h]
    exact ⟨T.c_Call, T.n_Call_told_row⟩
  · rw [h]
    exact ⟨T.c_Plain, T.n_Plain_told_row⟩
theorem eo_meth {K : PySem.W.Frag} {H : Hp} {a : Addr} {r : Rw} (h : EqO K H a r) {m : Str} (h1 : m ≠ "told_row") (h2 : m ≠ "kept_term") : ∃ dx fs, H a = some (.ins (match r with | .bef _ _ _ => A_Before K | .call _ _ _ _ => A_Call K | .pln _ _ => A_Plain K) dx fs) ∧ fs.lookup m = none := by
  obtain ⟨d, h0, h⟩ := h
  have e1 : (m == ("told_row" : Str)) = false := beq_false_of_ne h1
  have e2 : (m == ("kept_term" : Str)) = false := beq_false_of_ne h2
  cases r with
  | bef x v b =>
    obtain ⟨dx, h⟩ := h
    exact ⟨dx, _, h, by simp [List.lookup, e1]⟩
  | call x c b k =>
    obtain ⟨dx, h⟩ := h
    exact ⟨dx, _, h, by simp [List.lookup, e1]⟩
  | pln x t =>
    obtain ⟨dx, k, h, h2⟩ := h
    exact ⟨dx, _, h, by simp [List.lookup, e1, e2]⟩
section
variable {P : Program} {w : World} {K : PySem.W.Frag} {mg : Str → Option Value} {base : Heap}
def spEqTold (K : PySem.W.Frag) (r : Rw) : Sp := fun vs H Q _ => ∃ a, vs = [V.ref a] ∧ EqO K H a r ∧ ∀ d, RwD K H d r → Q (.ref d) H
theorem ok_Equation_told (T : Txt K mg) (r : Rw) : FnOk P w K mg base CX0 1 (f_Equation_told K) (fdAt K (f_Equation_told K)) P_Equation_told (spEqTold K r) := by
  refine FunD.ok T.F_Equation_told sc_Equation_told (fun vs H Q E h => ?_) (fun cdv A outer s H vs Q E hr h => ?_)
  · obtain ⟨a, rfl, _⟩ := h
    rfl
  · obtain ⟨a, rfl, o, k⟩ := h
    obtain ⟨d, C, dx, fs, h1, h2, h3, h4⟩ := o.row
    obtain ⟨c1, c2⟩ := told_ok T h3
    refine ⟨_, PSs.nox (pss_one (ps_ret (pe_fld (pv 0) rfl))), ?_⟩
    exact ⟨_, rfl, a, C, dx, fs, _, rfl, h2, c1, c2, h4, k d h1⟩
theorem me_told (T : Txt K mg) (r : Rw) : MO P w K mg base CX0 (EqB K) "told" 1 r (spEqTold K r) := by
  have F := ok_Equation_told (P := P) (w := w) (base := base) T r
  cases r with
  | bef x v b => exact ⟨_, _, _, _, T.c_Before, T.m_Before_told, F, T.b_Equation_told, fun H a h => eo_meth h (by decide) (by decide)⟩
  | call x c b k => exact ⟨_, _, _, _, T.c_Call, T.m_Call_told, F, T.b_Equation_told, fun H a h => eo_meth h (by decide) (by decide)⟩
  | pln x t => exact ⟨_, _, _, _, T.c_Plain, T.m_Plain_told, F, T.b_Equation_told, fun H a h => eo_meth h (by decide) (by decide)⟩
def spEqTells (K : PySem.W.Frag) (r : Rw) : Sp := fun vs H Q _ => ∃ a, vs = [V.ref a] ∧ EqO K H a r ∧ ∀ l H', Same H H' → H' l = some (.lst [.str r.tell]) → Q (.ref l) H'
theorem ok_Equation_tells (T : Txt K mg) (r : Rw) (hr0 : r.isCall = false) : FnOk P w K mg base CX0 1 (f_Equation_tells K) (fdAt K (f_Equation_tells K)) P_Equation_tells (spEqTells K r) := by
  refine FunD.ok T.F_Equation_tells sc_Equation_tells (fun vs H Q E h => ?_) (fun cdv A outer s H vs Q E hr h => ?_)
  · obtain ⟨a, rfl, _⟩ := h
    rfl
  · obtain ⟨a, rfl, o, k⟩ := h
    obtain ⟨d, C, dx, fs, h1, h2, h3, h4⟩ := o.row
    obtain ⟨c1, c2⟩ := told_ok T h3
    refine ⟨_, PSs.nox (pss_one (ps_ret (pe_lst (pa_cons (pe_ix ix_tup (pe_fld (pv 0) rfl) pe_int (fun _ _ => rfl)) pa_nil)))), ?_⟩
    refine ⟨_, rfl, a, C, dx, fs, _, rfl, h2, c1, c2, h4, ?_⟩
    cases r with
    | bef x v b => exact ⟨d, _, 1, _, rfl, rfl, h1, rfl, sz (n := 1) (by decide), fun l hl => k l _ (Same.new hl) upd_same⟩
    | call x c b k => cases hr0
    | pln x t =>
      obtain ⟨d', h1, _⟩ := h1
      exact ⟨d, _, 1, _, rfl, rfl, h1, rfl, sz (n := 1) (by decide), fun l hl => k l _ (Same.new hl) upd_same⟩
theorem ok_Call_tells (T : Txt K mg) (x c b : Str) (n : Nat) : FnOk P w K mg base CX0 1 (f_Call_tells K) (fdAt K (f_Call_tells K)) P_Call_tells (spEqTells K (.call x c b n)) := by
  refine FunD.ok T.F_Call_tells sc_Call_tells (fun vs H Q E h => ?_) (fun cdv A outer s H vs Q E hr h => ?_)
  · obtain ⟨a, rfl, _⟩ := h
    rfl
  · obtain ⟨a, rfl, o, k⟩ := h
    obtain ⟨d, ⟨o1, o2, h1, h2, h3⟩, dx, h4⟩ := o
    refine ⟨_, PSs.nox (pss_one (ps_ret (pe_callTy call_list_of (by rfl) T.z_list boot_list (pa_cons (pe_ix ix_tup (pe_fld (pv 0) rfl) pe_int (fun _ _ => rfl)) pa_nil)))), ?_⟩
    exact ⟨_, rfl, _, _, _, _, _, rfl, h4, T.c_Call, T.n_Call_told_row, rfl, d, _, 1, _, rfl, rfl, h1, rfl, o1, _, rfl, .inr h2, fun l hl => k l _ (Same.new hl) upd_same⟩
theorem me_tells (T : Txt K mg) (r : Rw) : MO P w K mg base CX0 (EqB K) "tells" 1 r (spEqTells K r) := by
  cases r with
  | bef x v b => exact ⟨_, _, _, _, T.c_Before, T.m_Before_tells, ok_Equation_tells T _ rfl, T.b_Equation_tells, fun H a h => eo_meth h (by decide) (by decide)⟩
  | call x c b k => exact ⟨_, _, _, _, T.c_Call, T.m_Call_tells, ok_Call_tells T x c b k, T.b_Call_tells, fun H a h => eo_meth h (by decide) (by decide)⟩
  | pln x t => exact ⟨_, _, _, _, T.c_Plain, T.m_Plain_tells, ok_Equation_tells T _ rfl, T.b_Equation_tells, fun H a h => eo_meth h (by decide) (by decide)⟩
/-! ### each once -/
def spOnce (K : PySem.W.Frag) : Sp := fun vs H Q _ => ∃ a b k, vs = [V.ref a] ∧ SqT K H a ((List.replicate k b).map .str) ∧ 1 ≤ k ∧ k ≤ 2 ∧ ∀ l H', Same H H' → H' l = some (.lst [.str b]) → Q (.ref l) H'
theorem ok_each_once (T : Txt K mg) : FnOk P w K mg base CX0 1 (f_each_once K) (fdAt K (f_each_once K)) P_each_once (spOnce K) := by
  refine FunD.ok T.F_each_once sc_each_once (fun vs H Q E h => ?_) (fun cdv A outer s H vs Q E hr h => ?_)
  · obtain ⟨a, b, n, rfl, _⟩ := h
    rfl
  · obtain ⟨a, b, n, rfl, h1, h2, h3, k⟩ := h
    refine ⟨_, PSs.nox (pss_cons (ps_set (i := 1) sc_each_once.nd rfl (by first | exact Or.inl rfl | exact Or.inr rfl) pe_dnewK) (pss_cons (ps_for PassesOwn.never rfl (pi_tup (pv 0)) (pg_name (i := 2) sc_each_once.nd rfl (by first | exact Or.inl rfl | exact Or.inr rfl)) (pss_one (ps_dput (hu_of hr) (pv 1) (pv 2) pe_bl rfl))) (pss_one (ps_ret (pe_callTy (call_listD (by rfl)) (by rfl) T.z_list boot_list (pa_cons (pv 1) pa_nil)))))), ?_⟩
    intro F hF
    refine ⟨_, rfl, a, rfl, ⟨_, Same.sqt (Same.new hF) h1⟩, ?_⟩
    refine for_map (wm_tup (List.replicate n b) V.str) (fun pre σ H2 => SameX F H H2 ∧ (∃ x, σ = [some (.ref a), some (.ref F), x]) ∧ H2 F = some (.dK (if pre = [] then [] else [(.inr b, .bl true)]))) ⟨SameX.upd2, ⟨_, rfl⟩, upd_same⟩ (fun pre σ H2 q => ?_) (fun pre p post σ H2 e q => ?_) (fun σ H2 q => ?_)
    · exact Same.sqt (SameX.of q.1 hF) h1
    · obtain ⟨s2, ⟨x, rfl⟩, q3⟩ := q
      have hp : p = b := by
        have : p ∈ List.replicate n b := by
          rw [e]
          simp
        exact List.eq_of_mem_replicate this
      subst hp
      refine ⟨_, rfl, _, rfl, F, _, rfl, DPut.k (k := .inr p) q3 ?_, SameX.put s2, ⟨_, rfl⟩, ?_⟩
      · split
        · exact szl (Nat.zero_le _)
        · exact szl (n := 1) (by decide)
      · rw [upd_same, if_neg (show ¬ pre ++ [p] = [] by simp)]
        split
        · rfl
        · show some (HO.dK (putK [(Sum.inr p, V.bl true)] (Sum.inr p) (V.bl true))) = _
          simp [putK]
    · obtain ⟨s2, ⟨x, rfl⟩, q3⟩ := q
      rw [if_neg (show ¬ List.replicate n b = [] by cases n with | zero => omega | succ n => exact fun e => by cases e)] at q3
      exact ⟨_, rfl, F, _, rfl, .inl q3, fun l hl => k l _ ((SameX.of s2 hF).trans (Same.new hl)) upd_same⟩
/-! ### names -/
def spEqNames (K : PySem.W.Frag) (r : Rw) : Sp := fun vs H Q _ => ∃ a, vs = [V.ref a] ∧ EqO K H a r ∧ r.oks ∧ ∀ l H', Same H H' → H' l = some (.lst (r.ments.map .str)) → Q (.ref l) H'
theorem ok_Equation_names (T : Txt K mg) (x : Str) (v : Int) (b : Str) : FnOk P w K mg base CX0 1 (f_Equation_names K) (fdAt K (f_Equation_names K)) P_Equation_names (spEqNames K (.bef x v b)) := by
  refine FunD.ok T.F_Equation_names sc_Equation_names (fun vs H Q E h => ?_) (fun cdv A outer s H vs Q E hr h => ?_)
  · obtain ⟨a, rfl, _⟩ := h
    rfl
  · obtain ⟨a, rfl, ⟨d, h1, dx, h4⟩, _, k⟩ := h
    refine ⟨_, PSs.nox (pss_one (ps_ret (pe_lst (pa_cons (pe_ix ix_tup (pe_fld (pv 0) rfl) pe_int (fun _ _ => rfl)) pa_nil)))), ?_⟩
    exact ⟨_, rfl, _, _, _, _, _, rfl, h4, T.c_Before, T.n_Before_told_row, rfl, d, _, 3, _, rfl, rfl, h1, rfl, sz (n := 1) (by decide), fun l hl => k l _ (Same.new hl) upd_same⟩
theorem ok_Call_names (T : Txt K mg) (x c b : Str) (n : Nat) : FnOk P w K mg base CX0 2 (f_Call_names K) (fdAt K (f_Call_names K)) P_Call_names (spEqNames K (.call x c b n)) := by
  refine FunD.ok T.F_Call_names sc_Call_names (fun vs H Q E h => ?_) (fun cdv A outer s H vs Q E hr h => ?_)
  · obtain ⟨a, rfl, _⟩ := h
    rfl
  · obtain ⟨a, rfl, ⟨d, ⟨o1, o2, h1, h2, h3⟩, dx, h4⟩, ok, k⟩ := h
    refine ⟨_, PSs.nox (pss_one (ps_ret (pe_call (ok_each_once T) (hr.mono (by first | decide | omega)) (by rfl) T.g_each_once T.F_each_once.kp T.b_each_once .nil pass0 (pa_cons (pe_ix ix_tup (pe_fld (pv 0) rfl) pe_int (fun _ _ => rfl)) pa_nil)))), ?_⟩
    exact ⟨_, rfl, _, _, _, _, _, rfl, h4, T.c_Call, T.n_Call_told_row, rfl, d, _, 3, _, rfl, rfl, h1, rfl, o2, b, n, rfl, h3, ok.more.2.1, ok.more.2.2, fun l H' s e => k l H' s e⟩
theorem ok_Plain_names (T : Txt K mg) (x : Str) (t : Tm) : FnOk P w K mg base CX0 7 (f_Plain_names K) (fdAt K (f_Plain_names K)) P_Plain_names (spEqNames K (.pln x t)) := by
  refine FunD.ok T.F_Plain_names sc_Plain_names (fun vs H Q E h => ?_) (fun cdv A outer s H vs Q E hr h => ?_)
  · obtain ⟨a, rfl, _⟩ := h
    rfl
  · obtain ⟨a, rfl, ⟨d, h1, dx, c, h4, h5⟩, ok, k⟩ := h
    refine ⟨_, PSs.nox (pss_one (ps_ret (pe_um0 (p := fun d : Tm => d.dep ≤ 5) (fun d h => mo_names T 5 d h (by omega)) (pe_fld (pv 0) rfl) (hr.mono (by first | decide | omega)) pass0))), ?_⟩
    exact ⟨t, ok.more, _, rfl, _, _, _, _, _, rfl, h4, T.c_Plain, T.n_Plain_kept_term, rfl, c, rfl, h5, c, rfl, h5, ok.nd, fun l H' s e => k l H' s e⟩
theorem me_names (T : Txt K mg) (r : Rw) : MO P w K mg base CX0 (EqB K) "names" 7 r (spEqNames K r) := by
  cases r with
  | bef x v b => exact ⟨_, _, _, _, T.c_Before, T.m_Before_names, (ok_Equation_names T _ _ _).mono (by decide), T.b_Equation_names, fun H a h => eo_meth h (by decide) (by decide)⟩
  | call x c b k => exact ⟨_, _, _, _, T.c_Call, T.m_Call_names, (ok_Call_names T x c b k).mono (by decide), T.b_Call_names, fun H a h => eo_meth h (by decide) (by decide)⟩
  | pln x t => exact ⟨_, _, _, _, T.c_Plain, T.m_Plain_names, ok_Plain_names T _ _, T.b_Plain_names, fun H a h => eo_meth h (by decide) (by decide)⟩
/-! ### term, is_call -/
def spEqTerm (K : PySem.W.Frag) (r : Rw) : Sp := fun vs H Q _ => ∃ a, vs = [V.ref a] ∧ EqO K H a r ∧ ∀ v, (r.isPln = false → v = .non) → (r.isPln = true → ∃ c, v = .ref c) → Q v H
theorem ok_Equation_term (T : Txt K mg) (r : Rw) (hr0 : r.isPln = false) : FnOk P w K mg base CX0 1 (f_Equation_term K) (fdAt K (f_Equation_term K)) P_Equation_term (spEqTerm K r) := by
  refine FunD.ok T.F_Equation_term sc_Equation_term (fun vs H Q E h => ?_) (fun cdv A outer s H vs Q E hr h => ?_)
  · obtain ⟨a, rfl, _⟩ := h
    rfl
  · obtain ⟨a, rfl, o, k⟩ := h
    refine ⟨_, PSs.nox (pss_one (ps_ret pe_non)), ?_⟩
    exact k _ (fun _ => rfl) (fun h => by rw [hr0] at h; cases h)
theorem ok_Plain_term (T : Txt K mg) (x : Str) (t : Tm) : FnOk P w K mg base CX0 1 (f_Plain_term K) (fdAt K (f_Plain_term K)) P_Plain_term (spEqTerm K (.pln x t)) := by
  refine FunD.ok T.F_Plain_term sc_Plain_term (fun vs H Q E h => ?_) (fun cdv A outer s H vs Q E hr h => ?_)
  · obtain ⟨a, rfl, _⟩ := h
    rfl
  · obtain ⟨a, rfl, ⟨d, h1, dx, c, h4, h5⟩, k⟩ := h
    refine ⟨_, PSs.nox (pss_one (ps_ret (pe_fld (pv 0) rfl))), ?_⟩
    exact ⟨_, rfl, _, _, _, _, _, rfl, h4, T.c_Plain, T.n_Plain_kept_term, rfl, k _ (fun h => by cases h) fun _ => ⟨_, rfl⟩⟩
theorem me_term (T : Txt K mg) (r : Rw) : MO P w K mg base CX0 (EqB K) "term" 1 r (spEqTerm K r) := by
  cases r with
  | bef x v b => exact ⟨_, _, _, _, T.c_Before, T.m_Before_term, ok_Equation_term T _ rfl, T.b_Equation_term, fun H a h => eo_meth h (by decide) (by decide)⟩
  | call x c b k => exact ⟨_, _, _, _, T.c_Call, T.m_Call_term, ok_Equation_term T _ rfl, T.b_Equation_term, fun H a h => eo_meth h (by decide) (by decide)⟩
  | pln x t => exact ⟨_, _, _, _, T.c_Plain, T.m_Plain_term, ok_Plain_term T _ _, T.b_Plain_term, fun H a h => eo_meth h (by decide) (by decide)⟩
def spEqCall (K : PySem.W.Frag) (r : Rw) : Sp := fun vs H Q _ => ∃ a, vs = [V.ref a] ∧ EqO K H a r ∧ Q (.bl r.isCall) H
theorem ok_Equation_is_call (T : Txt K mg) (r : Rw) (hr0 : r.isCall = false) : FnOk P w K mg base CX0 1 (f_Equation_is_call K) (fdAt K (f_Equation_is_call K)) P_Equation_is_call (spEqCall K r) := by
  refine FunD.ok T.F_Equation_is_call sc_Equation_is_call (fun vs H Q E h => ?_) (fun cdv A outer s H vs Q E hr h => ?_)
  · obtain ⟨a, rfl, _⟩ := h
    rfl
  · obtain ⟨a, rfl, o, k⟩ := h
    refine ⟨_, PSs.nox (pss_one (ps_ret pe_bl)), ?_⟩
    rw [hr0] at k
    exact k
theorem ok_Call_is_call (T : Txt K mg) (r : Rw) (hr0 : r.isCall = true) : FnOk P w K mg base CX0 1 (f_Call_is_call K) (fdAt K (f_Call_is_call K)) P_Call_is_call (spEqCall K r) := by
  refine FunD.ok T.F_Call_is_call sc_Call_is_call (fun vs H Q E h => ?_) (fun cdv A outer s H vs Q E hr h => ?_)
  · obtain ⟨a, rfl, _⟩ := h
    rfl
  · obtain ⟨a, rfl, o, k⟩ := h
    refine ⟨_, PSs.nox (pss_one (ps_ret pe_bl)), ?_⟩
    rw [hr0] at k
    exact k
theorem me_is_call (T : Txt K mg) (r : Rw) : MO P w K mg base CX0 (EqB K) "is_call" 1 r (spEqCall K r) := by
  cases r with
  | bef x v b => exact ⟨_, _, _, _, T.c_Before, T.m_Before_is_call, ok_Equation_is_call T _ rfl, T.b_Equation_is_call, fun H a h => eo_meth h (by decide) (by decide)⟩
  | call x c b k => exact ⟨_, _, _, _, T.c_Call, T.m_Call_is_call, ok_Call_is_call T _ rfl, T.b_Call_is_call, fun H a h => eo_meth h (by decide) (by decide)⟩
  | pln x t => exact ⟨_, _, _, _, T.c_Plain, T.m_Plain_is_call, ok_Equation_is_call T _ rfl, T.b_Equation_is_call, fun H a h => eo_meth h (by decide) (by decide)⟩
end
end K99
/-! K7 -/
namespace K99
open PySem PySem.Spec PyProof.Rows L2
/-- a row's object under way is no part of a term -/
theorem TmO.keepF {K : PySem.W.Frag} {H H' : Hp} {a C dx : Addr} {v : V} {fs : List (Str × V)} (h : H a = some (.ins C dx (("told_row", v) :: fs))) (s : SameX a H H') : ∀ {t : Tm} {b : Addr}, TmO K H b t → TmO K H' b t := by
  have key : ∀ {b D dy : Addr} {n : Str} {u : V} {gs : List (Str × V)}, n ≠ "told_row" → H b = some (.ins D dy ((n, u) :: gs)) → H' b = some (.ins D dy ((n, u) :: gs)) := fun {b D dy n u gs} hn e => by
    refine s _ _ (fun q => ?_) e
    subst q
    rw [h] at e
    injection e with e
    injection e with e1 e2 e3
    injection e3 with e4 e5
    injection e4 with e6 e7
    exact hn e6.symm
  intro t
  induction t with
  | nm x =>
    intro b o
    obtain ⟨d, o⟩ := o
    exact ⟨d, key (by decide) o⟩
  | two l x ih =>
    intro b o
    obtain ⟨d, b1, c1, dc, o1, o2, o3⟩ := o
    exact ⟨d, b1, c1, dc, key (by decide) o1, ih o2, key (by decide) o3⟩
section
variable {P : Program} {w : World} {K : PySem.W.Frag} {mg : Str → Option Value} {base : Heap}
/-! ### equations made -/
def spEqInit (K : PySem.W.Frag) : Sp := fun vs H Q _ => ∃ a d C dx, vs = [V.ref a, .ref d] ∧ H a = some (.ins C dx []) ∧ (C = A_Before K ∨ C = A_Call K ∨ C = A_Plain K) ∧ ∀ H', SameX a H H' → H' a = some (.ins C dx [("told_row", .ref d)]) → Q .non H'
theorem ok_Equation_init (T : Txt K mg) : FnOk P w K mg base CX0 1 (f_Equation_init K) (fdAt K (f_Equation_init K)) P_Equation_init (spEqInit K) := by
  refine FunD.ok T.F_Equation_init sc_Equation_init (fun vs H Q E h => ?_) (fun cdv A outer s H vs Q E hr h => ?_)
  · obtain ⟨a, d, C, dx, rfl, _⟩ := h
    rfl
  · obtain ⟨a, d, C, dx, rfl, h1, hC, k⟩ := h
    obtain ⟨c1, c2⟩ := told_ok T hC
    refine ⟨_, PSs.nox (pss_one (ps_fld (pv 0) (pv 1) rfl)), ?_⟩
    exact ⟨_, rfl, _, rfl, a, C, dx, _, rfl, h1, c1, c2, (by show 0 < 1000; decide), k _ (SameX.put (SameX.refl _ _)) upd_same⟩
theorem Txt.eqi (T : Txt K mg) : PySem.W.specialIn K (.ref (A_Equation K)) "__getattribute__" = some (some (.builtin "type.__getattribute__")) ∧ PySem.W.readsIn K (A_Equation K) (.type "type") = true ∧
    PySem.W.findCls K (.ref (A_Equation K)) (.type "type") "__init__" = some (.val (.ref (f_Equation_init K))) := by
  have h := T.fct 32 (f := .clsm "Equation" "__init__") rfl
  obtain ⟨h1, h⟩ := He.ba h
  obtain ⟨h2, h3⟩ := He.ba h
  refine ⟨of_decide_eq_true h1, h2, ?_⟩
  split at h3
  · rename_i a e
    rw [e, of_decide_eq_true h3]
  · cases h3
def spPlainInit (K : PySem.W.Frag) : Sp := fun vs H Q _ => ∃ a d dx x t H0, vs = [V.ref a, .ref d] ∧ H0 a = none ∧ Same H0 H ∧ H a = some (.ins (A_Plain K) dx []) ∧ RwD K H0 d (.pln x t) ∧ (Rw.pln x t).oks ∧ ∀ H', SameX a H H' → EqO K H' a (.pln x t) → Q .non H'
theorem ok_Plain_init (T : Txt K mg) : FnOk P w K mg base CX0 40 (f_Plain_init K) (fdAt K (f_Plain_init K)) P_Plain_init (spPlainInit K) := by
  obtain ⟨e1, e2, e3⟩ := Txt.eqi T
  have e4 := T.F_Equation_init.kp
  refine FunD.ok T.F_Plain_init sc_Plain_init (fun vs H Q E h => ?_) (fun cdv A outer s H vs Q E hr h => ?_)
  · obtain ⟨a, d, dx, x, t, H0, rfl, _⟩ := h
    rfl
  · obtain ⟨a, d, dx, x, t, H0, rfl, h0, s0, h1, rd, ok, k⟩ := h
    refine ⟨_, PSs.nox (pss_cons (ps_expr (pe_clsfn (ok_Equation_init T) (hr.mono (by first | decide | omega)) (by rfl) T.g_Equation e1 e2 e3 e4 T.b_Equation_init .nil pass0 (pa_cons (pv 0) (pa_cons (pv 1) pa_nil)))) (pss_one (ps_fld (pv 0) (pe_call (ok_term_of T) (hr.mono (by first | decide | omega)) (by rfl) T.g_term_of T.F_term_of.kp T.b_term_of .nil pass0 (pa_cons (pe_ix ix_tup (pv 1) pe_int (fun _ _ => rfl)) pa_nil)) rfl))), ?_⟩
    refine ⟨_, rfl, _, rfl, a, d, _, dx, rfl, h1, .inr (.inr rfl), fun H1 s1 e1 => ?_⟩
    have y1 := SameX.of (SameX.trans (Same.x s0) s1) h0
    obtain ⟨d', r1, r2⟩ := rd.mono y1
    refine ⟨_, rfl, d, _, 2, _, rfl, rfl, r1, rfl, d', t, rfl, r2, ok.more, ok.ment, fun c H2 s2 o2 => ?_⟩
    refine ⟨_, rfl, a, _, dx, _, rfl, s2 _ _ e1, T.c_Plain, T.n_Plain_kept_term, (by show 1 < 1000; decide), ?_⟩
    have x2 : SameX a H (upd H2 a (.ins (A_Plain K) dx [("told_row", .ref d), ("kept_term", .ref c)])) := SameX.put (SameX.trans s1 (Same.x s2))
    have y2 := SameX.of (SameX.trans (Same.x s0) x2) h0
    refine k _ x2 ⟨d, rd.mono y2, dx, c, upd_same, ?_⟩
    exact o2.keepF (s2 _ _ e1) SameX.upd2
/-! ### rows seen by their tuples -/
theorem nm_sok {x : Str} (N : Nm x) : x.cps.all (· < 0x110000) = true := by
  rw [Array.all_eq_true']
  intro c hc
  have h := N.low c (Array.mem_toList_iff.mpr hc)
  have : ∀ c, c ∈ lettersZ.cps.toList → c < 0x110000 := by decide +kernel
  exact decide_eq_true (this c h)
theorem pn_nm {x : Str} (N : Nm x) : Ptd x := ⟨Nat.le_trans N.hi (by decide), nm_sok N, [x], by simp, by show 1 ≤ 100; decide, fun p hp => by rcases List.mem_singleton.mp hp with rfl; exact N, rfl⟩
def spAre (K : PySem.W.Frag) : Sp := fun vs H Q _ => ∃ a xs, vs = [V.ref a, .int 1] ∧ SqT K H a (xs.map .str) ∧ xs ≠ [] ∧ xs.length ≤ 1000 ∧ (∀ x, x ∈ xs → Ptd x) ∧ ∀ H', Same H H' → Q (.bl true) H'
theorem ok_are_pointed (T : Txt K mg) : FnOk P w K mg base CX0 3 (f_are_pointed K) (fdAt K (f_are_pointed K)) P_are_pointed (spAre K) := by
  refine FunD.ok T.F_are_pointed sc_are_pointed (fun vs H Q E h => ?_) (fun cdv A outer s H vs Q E hr h => ?_)
  · obtain ⟨a, xs, rfl, _⟩ := h
    rfl
  · obtain ⟨a, xs, rfl, h1, h2, h3, h4, k⟩ := h
    refine ⟨_, PSs.nox (pss_one (ps_ret (pe_and (pe_callB call_isi (by rfl) T.z_isinstance boot_isinstance (pa_cons (pv 0) (pa_cons (pe_bltn (v := .ty "tuple") (by rfl) T.z_tuple boot_tuple rfl) pa_nil))) (pe_and (pe_cmpR op_ge (pe_callB call_len_seq (by rfl) T.z_len PySem.boot_len (pa_cons (pv 0) pa_nil)) (pv 1) (by rfl)) (pe_one (pe_callB (cr_all (by rfl)) (by rfl) T.z_all (by decide +kernel) (pa_cons (pe_lc (own := [("name", 2)]) (by rfl) sc_are_pointed.nd (pi_tup (pv 0)) (blkOk_by (N := N_are_pointed) (sc := defScope s_are_pointed) (by decide +kernel)) (fun _ _ _ _ _ => (pg_name (i := 2) sc_are_pointed.nd rfl (by first | exact Or.inl rfl | exact Or.inr rfl))) (fun _ _ _ _ _ => pts_nil) (fun _ _ _ _ _ => (pe_call (ok_is_pointed T) (hr.mono (by first | decide | omega)) (by rfl) T.g_is_pointed T.F_is_pointed.kp T.b_is_pointed .nil pass0 (pa_cons (pv 2) pa_nil)))) pa_nil))))))), ?_⟩
    refine ⟨_, rfl, _, _, _, _, true, rfl, .ty _, tyx_sqt h1, kit_ty (by decide +kernel), true, rfl, iteT ?_⟩
    refine ⟨_, rfl, a, _, rfl, .inr h1, _, rfl, _, _, rfl, rfl, true, ?_, iteT ?_⟩
    · show V.bl (decide ((1 : Int) ≤ ((xs.map V.str).length : Nat))) = .bl true
      rw [decide_eq_true]
      rw [List.length_map]
      have : xs.length ≠ 0 := fun e => h2 (List.eq_nil_of_length_eq_zero e)
      omega
    refine ⟨_, rfl, a, rfl, ⟨_, h1⟩, fun D hD => ?_⟩
    refine lc_flat (wm_tup xs V.str) (fun _ => true) (fun _ => .bl true) hD (Nat.le_trans h3 (by decide)) (fun H' s' => Same.sqt s' h1) (fun _ => rfl) (fun a H' _ _ Q' q => q H' (Same.refl _)) (fun p H' hp _ _ Q' q => ?_) (fun H' s1 e1 => ?_)
    · exact ⟨_, rfl, p, rfl, h4 p hp, fun H2 s2 => q H2 s2⟩
    · exact ⟨D, xs.map fun _ => true, rfl, SqL.of (by rw [e1, all_true]), by rw [all_id]; exact k H' s1⟩
def spValued (K : PySem.W.Frag) : Sp := fun vs H Q _ => ∃ a x v b, vs = [V.ref a] ∧ RwD K H a (.bef x v b) ∧ (Rw.bef x v b).oks ∧ ∀ H', Same H H' → Q (.bl true) H'
theorem ok_is_valued (T : Txt K mg) : FnOk P w K mg base CX0 4 (f_is_valued K) (fdAt K (f_is_valued K)) P_is_valued (spValued K) := by
  refine FunD.ok T.F_is_valued sc_is_valued (fun vs H Q E h => ?_) (fun cdv A outer s H vs Q E hr h => ?_)
  · obtain ⟨a, x, v, b, rfl, _⟩ := h
    rfl
  · obtain ⟨a, x, v, b, rfl, h1, ok, k⟩ := h
    refine ⟨_, PSs.nox (pss_one (ps_ret (pe_and (pe_cmpR op_eq (pe_callB call_len_seq (by rfl) T.z_len PySem.boot_len (pa_cons (pv 0) pa_nil)) pe_int (by rfl)) (pe_and (pe_call (ok_is_pointed T) (hr.mono (by first | decide | omega)) (by rfl) T.g_is_pointed T.F_is_pointed.kp T.b_is_pointed .nil pass0 (pa_cons (pe_ix ix_tup (pv 0) pe_int (fun _ _ => rfl)) pa_nil)) (pe_and (pe_call (ok_is_value T) (hr.mono (by first | decide | omega)) (by rfl) T.g_is_value T.F_is_value.kp T.b_is_value .nil pass0 (pa_cons (pe_ix ix_tup (pv 0) pe_int (fun _ _ => rfl)) pa_nil)) (pe_one (pe_call (ok_is_pointed T) (hr.mono (by first | decide | omega)) (by rfl) T.g_is_pointed T.F_is_pointed.kp T.b_is_pointed .nil pass0 (pa_cons (pe_ix ix_tup (pv 0) pe_int (fun _ _ => rfl)) pa_nil)))))))), ?_⟩
    have h1 : SqT K H a [.str "before", .str x, .int v, .str b] := h1
    refine ⟨_, rfl, a, _, rfl, .inr h1, rfl, true, rfl, iteT ?_⟩
    refine ⟨_, rfl, a, _, 1, _, rfl, rfl, h1, rfl, x, rfl, ok.tell, fun H1 s1 => ⟨true, rfl, iteT ?_⟩⟩
    have h1 := Same.sqt s1 h1
    refine ⟨_, rfl, a, _, 2, _, rfl, rfl, h1, rfl, v, rfl, ok.more.1, ok.more.2, true, rfl, iteT ?_⟩
    exact ⟨_, rfl, a, _, 3, _, rfl, rfl, h1, rfl, b, rfl, ok.ment b (List.mem_cons_self ..), fun H2 s2 => k _ (s1.trans s2)⟩
/-! ### what a row's tuple reads as -/
def Tm.dat : Tm → PyData
  | .nm x => .tuple [.str "name", .str x]
  | .two l x => .tuple [.str "two", .str "+", l.dat, .tuple [.str "name", .str x]]
theorem Tm.dp {K : PySem.W.Frag} {H : Hp} : ∀ {t : Tm} {a : Addr}, TmD K H a t → Dp K H (.ref a) t.dat
  | .nm x, _, h => .tup h (.cons (.str _) (.cons (.str _) .nil))
  | .two l x, _, ⟨b, c, h1, h2, h3⟩ => .tup h1 (.cons (.str _) (.cons (.str _) (.cons (Tm.dp h2) (.cons (.tup h3 (.cons (.str _) (.cons (.str _) .nil))) .nil))))
theorem Tm.dat_can : ∀ {t : Tm}, (∀ x, x ∈ t.nms → Ptd x) → t.dat.canLay0 = true
  | .nm x, h => by
    have := (h x (List.mem_cons_self ..)).sok
    simp only [Tm.dat, PyData.canLay0, PyData.canLayAll0, PyData.strOk, this, Bool.and_true]
    decide +kernel
  | .two l x, h => by
    have h1 := (h x (List.mem_append_right _ (List.mem_cons_self ..))).sok
    have h2 := Tm.dat_can (t := l) fun z hz => h z (List.mem_append_left _ hz)
    simp only [Tm.dat, PyData.canLay0, PyData.canLayAll0, PyData.strOk, h1, h2, Bool.and_true]
    decide +kernel
theorem Tm.dat_dep : ∀ t : Tm, t.dat.depth ≤ t.dep + 1
  | .nm x => by
    simp only [Tm.dat, PyData.depth, PyData.depthAll, Tm.dep]
    omega
  | .two l x => by
    have := Tm.dat_dep l
    have := l.dep_pos
    simp only [Tm.dat, PyData.depth, PyData.depthAll, Tm.dep]
    omega
theorem rep_dp {K : PySem.W.Frag} {H : Hp} (xs : List Str) : DpAll K H (xs.map .str) (xs.map .str) := by
  induction xs with
  | nil => exact .nil
  | cons x r ih => exact .cons (.str _) ih
theorem reps_can {xs : List Str} (h : ∀ x, x ∈ xs → Ptd x) : PyData.canLayAll0 (xs.map .str) = true := by
  induction xs with
  | nil => rfl
  | cons x r ih =>
    have h1 := (h x (List.mem_cons_self ..)).sok
    have h2 := ih fun z hz => h z (List.mem_cons_of_mem _ hz)
    simp only [List.map_cons, PyData.canLayAll0, PyData.canLay0, PyData.strOk, h1, h2, Bool.and_self]
theorem reps_dep (xs : List Str) : PyData.depthAll (xs.map .str) = 0 := by
  induction xs with
  | nil => rfl
  | cons x r ih => simp only [List.map_cons, PyData.depthAll, PyData.depth, ih, Nat.max_self]
theorem rw_dp {H : Hp} {a : Addr} {r : Rw} (h : RwD K H a r) (ok : r.oks) : ∃ d, Dp K H (.ref a) d ∧ SeqAt.shaped d = true ∧ d.eqv (.tuple []) = false := by
  have hx := ok.tell.sok
  cases r with
  | bef x v b =>
    have hb := (ok.ment b (List.mem_cons_self ..)).sok
    have hx : x.cps.all (· < 0x110000) = true := hx
    refine ⟨_, .tup h (.cons (.str _) (.cons (.str _) (.cons (.int _) (.cons (.str _) .nil)))), ?_, rfl⟩
    simp only [SeqAt.shaped, PyData.canLay0, PyData.canLayAll0, PyData.strOk, hx, hb, PyData.depth, PyData.depthAll, Bool.and_true]
    exact Bool.and_eq_true_iff.mpr ⟨by decide +kernel, decide_eq_true (by decide)⟩
  | call x c b k =>
    obtain ⟨o, g, h1, h2, h3⟩ := h
    have hx : x.cps.all (· < 0x110000) = true := hx
    have hc := nm_sok ok.more.1
    have hb := reps_can (xs := List.replicate k b) fun z hz => by
      rw [List.eq_of_mem_replicate hz]
      exact ok.ment b (List.mem_cons_self ..)
    refine ⟨_, .tup h1 (.cons (.str _) (.cons (.tup h2 (.cons (.str _) .nil)) (.cons (.str _) (.cons (.tup h3 (rep_dp _)) .nil)))), ?_, rfl⟩
    simp only [SeqAt.shaped, PyData.canLay0, PyData.canLayAll0, PyData.strOk, hx, hb, hc, PyData.depth, PyData.depthAll, reps_dep, Bool.and_true]
    decide +kernel
  | pln x t =>
    obtain ⟨d, h1, h2⟩ := h
    have hx : x.cps.all (· < 0x110000) = true := hx
    have ht := Tm.dat_can ok.ment
    have hd := t.dat_dep
    have h5 : t.dep ≤ 5 := ok.more
    refine ⟨_, .tup h1 (.cons (.str _) (.cons (.str _) (.cons (Tm.dp h2) .nil))), ?_, rfl⟩
    simp only [SeqAt.shaped, PyData.canLay0, PyData.canLayAll0, PyData.strOk, hx, ht, PyData.depth, PyData.depthAll, Bool.and_true, Bool.and_eq_true, decide_eq_true_eq]
    refine ⟨by decide +kernel, ?_⟩
    exact decide_eq_true (by omega)
end
end K99
/-! K8 -/
namespace K99
open PySem PySem.Spec PyProof.Rows L2
theorem at0 {α : Type} {x : α} {xs : List α} : atI (x :: xs) 0 = some x := by
  unfold atI ixN
  simp
section
variable {P : Program} {w : World} {K : PySem.W.Frag} {mg : Str → Option Value} {base : Heap}
/-! ### equations by their tuples -/
def spEqOf (K : PySem.W.Frag) (r : Rw) : Sp := fun vs H Q _ => ∃ a, vs = [V.ref a] ∧ RwD K H a r ∧ r.oks ∧ ∀ b H', Same H H' → EqO K H' b r → Q (.ref b) H'
theorem ok_plain_of (T : Txt K mg) (x : Str) (t : Tm) : FnOk P w K mg base CX0 45 (f_plain_of K) (fdAt K (f_plain_of K)) P_plain_of (spEqOf K (.pln x t)) := by
  refine FunD.ok T.F_plain_of sc_plain_of (fun vs H Q E h => ?_) (fun cdv A outer s H vs Q E hr h => ?_)
  · obtain ⟨a, rfl, _⟩ := h
    rfl
  · obtain ⟨a, rfl, rd, ok, k⟩ := h
    refine ⟨_, PSs.nox (pss_cons (ps_if (PW.pt (pw_or (pt_cmpR op_ne (pe_callB call_len_seq (by rfl) T.z_len PySem.boot_len (pa_cons (pv 0) pa_nil)) pe_int (by rfl)) (pw_or1 (pt_not (pt_val (pe_call (ok_is_pointed T) (hr.mono (by first | decide | omega)) (by rfl) T.g_is_pointed T.F_is_pointed.kp T.b_is_pointed .nil pass0 (pa_cons (pe_ix ix_tup (pv 0) pe_int (fun _ _ => rfl)) pa_nil))))))) (pss_one (ps_ret pe_non)) pss_nil) (pss_one (ps_try_thru0 (pss_one (ps_ret (pe_make T.mk_Plain (ok_Plain_init T) (hr.mono (by first | decide | omega)) rfl T.g_Plain T.b_Plain_init .nil pass0 (pa_cons (pv 0) pa_nil))))))), ?_⟩
    obtain ⟨d, h1, h2⟩ := rd
    refine ⟨_, rfl, a, _, rfl, .inr h1, rfl, false, rfl, iteF ?_⟩
    refine ⟨_, rfl, a, _, 1, _, rfl, rfl, h1, rfl, x, rfl, ok.tell, fun H1 s1 => ⟨true, rfl, iteF ?_⟩⟩
    refine ⟨_, rfl, fun y dy hy hdy hn => ?_⟩
    refine ⟨y, a, dy, x, t, H1, rfl, hy, (Same.new hdy).trans (Same.new (by rw [upd_ne hn.symm]; exact hy)), upd_same, ⟨d, Same.sqt s1 h1, h2.mono s1⟩, ok, fun H2 s2 e2 => ⟨rfl, ?_⟩⟩
    exact k y H2 (s1.trans (new_same hy hdy s2)) e2
theorem ok_valued_of (T : Txt K mg) (x : Str) (v : Int) (b : Str) : FnOk P w K mg base CX0 45 (f_valued_of K) (fdAt K (f_valued_of K)) P_valued_of (spEqOf K (.bef x v b)) := by
  refine FunD.ok T.F_valued_of sc_valued_of (fun vs H Q E h => ?_) (fun cdv A outer s H vs Q E hr h => ?_)
  · obtain ⟨a, rfl, _⟩ := h
    rfl
  · obtain ⟨a, rfl, rd, ok, k⟩ := h
    refine ⟨_, PSs.nox (pss_cons (ps_if (pt_not (pt_val (pe_call (ok_is_valued T) (hr.mono (by first | decide | omega)) (by rfl) T.g_is_valued T.F_is_valued.kp T.b_is_valued .nil pass0 (pa_cons (pv 0) pa_nil)))) (pss_one (ps_ret pe_non)) pss_nil) (pss_cons (ps_if (pt_cmpR op_eq (pe_ix ix_tup (pv 0) pe_int (fun _ _ => rfl)) pe_str (by rfl)) (pss_one (ps_ret (pe_make T.mk_Before (ok_Equation_init T) (hr.mono (by first | decide | omega)) rfl T.g_Before T.b_Equation_init .nil pass0 (pa_cons (pv 0) pa_nil)))) pss_nil) (pss_cons (ps_if (pt_cmpR op_eq (pe_ix ix_tup (pv 0) pe_int (fun _ _ => rfl)) pe_str (by rfl)) pB pss_nil) (pss_one pS)))), ?_⟩
    refine ⟨_, rfl, a, x, v, b, rfl, rd, ok, fun H1 s1 => ⟨true, rfl, iteF ?_⟩⟩
    have rd1 : SqT K H1 a [.str "before", .str x, .int v, .str b] := rd.mono s1
    refine ⟨_, rfl, a, _, 0, _, rfl, rfl, rd1, rfl, rfl, true, rfl, iteT ?_⟩
    refine ⟨_, rfl, fun y dy hy hdy hn => ?_⟩
    refine ⟨y, a, _, dy, rfl, upd_same, .inl rfl, fun H2 s2 e2 => ⟨rfl, ?_⟩⟩
    have s3 := new_same hy hdy s2
    exact k y H2 (s1.trans s3) ⟨a, RwD.mono (r := .bef x v b) s3 rd1, dy, e2⟩
theorem ok_call_of (T : Txt K mg) (x c b : Str) (n : Nat) : FnOk P w K mg base CX0 45 (f_call_of K) (fdAt K (f_call_of K)) P_call_of (spEqOf K (.call x c b n)) := by
  refine FunD.ok T.F_call_of sc_call_of (fun vs H Q E h => ?_) (fun cdv A outer s H vs Q E hr h => ?_)
  · obtain ⟨a, rfl, _⟩ := h
    rfl
  · obtain ⟨a, rfl, rd, ok, k⟩ := h
    refine ⟨_, PSs.nox (pss_cons (ps_if (PW.pt (pw_or (pt_cmpR op_ne (pe_callB call_len_seq (by rfl) T.z_len PySem.boot_len (pa_cons (pv 0) pa_nil)) pe_int (by rfl)) (pw_or (pt_not (pt_val (pe_call (ok_are_pointed T) (hr.mono (by first | decide | omega)) (by rfl) T.g_are_pointed T.F_are_pointed.kp T.b_are_pointed .nil pass0 (pa_cons (pe_ix ix_tup (pv 0) pe_int (fun _ _ => rfl)) (pa_cons pe_int pa_nil))))) (pw_or (pt_not (pt_val (pe_call (ok_is_name T) (hr.mono (by first | decide | omega)) (by rfl) T.g_is_name T.F_is_name.kp T.b_is_name .nil pass0 (pa_cons (pe_ix ix_tup (pv 0) pe_int (fun _ _ => rfl)) pa_nil)))) (pw_or1 (pt_not (pt_val (pe_call (ok_are_pointed T) (hr.mono (by first | decide | omega)) (by rfl) T.g_are_pointed T.F_are_pointed.kp T.b_are_pointed .nil pass0 (pa_cons (pe_ix ix_tup (pv 0) pe_int (fun _ _ => rfl)) (pa_cons pe_int pa_nil)))))))))) (pss_one (ps_ret pe_non)) pss_nil) (pss_one (ps_ret (pe_make T.mk_Call (ok_Equation_init T) (hr.mono (by first | decide | omega)) rfl T.g_Call T.b_Equation_init .nil pass0 (pa_cons (pv 0) pa_nil))))), ?_⟩
    have rd0 := rd
    obtain ⟨o, g, h1, h2, h3⟩ := rd
    refine ⟨_, rfl, a, _, rfl, .inr h1, rfl, false, rfl, iteF ?_⟩
    refine ⟨_, rfl, a, _, 1, _, rfl, rfl, h1, rfl, o, [x], rfl, h2, by simp, by show 1 ≤ 1000; decide, fun z hz => ?_, fun H1 s1 => ⟨true, rfl, iteF ?_⟩⟩
    · rcases List.mem_singleton.mp hz with rfl
      exact ok.tell
    refine ⟨_, rfl, a, _, 2, _, rfl, rfl, Same.sqt s1 h1, rfl, c, rfl, ok.more.1, fun H2 s2 => ⟨true, rfl, iteF ?_⟩⟩
    have s12 := s1.trans s2
    refine ⟨_, rfl, a, _, 3, _, rfl, rfl, Same.sqt s12 h1, rfl, g, List.replicate n b, rfl, Same.sqt s12 h3, ?_, ?_, fun z hz => ?_, fun H3 s3 => ⟨true, rfl, iteF ?_⟩⟩
    · have := ok.more.2.1
      cases n with
      | zero => omega
      | succ n => exact fun e => by cases e
    · have := ok.more.2.2
      rw [List.length_replicate]
      omega
    · rw [List.eq_of_mem_replicate hz]
      exact ok.ment b (List.mem_cons_self ..)
    refine ⟨_, rfl, fun y dy hy hdy hn => ?_⟩
    refine ⟨y, a, _, dy, rfl, upd_same, .inr (.inl rfl), fun H4 s4 e4 => ⟨rfl, ?_⟩⟩
    have s5 := (s12.trans s3).trans (new_same hy hdy s4)
    exact k y H4 s5 ⟨a, rd0.mono s5, dy, e4⟩
def Rw.tup (K : PySem.W.Frag) (H : Hp) (a : Addr) (r : Rw) : Prop := ∃ more, SqT K H a (.str r.word :: more)
theorem rw_tup {H : Hp} {a : Addr} {r : Rw} (h : RwD K H a r) : r.tup K H a := by
  cases r with
  | bef x v b => exact ⟨_, h⟩
  | call x c b k =>
    obtain ⟨o, g, h1, _⟩ := h
    exact ⟨_, h1⟩
  | pln x t =>
    obtain ⟨d, h1, _⟩ := h
    exact ⟨_, h1⟩
theorem ok_made_of (T : Txt K mg) (r : Rw) : FnOk P w K mg base CX0 46 (f_made_of K) (fdAt K (f_made_of K)) P_made_of (spEqOf K r) := by
  refine FunD.ok T.F_made_of sc_made_of (fun vs H Q E h => ?_) (fun cdv A outer s H vs Q E hr h => ?_)
  · obtain ⟨a, rfl, _⟩ := h
    rfl
  · obtain ⟨a, rfl, rd, ok, k⟩ := h
    cases r with
    | pln x t =>
      refine ⟨_, PSs.nox (pss_cons (ps_if (pt_cmpR op_eq (pe_ix ix_tup (pv 0) pe_int (fun _ _ => rfl)) pe_str (by rfl)) (pss_one (ps_ret (pe_call (ok_plain_of T x t) (hr.mono (by first | decide | omega)) (by rfl) T.g_plain_of T.F_plain_of.kp T.b_plain_of .nil pass0 (pa_cons (pv 0) pa_nil)))) pss_nil) pB), ?_⟩
      obtain ⟨d, h1, h2⟩ := id rd
      exact ⟨_, rfl, a, _, 0, _, rfl, rfl, h1, rfl, rfl, true, rfl, iteT ⟨_, rfl, a, rfl, rd, ok, k⟩⟩
    | bef x v b =>
      refine ⟨_, PSs.nox (pss_cons (ps_if (pt_cmpR op_eq (pe_ix ix_tup (pv 0) pe_int (fun _ _ => rfl)) pe_str (by rfl)) pB pss_nil) (pss_cons (ps_if (pt_cmpR op_in_seq (pe_ix ix_tup (pv 0) pe_int (fun _ _ => rfl)) (pe_tup (pa_cons pe_str (pa_cons pe_str (pa_cons pe_str pa_nil)))) (by rfl)) (pss_one (ps_ret (pe_call (ok_valued_of T x v b) (hr.mono (by first | decide | omega)) (by rfl) T.g_valued_of T.F_valued_of.kp T.b_valued_of .nil pass0 (pa_cons (pv 0) pa_nil)))) pss_nil) pB)), ?_⟩
      have h1 : SqT K H a [.str "before", .str x, .int v, .str b] := rd
      refine ⟨_, rfl, a, _, 0, _, rfl, rfl, h1, rfl, rfl, false, rfl, iteF ?_⟩
      refine ⟨_, rfl, a, _, 0, _, rfl, rfl, h1, rfl, sz (n := 3) (by decide), fun p hp => ⟨p, _, rfl, .inr (SqT.of upd_same), rfl, rfl, true, rfl, iteT ?_⟩⟩
      exact ⟨_, rfl, a, rfl, rd.mono (Same.new hp), ok, fun b' H' s' o' => k b' H' ((Same.new hp).trans s') o'⟩
    | call x c b n =>
      refine ⟨_, PSs.nox (pss_cons (ps_if (pt_cmpR op_eq (pe_ix ix_tup (pv 0) pe_int (fun _ _ => rfl)) pe_str (by rfl)) pB pss_nil) (pss_cons (ps_if (pt_cmpR op_in_seq (pe_ix ix_tup (pv 0) pe_int (fun _ _ => rfl)) (pe_tup (pa_cons pe_str (pa_cons pe_str (pa_cons pe_str pa_nil)))) (by rfl)) pB pss_nil) (pss_cons (ps_if (pt_cmpR op_eq (pe_ix ix_tup (pv 0) pe_int (fun _ _ => rfl)) pe_str (by rfl)) (pss_one (ps_ret (pe_call (ok_call_of T x c b n) (hr.mono (by first | decide | omega)) (by rfl) T.g_call_of T.F_call_of.kp T.b_call_of .nil pass0 (pa_cons (pv 0) pa_nil)))) pss_nil) pB))), ?_⟩
      obtain ⟨o, g, h1, h2, h3⟩ := id rd
      refine ⟨_, rfl, a, _, 0, _, rfl, rfl, h1, rfl, rfl, false, rfl, iteF ?_⟩
      refine ⟨_, rfl, a, _, 0, _, rfl, rfl, h1, rfl, sz (n := 3) (by decide), fun p hp => ⟨p, _, rfl, .inr (SqT.of upd_same), rfl, rfl, false, rfl, iteF ?_⟩⟩
      refine ⟨_, rfl, a, _, 0, _, rfl, rfl, Same.sqt (Same.new hp) h1, rfl, rfl, true, rfl, iteT ?_⟩
      exact ⟨_, rfl, a, rfl, rd.mono (Same.new hp), ok, fun b' H' s' o' => k b' H' ((Same.new hp).trans s') o'⟩
theorem ok_equation_of (T : Txt K mg) (r : Rw) : FnOk P w K mg base CX0 47 (f_equation_of K) (fdAt K (f_equation_of K)) P_equation_of (spEqOf K r) := by
  refine FunD.ok T.F_equation_of sc_equation_of (fun vs H Q E h => ?_) (fun cdv A outer s H vs Q E hr h => ?_)
  · obtain ⟨a, rfl, _⟩ := h
    rfl
  · obtain ⟨a, rfl, rd, ok, k⟩ := h
    refine ⟨_, PSs.nox (pss_cons (ps_set (i := 1) sc_equation_of.nd rfl (by first | exact Or.inl rfl | exact Or.inr rfl) pe_non) (pss_cons (ps_if (PW.pt (pw_and (pt_val (pe_callB call_isi (by rfl) T.z_isinstance boot_isinstance (pa_cons (pv 0) (pa_cons (pe_bltn (v := .ty "tuple") (by rfl) T.z_tuple boot_tuple rfl) pa_nil)))) (pw_and (pt_cmpR (op_neD hr.units) (pv 0) (pe_tup pa_nil) (by rfl)) (pw_and1 (pt_val (pe_callB call_isi (by rfl) T.z_isinstance boot_isinstance (pa_cons (pe_ix ix_tup (pv 0) pe_int (fun _ _ => rfl)) (pa_cons (pe_bltn (v := .ty "str") (by rfl) T.z_str boot_str rfl) pa_nil)))))))) (pss_one (ps_set (i := 1) sc_equation_of.nd rfl (by first | exact Or.inl rfl | exact Or.inr rfl) (pe_call (ok_made_of T r) (hr.mono (by first | decide | omega)) (by rfl) T.g_made_of T.F_made_of.kp T.b_made_of .nil pass0 (pa_cons (pv 0) pa_nil)))) pss_nil) (pss_cons (ps_if (pt_cmp (pc_isN (pv 1))) pB pss_nil) (pss_one (ps_ret (pv 1)))))), ?_⟩
    obtain ⟨more, h1⟩ := rw_tup rd
    obtain ⟨dd, p1, p2, p3⟩ := rw_dp rd ok
    refine ⟨_, rfl, _, _, _, _, true, rfl, .ty _, tyx_sqt h1, kit_ty (by decide +kernel), true, rfl, iteT ?_⟩
    refine ⟨_, rfl, sz (n := 0) (by decide), fun p hp => ?_⟩
    have s1 : Same H (upd H p (.tup [])) := Same.new hp
    obtain ⟨dd, p1, p2, p3⟩ := rw_dp (rd.mono s1) ok
    refine ⟨dd, .tuple [], p1, .tup (SqT.of upd_same) .nil, p2, rfl, true, by rw [p3]; rfl, iteT ?_⟩
    refine ⟨_, rfl, a, _, 0, _, rfl, rfl, Same.sqt s1 h1, at0, _, _, _, _, true, rfl, .ty _, .base (.str _), kit_ty (by decide +kernel), true, rfl, iteT ?_⟩
    refine ⟨_, rfl, a, rfl, rd.mono s1, ok, fun b H2 s2 o2 => ?_⟩
    exact ⟨_, rfl, false, rfl, iteF ⟨_, rfl, k b H2 (s1.trans s2) o2⟩⟩
end
end K99
/-! K9 -/
namespace K99
open PySem PySem.Spec PyProof.Rows L2
/-! ### sequences of either kind -/
def Sq (K : PySem.W.Frag) (H : Hp) (a : Addr) (xs : List V) : Prop := SqL K H a xs ∨ SqT K H a xs
theorem Same.sql {K : PySem.W.Frag} {H H' : Hp} {a : Addr} {xs : List V} (e : Same H H') (h : SqL K H a xs) : SqL K H' a xs := by
  rcases h with (h | ⟨o, h⟩) | h
  · exact .inl (.inl (e _ _ h))
  · exact .inl (.inr ⟨o, e _ _ h⟩)
  · exact .inr h
theorem Sq.mono {K : PySem.W.Frag} {H H' : Hp} {a : Addr} {xs : List V} (e : Same H H') (h : Sq K H a xs) : Sq K H' a xs := h.imp (Same.sql e) (Same.sqt e)
theorem kit_lt {K : PySem.W.Frag} {t : String} (h : t = "list" ∨ t = "tuple") : PySem.W.kitAny K (.type t) [.type "list", .type "tuple"] = some true := by
  rcases h with rfl | rfl
  · exact kitAny_cons (b := true) (kit_ty (by decide +kernel)) (fun h => by cases h) (fun _ => rfl)
  · exact kitAny_cons (b := false) (kit_ty (by decide +kernel)) (fun _ => kitAny_cons (b := true) (kit_ty (by decide +kernel)) (fun h => by cases h) (fun _ => rfl)) (fun h => by cases h)
theorem tyx_sq {K : PySem.W.Frag} {H : Hp} {a : Addr} {xs : List V} (h : Sq K H a xs) : ∃ t, TyX K H (.ref a) (.type t) ∧ (t = "list" ∨ t = "tuple") := by
  rcases h with h | h
  · refine ⟨_, ?_, .inl rfl⟩
    rcases h with (h | ⟨o, h⟩) | ⟨o, its, n, h1, h2, _⟩
    · exact .base (.lst h)
    · exact .base (.frz h)
    · exact .kList h1 h2
  · exact ⟨_, tyx_sqt h, .inr rfl⟩
/-- a walk over a sequence of either kind -/
theorem sq_walk {X : Cx} {tg l : Expr} {i : Nat} {σ : L2.St} {H H0 : Hp} {a : Addr} {α : Type} {as : List α} {e : α → V} (h : PE X l (tVar i)) (hv : σ[i]? = some (some (.ref a))) (hs : Sq X.K H0 a (as.map e)) (s0 : Same H0 H) {R : It → Hp → Prop}
    (hR : ∀ J, Walk J as.length (fun H => Same H0 H) (YMap as e) → R J H) : rI X tg l σ H R := by
  rcases hs with hs | hs
  · exact ⟨_, pi_list h, _, hv, a, rfl, ⟨_, Same.sql s0 hs⟩, hR _ ((wm_list as e).mono (fun H' s' => Same.sql s' hs) fun _ _ _ _ _ _ y => y)⟩
  · exact ⟨_, pi_tup h, _, hv, a, rfl, ⟨_, Same.sqt s0 hs⟩, hR _ ((wm_tup as e).mono (fun H' s' => Same.sqt s' hs) fun _ _ _ _ _ _ y => y)⟩
/-! ### dicts as lists of pairs -/
theorem valV_none {kvs : List (Key × V)} {k : Key} (h : k ∉ kvs.map (·.1)) : valV kvs k = none := by
  unfold valV
  rw [Option.map_eq_none_iff, List.find?_eq_none]
  intro p hp e
  exact h (List.mem_map.mpr ⟨p, hp, of_decide_eq_true e⟩)
theorem inr_mem {x : Str} {xs : List Str} (h : (Sum.inr x : Key) ∈ xs.map Sum.inr) : x ∈ xs := by
  obtain ⟨y, hy, e⟩ := List.mem_map.mp h
  injection e with e
  exact e ▸ hy
section
variable {P : Program} {w : World} {K : PySem.W.Frag} {mg : Str → Option Value} {base : Heap}
/-! ### names of a node -/
def spNeedNames (K : PySem.W.Frag) : Sp := fun vs H Q _ => ∃ a xs, vs = [V.ref a] ∧ Sq K H a (xs.map .str) ∧ xs ≠ [] ∧ xs.Nodup ∧ (∀ x, x ∈ xs → Ptd x) ∧ xs.length ≤ 1000 ∧ ∀ H', Same H H' → Q .non H'
theorem ok_need_names (T : Txt K mg) : FnOk P w K mg base CX0 4 (f_need_names K) (fdAt K (f_need_names K)) P_need_names (spNeedNames K) := by
  refine FunD.ok T.F_need_names sc_need_names (fun vs H Q E h => ?_) (fun cdv A outer s H vs Q E hr h => ?_)
  · obtain ⟨a, xs, rfl, _⟩ := h
    rfl
  · obtain ⟨a, xs, rfl, h1, h2, h3, h4, h5, k⟩ := h
    refine ⟨_, PSs.nox (pss_cons (ps_if (PW.pt (pw_or (pt_not (pt_val (pe_callB call_isiT (by rfl) T.z_isinstance boot_isinstance (pa_cons (pv 0) (pa_cons (pe_tup (pa_cons (pe_bltn (v := .ty "list") (by rfl) T.z_list boot_list rfl) (pa_cons (pe_bltn (v := .ty "tuple") (by rfl) T.z_tuple boot_tuple rfl) pa_nil))) pa_nil))))) (pw_or1 (pt_cmpR op_eq (pe_callB call_len_seq (by rfl) T.z_len PySem.boot_len (pa_cons (pv 0) pa_nil)) pe_int (by rfl))))) pB pss_nil) (pss_cons (ps_set (i := 1) sc_need_names.nd rfl (by first | exact Or.inl rfl | exact Or.inr rfl) pe_dnewK) (pss_one (ps_for PassesOwn.never rfl pI (pg_name (i := 2) sc_need_names.nd rfl (by first | exact Or.inl rfl | exact Or.inr rfl)) (pss_cons (ps_if (pt_not (pt_val (pe_call (ok_is_pointed T) (hr.mono (by first | decide | omega)) (by rfl) T.g_is_pointed T.F_is_pointed.kp T.b_is_pointed .nil pass0 (pa_cons (pv 2) pa_nil)))) pB pss_nil) (pss_cons (ps_if (pt_cmp (pc_din (hu_of hr) (pv 2) (pv 1))) pB pss_nil) (pss_one (ps_dput (hu_of hr) (pv 1) (pv 2) pe_bl rfl)))))))), ?_⟩
    obtain ⟨t, ht, hlt⟩ := tyx_sq h1
    refine ⟨_, rfl, sz (n := 2) (by decide), fun p hp => ?_⟩
    have s1 : Same H (upd H p (.tup [.ty "list", .ty "tuple"])) := Same.new hp
    obtain ⟨t, ht, hlt⟩ := tyx_sq (h1.mono s1)
    refine ⟨_, p, _, _, _, true, rfl, upd_same, .cons (.ty _) (.cons (.ty _) .nil), ht, kit_lt hlt, true, rfl, iteF ?_⟩
    refine ⟨_, rfl, a, _, rfl, h1.mono s1, rfl, false, ?_, iteF ?_⟩
    · show V.bl (decide (V.int ((xs.map V.str).length : Nat) = V.int 0)) = .bl false
      rw [decide_eq_false]
      intro e
      injection e with e
      rw [List.length_map] at e
      exact h2 (List.eq_nil_of_length_eq_zero (by omega))
    generalize upd H p (.tup [.ty "list", .ty "tuple"]) = H1 at s1 ⊢
    intro F hF
    have s2 : Same H (upd H1 F (.dK [])) := s1.trans (Same.new hF)
    refine sq_walk (pv 0) rfl h1 s2 fun J w => ?_
    refine for_map w (fun pre σ H2 => Same H H2 ∧ SameX F H1 H2 ∧ (∃ x, σ = [some (.ref a), some (.ref F), x]) ∧ H2 F = some (.dK (pre.map fun x => (.inr x, .bl true)))) ⟨s2, SameX.upd2, ⟨_, rfl⟩, upd_same⟩ (fun pre σ H2 q => q.1) (fun pre x post σ H2 e q => ?_) (fun σ H2 q => k H2 q.1)
    obtain ⟨q1, q2, ⟨y, rfl⟩, q3⟩ := q
    have hx : x ∈ xs := by
      rw [e]
      simp
    have hn : x ∉ pre := fun hp => by
      rw [e, List.nodup_append] at h3
      exact h3.2.2 x hp x (List.mem_cons_self ..) rfl
    refine ⟨_, rfl, x, rfl, h4 x hx, fun H3 s3 => ⟨true, rfl, iteF ?_⟩⟩
    have q4 := s3 _ _ q3
    have hv : valV (pre.map fun x => ((Sum.inr x : Key), V.bl true)) (.inr x) = none := valV_none fun h => by
      rw [List.map_map] at h
      exact hn (inr_mem h)
    refine ⟨_, rfl, _, rfl, F, _, rfl, DGet.k (k := .inr x) q4, false, ?_, iteF ?_⟩
    · rw [hv]
      rfl
    refine ⟨_, rfl, _, rfl, F, _, rfl, DPut.k (k := .inr x) q4 ?_, ?_, ?_, ⟨_, rfl⟩, ?_⟩
    · rw [List.length_map]
      rw [e] at h5
      simp at h5
      exact szl (by omega)
    · have : SameX F H1 (upd H3 F (.dK (putK (pre.map fun x => ((Sum.inr x : Key), V.bl true)) (.inr x) (.bl true)))) := SameX.put (SameX.trans q2 (Same.x s3))
      exact s1.trans (SameX.of this hF)
    · exact SameX.put (SameX.trans q2 (Same.x s3))
    · rw [upd_same, putK_new _ hv]
      simp
end
end K99
/-! K10 -/
namespace K99
open PySem PySem.Spec PyProof.Rows L2
section
variable {P : Program} {w : World} {K : PySem.W.Frag} {mg : Str → Option Value} {base : Heap}
/-! ### equations of rows -/
def spEqsOf (K : PySem.W.Frag) : Sp := fun vs H Q _ => ∃ (a : Addr) (ds : List (Addr × Rw)), vs = [V.ref a] ∧ Sq K H a (ds.map fun p => .ref p.1) ∧ ds.length ≤ 1000 ∧ (∀ p, p ∈ ds → RwD K H p.1 p.2 ∧ p.2.oks) ∧
  ∀ l eqs H', Same H H' → H' l = some (.lst eqs) → Paired (fun v (p : Addr × Rw) => ∃ b, v = .ref b ∧ EqO K H' b p.2) eqs ds → Q (.ref l) H'
theorem ok_equations_of (T : Txt K mg) : FnOk P w K mg base CX0 50 (f_equations_of K) (fdAt K (f_equations_of K)) P_equations_of (spEqsOf K) := by
  refine FunD.ok T.F_equations_of sc_equations_of (fun vs H Q E h => ?_) (fun cdv A outer s H vs Q E hr h => ?_)
  · obtain ⟨a, ds, rfl, _⟩ := h
    rfl
  · obtain ⟨a, ds, rfl, h1, h2, h3, k⟩ := h
    refine ⟨_, PSs.nox (pss_cons (ps_if (pt_not (pt_val (pe_callB call_isiT (by rfl) T.z_isinstance boot_isinstance (pa_cons (pv 0) (pa_cons (pe_tup (pa_cons (pe_bltn (v := .ty "list") (by rfl) T.z_list boot_list rfl) (pa_cons (pe_bltn (v := .ty "tuple") (by rfl) T.z_tuple boot_tuple rfl) pa_nil))) pa_nil))))) pB pss_nil) (pss_cons (ps_set (i := 1) sc_equations_of.nd rfl (by first | exact Or.inl rfl | exact Or.inr rfl) (pe_lst pa_nil)) (pss_cons (ps_for PassesOwn.never rfl pI (pg_name (i := 2) sc_equations_of.nd rfl (by first | exact Or.inl rfl | exact Or.inr rfl)) (pss_cons (ps_set (i := 3) sc_equations_of.nd rfl (by first | exact Or.inl rfl | exact Or.inr rfl) (pe_call (FnOk.ex (p := fun _ : Rw => True) (spd := spEqOf K) fun r _ => ok_equation_of T r) (hr.mono (by first | decide | omega)) (by rfl) T.g_equation_of T.F_equation_of.kp T.b_equation_of .nil pass0 (pa_cons (pv 2) pa_nil))) (pss_cons (ps_if (PW.pt (pw_and (pt_cmp (pc_notN (pe_um0 (p := fun _ => True) (fun d _ => me_term T d) (pv 3) (hr.mono (by first | decide | omega)) pass0))) (pw_and1 (pt_cmpR (op_eqD hr.units) (pe_um0 (p := fun _ => True) (fun d _ => me_names T d) (pv 3) (hr.mono (by first | decide | omega)) pass0) (pe_lst pa_nil) (by rfl))))) pB pss_nil) (pss_one (ps_expr (pe_bm PySem.F.plainAttrs_list PySem.F.slot_list_append PySem.F.type_list_append mt_append (pv 1) (pa_cons (pv 3) pa_nil))))))) (pss_one (ps_ret (pv 1)))))), ?_⟩
    refine ⟨_, rfl, sz (n := 2) (by decide), fun p hp => ?_⟩
    have s1 : Same H (upd H p (.tup [.ty "list", .ty "tuple"])) := Same.new hp
    obtain ⟨t, ht, hlt⟩ := tyx_sq (h1.mono s1)
    refine ⟨_, p, _, _, _, true, rfl, upd_same, .cons (.ty _) (.cons (.ty _) .nil), ht, kit_lt hlt, true, rfl, iteF ?_⟩
    generalize upd H p (.tup [.ty "list", .ty "tuple"]) = H1 at s1 ⊢
    refine ⟨Nat.zero_le _, fun F hF => ?_⟩
    have s2 : Same H (upd H1 F (.lst [])) := s1.trans (Same.new hF)
    refine sq_walk (pv 0) rfl h1 s2 fun J w => ?_
    refine for_map w (fun pre σ H2 => SameX F H1 H2 ∧ (∃ x y, σ = [some (.ref a), some (.ref F), x, y]) ∧ ∃ eqs, H2 F = some (.lst eqs) ∧ Paired (fun v (p : Addr × Rw) => ∃ b, v = .ref b ∧ EqO K H2 b p.2) eqs pre) ⟨SameX.upd2, ⟨_, _, rfl⟩, _, upd_same, .nil⟩ (fun pre σ H2 q => s1.trans (SameX.of q.1 hF)) (fun pre x post σ H2 e q => ?_) (fun σ H2 q => ?_)
    · obtain ⟨q1, ⟨y, z, rfl⟩, eqs, q3, q4⟩ := q
      have hx : x ∈ ds := by
        rw [e]
        simp
      obtain ⟨hd, hok⟩ := h3 x hx
      have s3 : Same H H2 := s1.trans (SameX.of q1 hF)
      refine ⟨_, rfl, x.2, trivial, x.1, rfl, hd.mono s3, hok, fun b H3 s4 o4 => ?_⟩
      have fin : ∀ H4, Same H3 H4 → (∃ xs, H4 F = some (.lst xs) ∧ xs.length < sizeLine ∧ (SameX F H1 (upd H4 F (.lst (xs ++ [V.ref b]))) ∧ (∃ x0 y0, [some (V.ref a), some (V.ref F), some (V.ref x.1), some (V.ref b)] = [some (V.ref a), some (V.ref F), x0, y0]) ∧
          ∃ es, upd H4 F (.lst (xs ++ [V.ref b])) F = some (.lst es) ∧ Paired (fun v (p : Addr × Rw) => ∃ b', v = .ref b' ∧ EqO K (upd H4 F (.lst (xs ++ [V.ref b]))) b' p.2) es (pre ++ [x]))) := fun H4 s5 => by
        have f4 := s5 _ _ (s4 _ _ q3)
        refine ⟨eqs, f4, ?_, SameX.put (SameX.trans q1 (Same.x (s4.trans s5))), ⟨_, _, rfl⟩, _, upd_same, ?_⟩
        · rw [q4.length]
          rw [e] at h2
          simp at h2
          exact szl (by omega)
        · have n5 : SameN H4 (upd H4 F (.lst (eqs ++ [V.ref b]))) := SameN.lst f4
          exact (L2.Paired.mapP q4 fun v p ⟨b', e', o'⟩ => ⟨b', e', (o'.mono (s4.trans s5)).monoN n5⟩).snoc ⟨b, rfl, (o4.mono s5).monoN n5⟩
      refine ⟨x.2, trivial, _, rfl, b, rfl, o4, b, rfl, o4, fun v e1 e2 => ?_⟩
      cases hpl : x.2.isPln with
      | false =>
        obtain rfl := e1 hpl
        refine ⟨false, rfl, iteF ?_⟩
        refine iteF ?_
        obtain ⟨xs, f1, f2, f3⟩ := fin H3 (Same.refl _)
        exact ⟨_, rfl, .inl ⟨rfl, _, SqL.of f1⟩, _, rfl, F, xs, _, rfl, rfl, f1, f2, f3⟩
      | true =>
        obtain ⟨c, rfl⟩ := e2 hpl
        refine ⟨true, rfl, iteT ?_⟩
        refine ⟨x.2, trivial, _, rfl, b, rfl, o4, b, rfl, o4, hok, fun l H4 s5 hl => ?_⟩
        refine ⟨Nat.zero_le _, fun l2 hl2 => ?_⟩
        have s6 : Same H4 (upd H4 l2 (.lst [])) := Same.new hl2
        refine ⟨_, .list [], .lst (SqL.of (s6 _ _ hl)) (rep_dp _), .lst (SqL.of upd_same) .nil, ?_, rfl, false, ?_, ?_⟩
        · simp only [SeqAt.shaped, PyData.canLay0, reps_can hok.ment, PyData.depth, reps_dep]
          rfl
        · obtain ⟨r1, r2⟩ := x
          cases r2 with
          | bef _ _ _ => cases hpl
          | call _ _ _ _ => cases hpl
          | pln y t =>
            have : ∃ z zs, t.nms = z :: zs := by
              cases hh : t.nms with
              | nil =>
                have := t.nms_len
                rw [hh] at this
                have h2 := t.dep_pos
                simp at this
                omega
              | cons z zs => exact ⟨z, zs, rfl⟩
            obtain ⟨z, zs, hz⟩ := this
            show V.bl (PyData.eqv (.list (t.nms.map .str)) (.list [])) = _
            rw [hz]
            rfl
        · refine iteF ?_
          obtain ⟨xs, f1, f2, f3⟩ := fin _ (s5.trans s6)
          exact ⟨_, rfl, .inl ⟨rfl, _, SqL.of f1⟩, _, rfl, F, xs, _, rfl, rfl, f1, f2, f3⟩
    · obtain ⟨q1, ⟨y, z, rfl⟩, eqs, q3, q4⟩ := q
      exact ⟨_, rfl, k F eqs H2 (s1.trans (SameX.of q1 hF)) q3 q4⟩
end
end K99
/-! K11 -/
namespace K99
open PySem PySem.Spec PyProof.Rows L2
/-! ### nodes -/
structure ND where
  name : Str
  ins : List Str
  out : Str
  rows : List Rw
def ND.tells (n : ND) : List Str := n.rows.map Rw.tell
def ND.names (n : ND) : List Str := n.ins ++ n.tells
structure ND.oks (n : ND) : Prop where
  nm : Nm n.name
  ins0 : n.ins ≠ []
  insP : ∀ x, x ∈ n.ins → Ptd x
  outP : Ptd n.out
  nd : n.names.Nodup
  rws : ∀ r, r ∈ n.rows → r.oks
  ment : ∀ r, r ∈ n.rows → ∀ x, x ∈ r.ments → x ∈ n.names
  outT : n.out ∈ n.tells
  insL : n.ins.length ≤ 100
  rowL : n.rows.length ≤ 1000
abbrev PR := Addr × Rw
def tks (ins : List Str) (rs : List PR) : List (Key × V) := (ins.map fun x => ((Sum.inr x : Key), V.non)) ++ rs.map fun p => ((Sum.inr p.2.tell : Key), V.ref p.1)
abbrev nf (x : Str) (ki ko kr te : Addr) : List (Str × V) := [("name", .str x), ("kept_inputs", .ref ki), ("kept_outs", .ref ko), ("kept_rows", .ref kr), ("tellers", .ref te)]
/-- what a node's object holds on to, but its tellers -/
structure NdP (K : PySem.W.Frag) (H : Hp) (n : ND) (ki ko kr : Addr) (rs : List PR) : Prop where
  i : H ki = some (.lst (n.ins.map .str))
  o : H ko = some (.lst [.str n.out])
  r : H kr = some (.lst (rs.map fun p => .ref p.1))
  e : rs.map (·.2) = n.rows
  eq : ∀ p, p ∈ rs → EqO K H p.1 p.2
def NdO (K : PySem.W.Frag) (H : Hp) (a : Addr) (n : ND) : Prop := ∃ dx ki ko kr te rs, H a = some (.ins (A_Node K) dx (nf n.name ki ko kr te)) ∧ NdP K H n ki ko kr rs ∧ H te = some (.dK (tks n.ins rs))
theorem NdP.mono {K : PySem.W.Frag} {H H' : Hp} {n : ND} {ki ko kr : Addr} {rs : List PR} (s : Same H H') (h : NdP K H n ki ko kr rs) : NdP K H' n ki ko kr rs := ⟨s _ _ h.i, s _ _ h.o, s _ _ h.r, h.e, fun p hp => (h.eq p hp).mono s⟩
theorem NdO.mono {K : PySem.W.Frag} {H H' : Hp} {a : Addr} {n : ND} (s : Same H H') (h : NdO K H a n) : NdO K H' a n := by
  obtain ⟨dx, ki, ko, kr, te, rs, h1, h2, h3⟩ := h
  exact ⟨dx, ki, ko, kr, te, rs, s _ _ h1, h2.mono s, s _ _ h3⟩
/-- another's dict changes -/
theorem NdP.keepD {K : PySem.W.Frag} {H H' : Hp} {n : ND} {ki ko kr te : Addr} {rs : List PR} {kvs : List (Key × V)} (s : SameX te H H') (h : H te = some (.dK kvs)) (p : NdP K H n ki ko kr rs) : NdP K H' n ki ko kr rs := by
  have ne : ∀ {b xs}, H b = some (.lst xs) → b ≠ te := fun {b xs} e q => by
    subst q
    rw [h] at e
    cases e
  exact ⟨s _ _ (ne p.i) p.i, s _ _ (ne p.o) p.o, s _ _ (ne p.r) p.r, p.e, fun q hq => (p.eq q hq).monoN (SameX.nD s h)⟩
theorem rs_len {n : ND} {rs : List PR} (e : rs.map (·.2) = n.rows) (ok : n.oks) : rs.length ≤ 1000 := by
  have := congrArg List.length e
  rw [List.length_map] at this
  have := ok.rowL
  omega
theorem rs_tell {n : ND} {rs : List PR} (e : rs.map (·.2) = n.rows) : rs.map (fun p => p.2.tell) = n.tells := by
  unfold ND.tells
  rw [← e, List.map_map]
  rfl
theorem rs_in {n : ND} {rs : List PR} (e : rs.map (·.2) = n.rows) {p : PR} (h : p ∈ rs) : p.2 ∈ n.rows := by
  rw [← e]
  exact List.mem_map_of_mem h
theorem tks_keys (ins : List Str) (rs : List PR) : (tks ins rs).map (·.1) = (ins ++ rs.map (fun p => p.2.tell)).map Sum.inr := by
  unfold tks
  rw [List.map_append, List.map_append, List.map_map, List.map_map, List.map_map]
  rfl
theorem tks_none {ins : List Str} {rs : List PR} {x : Str} (h : x ∉ ins ++ rs.map (fun p => p.2.tell)) : valV (tks ins rs) (.inr x) = none := valV_none fun e => by
  rw [tks_keys] at e
  exact h (inr_mem e)
theorem valV_mem {kvs : List (Key × V)} {k : Key} (h : k ∈ kvs.map (·.1)) : (valV kvs k).isSome = true := by
  unfold valV
  rw [Option.isSome_map, List.find?_isSome]
  obtain ⟨p, hp, e⟩ := List.mem_map.mp h
  exact ⟨p, hp, decide_eq_true e⟩
theorem tks_some {ins : List Str} {rs : List PR} {x : Str} (h : x ∈ ins ++ rs.map (fun p => p.2.tell)) : (valV (tks ins rs) (.inr x)).isSome = true := valV_mem (by
  rw [tks_keys]
  exact List.mem_map_of_mem h)
section
variable {P : Program} {w : World} {K : PySem.W.Frag} {mg : Str → Option Value} {base : Heap}
def spTakeT (K : PySem.W.Frag) : Sp := fun vs H Q _ => ∃ a dx x ki ko kr te rs n, vs = [V.ref a] ∧ H a = some (.ins (A_Node K) dx (nf x ki ko kr te)) ∧ NdP K H n ki ko kr rs ∧ H te = some (.dK []) ∧ n.oks ∧
  ∀ H', SameX te H H' → H' te = some (.dK (tks n.ins rs)) → Q .non H'
theorem ok_Node_take_tellers (T : Txt K mg) : FnOk P w K mg base CX0 5 (f_Node_take_tellers K) (fdAt K (f_Node_take_tellers K)) P_Node_take_tellers (spTakeT K) := by
  refine FunD.ok T.F_Node_take_tellers sc_Node_take_tellers (fun vs H Q E h => ?_) (fun cdv A outer s H vs Q E hr h => ?_)
  · obtain ⟨a, dx, x, ki, ko, kr, te, rs, n, rfl, _⟩ := h
    rfl
  · obtain ⟨a, dx, x, ki, ko, kr, te, rs, n, rfl, h1, h2, h3, ok, k⟩ := h
    refine ⟨_, PSs.nox (pss_cons (ps_for PassesOwn.never rfl (pi_list (pe_fld (pv 0) rfl)) (pg_name (i := 1) sc_Node_take_tellers.nd rfl (by first | exact Or.inl rfl | exact Or.inr rfl)) (pss_one (ps_dput (hu_of hr) (pe_fld (pv 0) rfl) (pv 1) pe_non rfl))) (pss_one (ps_for PassesOwn.never rfl (pi_list (pe_fld (pv 0) rfl)) (pg_name (i := 2) sc_Node_take_tellers.nd rfl (by first | exact Or.inl rfl | exact Or.inr rfl)) (pss_one (ps_for PassesOwn.never rfl (pi_list (pe_um0 (p := fun _ => True) (fun d _ => me_tells T d) (pv 2) (hr.mono (by first | decide | omega)) pass0)) (pg_name (i := 1) sc_Node_take_tellers.nd rfl (by first | exact Or.inl rfl | exact Or.inr rfl)) (pss_cons (ps_if (pt_cmp (pc_din (hu_of hr) (pv 1) (pe_fld (pv 0) rfl))) pB pss_nil) (pss_one (ps_dput (hu_of hr) (pe_fld (pv 0) rfl) (pv 1) (pv 2) rfl)))))))), ?_⟩
    have hne : a ≠ te := fun e => by
      subst e
      rw [h1] at h3
      cases h3
    have hnl : ∀ {b xs}, H b = some (.lst xs) → b ≠ te := fun {b xs} e q => by
      subst q
      rw [h3] at e
      cases e
    have hnd := ok.nd
    unfold ND.names at hnd
    refine ⟨_, rfl, a, _, _, _, _, rfl, h1, T.c_Node, T.n_Node_kept_inputs, rfl, ki, rfl, ⟨_, SqL.of h2.i⟩, ?_⟩
    refine for_map (wm_list n.ins V.str) (fun pre σ H2 => SameX te H H2 ∧ (∃ x y, σ = [some (.ref a), x, y]) ∧ H2 te = some (.dK (tks pre []))) ⟨SameX.refl _ _, ⟨_, _, rfl⟩, h3⟩ (fun pre σ H2 q => SqL.of (q.1 _ _ (hnl h2.i) h2.i)) (fun pre z post σ H2 e q => ?_) (fun σ H2 q => ?_)
    · obtain ⟨s1, ⟨u, v, rfl⟩, q3⟩ := q
      refine ⟨_, rfl, a, _, _, _, _, rfl, s1 _ _ hne h1, T.c_Node, T.n_Node_tellers, rfl, _, rfl, te, _, rfl, DPut.k (k := .inr z) q3 ?_, SameX.put s1, ⟨_, _, rfl⟩, ?_⟩
      · have := ok.insL
        rw [e] at this
        simp at this
        simp [tks]
        exact szl (by omega)
      · rw [upd_same, putK_new _ (tks_none fun h => ?_)]
        · simp [tks]
        · rw [e] at hnd
          rw [List.map_nil, List.append_nil] at h
          rw [List.append_assoc, List.nodup_append] at hnd
          exact hnd.2.2 z h z (List.mem_append_left _ (List.mem_cons_self ..)) rfl
    · obtain ⟨s1, ⟨u, v, rfl⟩, q3⟩ := q
      refine ⟨_, rfl, a, _, _, _, _, rfl, s1 _ _ hne h1, T.c_Node, T.n_Node_kept_rows, rfl, kr, rfl, ⟨_, SqL.of (s1 _ _ (hnl h2.r) h2.r)⟩, ?_⟩
      refine for_map (wm_list rs fun p => V.ref p.1) (fun pre σ H2 => SameX te H H2 ∧ (∃ x y, σ = [some (.ref a), x, y]) ∧ H2 te = some (.dK (tks n.ins pre))) ⟨s1, ⟨_, _, rfl⟩, q3⟩ (fun pre σ H2 q => SqL.of (q.1 _ _ (hnl h2.r) h2.r)) (fun pre z post σ H2 e q => ?_) (fun σ H2 q => k H2 q.1 q.2.2)
      obtain ⟨s2, ⟨u, v, rfl⟩, q4⟩ := q
      have hz : z ∈ rs := by
        rw [e]
        simp
      have o1 : EqO K H2 z.1 z.2 := (h2.eq z hz).monoN (SameX.nD s2 h3)
      refine ⟨z.2, trivial, _, rfl, z.1, rfl, o1, z.1, rfl, o1, fun l H3 s3 hl => ?_⟩
      refine ⟨l, rfl, ⟨_, SqL.of hl⟩, ?_⟩
      have hlt : l ≠ te := fun q => by
        subst q
        rw [s3 _ _ q4] at hl
        cases hl
      have hin : z.2.tell ∉ n.ins ++ pre.map (fun p => p.2.tell) := fun h => by
        rw [← rs_tell h2.e, e, List.map_append, ← List.append_assoc, List.nodup_append] at hnd
        exact hnd.2.2 _ h z.2.tell (by simp) rfl
      refine for_map (wm_list [z.2.tell] V.str) (fun pre2 σ H4 => SameX te H3 H4 ∧ (∃ x, σ = [some (.ref a), x, some (.ref z.1)]) ∧ H4 te = some (.dK (tks n.ins (if pre2 = [] then pre else pre ++ [z])))) ⟨SameX.refl _ _, ⟨_, rfl⟩, s3 _ _ q4⟩ (fun pre2 σ H4 q => SqL.of (q.1 _ _ hlt hl)) (fun pre2 y post2 σ H4 e2 q => ?_) (fun σ H4 q => ?_)
      · obtain ⟨s4, ⟨u, rfl⟩, q5⟩ := q
        have hp2 : pre2 = [] ∧ y = z.2.tell := by
          cases pre2 with
          | nil =>
            injection e2 with e2 _
            exact ⟨rfl, e2.symm⟩
          | cons a r => simp at e2
        obtain ⟨rfl, rfl⟩ := hp2
        have q5 : H4 te = some (.dK (tks n.ins pre)) := q5
        have g4 := s4 _ _ hne (s3 _ _ (s2 _ _ hne h1))
        refine ⟨_, rfl, _, rfl, a, _, _, _, _, rfl, g4, T.c_Node, T.n_Node_tellers, rfl, te, _, rfl, DGet.k (k := .inr z.2.tell) q5, false, ?_, iteF ?_⟩
        · rw [tks_none hin]
          rfl
        refine ⟨_, rfl, _, rfl, a, _, _, _, _, rfl, g4, T.c_Node, T.n_Node_tellers, rfl, _, rfl, te, _, rfl, DPut.k (k := .inr z.2.tell) q5 ?_, SameX.put s4, ⟨_, rfl⟩, ?_⟩
        · have h5 := ok.insL
          have h6 := rs_len h2.e ok
          rw [e] at h6
          simp at h6
          simp [tks]
          exact szl (by omega)
        · rw [upd_same, putK_new _ (tks_none hin), if_neg (by simp)]
          simp [tks]
      · obtain ⟨s4, ⟨u, rfl⟩, q5⟩ := q
        exact ⟨SameX.trans s2 (SameX.trans (Same.x s3) s4), ⟨_, _, rfl⟩, q5⟩
end
end K99
/-! K12 -/
namespace K99
open PySem PySem.Spec PyProof.Rows L2
section
variable {P : Program} {w : World} {K : PySem.W.Frag} {mg : Str → Option Value} {base : Heap}
def spNeedT (K : PySem.W.Frag) : Sp := fun vs H Q _ => ∃ a n, vs = [V.ref a] ∧ NdO K H a n ∧ n.oks ∧ ∀ H', Same H H' → Q .non H'
theorem tks_out {ins : List Str} {rs : List PR} {x : Str} (h1 : x ∉ ins) (h2 : x ∈ rs.map (fun p => p.2.tell)) : ∃ a, valV (tks ins rs) (.inr x) = some (.ref a) := by
  induction ins with
  | nil =>
    induction rs with
    | nil => cases h2
    | cons p r ih =>
      by_cases e : p.2.tell = x
      · refine ⟨p.1, ?_⟩
        show valV ((Sum.inr p.2.tell, V.ref p.1) :: _) _ = _
        rw [valV_pos (congrArg Sum.inr e)]
      · have : x ∈ r.map (fun p => p.2.tell) := by
          rcases List.mem_cons.mp h2 with h | h
          · exact absurd h.symm e
          · exact h
        obtain ⟨a, ha⟩ := ih this
        refine ⟨a, ?_⟩
        show valV ((Sum.inr p.2.tell, V.ref p.1) :: tks [] r) _ = _
        rw [valV_neg (fun q => e (by injection q))]
        exact ha
  | cons y r ih =>
    have hy : ¬ y = x := fun e => h1 (by rw [e]; exact List.mem_cons_self ..)
    obtain ⟨a, ha⟩ := ih fun h => h1 (List.mem_cons_of_mem _ h)
    refine ⟨a, ?_⟩
    show valV ((Sum.inr y, V.non) :: tks r rs) _ = _
    rw [valV_neg (fun q => hy (by injection q))]
    exact ha
theorem ok_Node_need_told (T : Txt K mg) : FnOk P w K mg base CX0 8 (f_Node_need_told K) (fdAt K (f_Node_need_told K)) P_Node_need_told (spNeedT K) := by
  refine FunD.ok T.F_Node_need_told sc_Node_need_told (fun vs H Q E h => ?_) (fun cdv A outer s H vs Q E hr h => ?_)
  · obtain ⟨a, n, rfl, _⟩ := h
    rfl
  · obtain ⟨a, n, rfl, ⟨dx, ki, ko, kr, te, rs, h1, h2, h3⟩, ok, k⟩ := h
    refine ⟨_, PSs.nox (pss_cons (ps_for PassesOwn.never rfl (pi_list (pe_fld (pv 0) rfl)) (pg_name (i := 1) sc_Node_need_told.nd rfl (by first | exact Or.inl rfl | exact Or.inr rfl)) (pss_one (ps_for PassesOwn.never rfl (pi_list (pe_um0 (p := fun _ => True) (fun d _ => me_names T d) (pv 1) (hr.mono (by first | decide | omega)) pass0)) (pg_name (i := 2) sc_Node_need_told.nd rfl (by first | exact Or.inl rfl | exact Or.inr rfl)) (pss_one (ps_if (pt_cmp (pc_dnotin (hu_of hr) (pv 2) (pe_fld (pv 0) rfl))) pB pss_nil))))) (pss_one (ps_for PassesOwn.never rfl (pi_list (pe_fld (pv 0) rfl)) (pg_name (i := 2) sc_Node_need_told.nd rfl (by first | exact Or.inl rfl | exact Or.inr rfl)) (pss_one (ps_if (pt_cmp (pc_isN (pe_dget1 (hu_of hr) (pe_fld (pv 0) rfl) (pv 2) ⟨rfl, rfl, rfl, rfl⟩))) pB pss_nil))))), ?_⟩
    have hnd := ok.nd
    unfold ND.names at hnd
    refine ⟨_, rfl, a, _, _, _, _, rfl, h1, T.c_Node, T.n_Node_kept_rows, rfl, kr, rfl, ⟨_, SqL.of h2.r⟩, ?_⟩
    refine for_map (wm_list rs fun p => V.ref p.1) (fun pre σ H2 => Same H H2 ∧ (∃ x y, σ = [some (.ref a), x, y])) ⟨Same.refl _, ⟨_, _, rfl⟩⟩ (fun pre σ H2 q => SqL.of (q.1 _ _ h2.r)) (fun pre z post σ H2 e q => ?_) (fun σ H2 q => ?_)
    · obtain ⟨s1, u, v, rfl⟩ := q
      have hz : z ∈ rs := by
        rw [e]
        simp
      have o1 : EqO K H2 z.1 z.2 := (h2.eq z hz).mono s1
      have hr2 := rs_in h2.e hz
      refine ⟨z.2, trivial, _, rfl, z.1, rfl, o1, z.1, rfl, o1, ok.rws _ hr2, fun l H3 s3 hl => ?_⟩
      refine ⟨l, rfl, ⟨_, SqL.of hl⟩, ?_⟩
      refine for_map (wm_list z.2.ments V.str) (fun pre2 σ H4 => Same H3 H4 ∧ (∃ x, σ = [some (.ref a), some (.ref z.1), x])) ⟨Same.refl _, ⟨_, rfl⟩⟩ (fun pre2 σ H4 q => SqL.of (q.1 _ _ hl)) (fun pre2 y post2 σ H4 e2 q => ?_) (fun σ H4 q => ?_)
      · obtain ⟨s4, u, rfl⟩ := q
        have hy : y ∈ n.ins ++ rs.map (fun p => p.2.tell) := by
          rw [rs_tell h2.e]
          exact ok.ment _ hr2 y (by rw [e2]; simp)
        have s5 := (s1.trans s3).trans s4
        obtain ⟨w', hw⟩ := Option.isSome_iff_exists.mp (tks_some hy)
        refine ⟨_, rfl, _, rfl, a, _, _, _, _, rfl, s5 _ _ h1, T.c_Node, T.n_Node_tellers, rfl, te, _, rfl, DGet.k (k := .inr y) (s5 _ _ h3), false, ?_, iteF ?_⟩
        · rw [hw]
          rfl
        exact ⟨s4, ⟨_, rfl⟩⟩
      · obtain ⟨s4, u, rfl⟩ := q
        exact ⟨(s1.trans s3).trans s4, ⟨_, _, rfl⟩⟩
    · obtain ⟨s1, u, v, rfl⟩ := q
      refine ⟨_, rfl, a, _, _, _, _, rfl, s1 _ _ h1, T.c_Node, T.n_Node_kept_outs, rfl, ko, rfl, ⟨_, SqL.of (s1 _ _ h2.o)⟩, ?_⟩
      refine for_map (wm_list [n.out] V.str) (fun pre2 σ H4 => Same H H4 ∧ (∃ x y, σ = [some (.ref a), x, y])) ⟨s1, ⟨_, _, rfl⟩⟩ (fun pre2 σ H4 q => SqL.of (q.1 _ _ h2.o)) (fun pre2 y post2 σ H4 e2 q => ?_) (fun σ H4 q => k H4 q.1)
      obtain ⟨s4, u, v, rfl⟩ := q
      have hy : y = n.out := by
        have : y ∈ [n.out] := by
          rw [e2]
          simp
        exact List.mem_singleton.mp this
      subst hy
      have ho : n.out ∈ rs.map (fun p => p.2.tell) := by
        rw [rs_tell h2.e]
        exact ok.outT
      have hi : n.out ∉ n.ins := fun h => by
        rw [List.nodup_append] at hnd
        exact hnd.2.2 _ h n.out ok.outT rfl
      obtain ⟨b, hb⟩ := tks_out hi ho
      refine ⟨_, rfl, a, _, _, _, _, rfl, s4 _ _ h1, T.c_Node, T.n_Node_tellers, rfl, te, rfl, .inl ⟨_, .inl (s4 _ _ h3)⟩, _, rfl, _, DGet.k (k := .inr n.out) (s4 _ _ h3), false, ?_, iteF ?_⟩
      · rw [hb]
        rfl
      · exact ⟨s4, ⟨_, _, rfl⟩⟩
def spNdL (K : PySem.W.Frag) (f : ND → List Str) : Sp := fun vs H Q _ => ∃ a n, vs = [V.ref a] ∧ NdO K H a n ∧ ∀ l H', Same H H' → H' l = some (.lst ((f n).map .str)) → Q (.ref l) H'
theorem ok_Node_inputs (T : Txt K mg) : FnOk P w K mg base CX0 1 (f_Node_inputs K) (fdAt K (f_Node_inputs K)) P_Node_inputs (spNdL K ND.ins) := by
  refine FunD.ok T.F_Node_inputs sc_Node_inputs (fun vs H Q E h => ?_) (fun cdv A outer s H vs Q E hr h => ?_)
  · obtain ⟨a, n, rfl, _⟩ := h
    rfl
  · obtain ⟨a, n, rfl, ⟨dx, ki, ko, kr, te, rs, h1, h2, h3⟩, k⟩ := h
    refine ⟨_, PSs.nox (pss_one (ps_ret (pe_callTy call_list_of (by rfl) T.z_list boot_list (pa_cons (pe_fld (pv 0) rfl) pa_nil)))), ?_⟩
    exact ⟨_, rfl, a, _, _, _, _, rfl, h1, T.c_Node, T.n_Node_kept_inputs, rfl, ki, _, rfl, .inl (SqL.of h2.i), fun l hl => k l _ (Same.new hl) upd_same⟩
theorem ok_Node_outs (T : Txt K mg) : FnOk P w K mg base CX0 1 (f_Node_outs K) (fdAt K (f_Node_outs K)) P_Node_outs (spNdL K (fun n => [n.out])) := by
  refine FunD.ok T.F_Node_outs sc_Node_outs (fun vs H Q E h => ?_) (fun cdv A outer s H vs Q E hr h => ?_)
  · obtain ⟨a, n, rfl, _⟩ := h
    rfl
  · obtain ⟨a, n, rfl, ⟨dx, ki, ko, kr, te, rs, h1, h2, h3⟩, k⟩ := h
    refine ⟨_, PSs.nox (pss_one (ps_ret (pe_callTy call_list_of (by rfl) T.z_list boot_list (pa_cons (pe_fld (pv 0) rfl) pa_nil)))), ?_⟩
    exact ⟨_, rfl, a, _, _, _, _, rfl, h1, T.c_Node, T.n_Node_kept_outs, rfl, ko, _, rfl, .inl (SqL.of h2.o), fun l hl => k l _ (Same.new hl) upd_same⟩
theorem ok_Node_names (T : Txt K mg) : FnOk P w K mg base CX0 1 (f_Node_names K) (fdAt K (f_Node_names K)) P_Node_names (spNdL K ND.names) := by
  refine FunD.ok T.F_Node_names sc_Node_names (fun vs H Q E h => ?_) (fun cdv A outer s H vs Q E hr h => ?_)
  · obtain ⟨a, n, rfl, _⟩ := h
    rfl
  · obtain ⟨a, n, rfl, ⟨dx, ki, ko, kr, te, rs, h1, h2, h3⟩, k⟩ := h
    refine ⟨_, PSs.nox (pss_one (ps_ret (pe_callTy (call_listD (by rfl)) (by rfl) T.z_list boot_list (pa_cons (pe_fld (pv 0) rfl) pa_nil)))), ?_⟩
    refine ⟨_, rfl, a, _, _, _, _, rfl, h1, T.c_Node, T.n_Node_tellers, rfl, te, _, rfl, .inl h3, fun l hl => k l _ (Same.new hl) ?_⟩
    rw [upd_same]
    have e : (tks n.ins rs).map (fun kv => kV kv.1) = n.names.map .str := by
      unfold ND.names
      rw [← rs_tell h2.e]
      simp [tks, kV]
      rfl
    rw [e]
def spNdR (K : PySem.W.Frag) : Sp := fun vs H Q _ => ∃ a n, vs = [V.ref a] ∧ NdO K H a n ∧ ∀ l (rs : List PR) H', Same H H' → H' l = some (.lst (rs.map fun p => .ref p.1)) → rs.map (·.2) = n.rows → (∀ p, p ∈ rs → EqO K H' p.1 p.2) → Q (.ref l) H'
theorem ok_Node_rows (T : Txt K mg) : FnOk P w K mg base CX0 1 (f_Node_rows K) (fdAt K (f_Node_rows K)) P_Node_rows (spNdR K) := by
  refine FunD.ok T.F_Node_rows sc_Node_rows (fun vs H Q E h => ?_) (fun cdv A outer s H vs Q E hr h => ?_)
  · obtain ⟨a, n, rfl, _⟩ := h
    rfl
  · obtain ⟨a, n, rfl, ⟨dx, ki, ko, kr, te, rs, h1, h2, h3⟩, k⟩ := h
    refine ⟨_, PSs.nox (pss_one (ps_ret (pe_callTy call_list_of (by rfl) T.z_list boot_list (pa_cons (pe_fld (pv 0) rfl) pa_nil)))), ?_⟩
    exact ⟨_, rfl, a, _, _, _, _, rfl, h1, T.c_Node, T.n_Node_kept_rows, rfl, kr, _, rfl, .inl (SqL.of h2.r), fun l hl => k l rs _ (Same.new hl) upd_same h2.e fun p hp => (h2.eq p hp).mono (Same.new hl)⟩
end
end K99
/-! K13 -/
namespace K99
open PySem PySem.Spec PyProof.Rows L2
/-! ### while a node's object is made -/
section
variable {K : PySem.W.Frag} {H H' : Hp} {a C dx : Addr} {fs : List (Str × V)}
theorem SqT.keepI (h : H a = some (.ins C dx fs)) (s : SameX a H H') {b : Addr} {xs : List V} (q : SqT K H b xs) : SqT K H' b xs := by
  have ne : ∀ {u : HO}, H b = some u → (∀ D dy gs, u ≠ .ins D dy gs) → H' b = some u := fun {u} e n => s _ _ (fun z => by
    subst z
    rw [h] at e
    exact n _ _ _ (Option.some.inj e).symm) e
  rcases q with (q | ⟨o, q⟩) | q
  · exact .inl (.inl (ne q fun _ _ _ z => by cases z))
  · exact .inl (.inr ⟨o, ne q fun _ _ _ z => by cases z⟩)
  · exact .inr q
theorem lst_keepI (h : H a = some (.ins C dx fs)) (s : SameX a H H') {b : Addr} {xs : List V} (q : H b = some (.lst xs)) : H' b = some (.lst xs) := s _ _ (fun z => by
  subst z
  rw [h] at q
  cases q) q
theorem dk_keepI (h : H a = some (.ins C dx fs)) (s : SameX a H H') {b : Addr} {kvs : List (Key × V)} (q : H b = some (.dK kvs)) : H' b = some (.dK kvs) := s _ _ (fun z => by
  subst z
  rw [h] at q
  cases q) q
theorem ins_keepI (h : H a = some (.ins C dx fs)) (s : SameX a H H') {b D dy : Addr} {gs : List (Str × V)} (n : C ≠ D) (q : H b = some (.ins D dy gs)) : H' b = some (.ins D dy gs) := s _ _ (fun z => by
  subst z
  rw [h] at q
  injection q with q
  injection q with q1 q2 q3
  exact n q1) q
theorem TmD.keepI (h : H a = some (.ins C dx fs)) (s : SameX a H H') : ∀ {t : Tm} {b : Addr}, TmD K H b t → TmD K H' b t
  | .nm _, _, q => SqT.keepI h s q
  | .two _ _, _, ⟨b, c, h1, h2, h3⟩ => ⟨b, c, SqT.keepI h s h1, TmD.keepI h s h2, SqT.keepI h s h3⟩
theorem RwD.keepI (h : H a = some (.ins C dx fs)) (s : SameX a H H') {r : Rw} {b : Addr} (q : RwD K H b r) : RwD K H' b r := by
  cases r with
  | bef x v b => exact SqT.keepI h s q
  | call x c b k =>
    obtain ⟨o, g, h1, h2, h3⟩ := q
    exact ⟨o, g, SqT.keepI h s h1, SqT.keepI h s h2, SqT.keepI h s h3⟩
  | pln x t =>
    obtain ⟨d, h1, h2⟩ := q
    exact ⟨d, SqT.keepI h s h1, TmD.keepI h s h2⟩
theorem TmO.keepN {mg : Str → Option Value} (T : Txt K mg) (h : H a = some (.ins (A_Node K) dx fs)) (s : SameX a H H') : ∀ {t : Tm} {b : Addr}, TmO K H b t → TmO K H' b t
  | .nm _, _, ⟨dx, q⟩ => ⟨dx, ins_keepI h s T.ne_Node_Name q⟩
  | .two _ _, _, ⟨dx, b, c, dc, h1, h2, h3⟩ => ⟨dx, b, c, dc, ins_keepI h s T.ne_Node_Two h1, TmO.keepN T h s h2, ins_keepI h s T.ne_Node_Name h3⟩
theorem EqO.keepN {mg : Str → Option Value} (T : Txt K mg) (h : H a = some (.ins (A_Node K) dx fs)) (s : SameX a H H') {r : Rw} {b : Addr} (q : EqO K H b r) : EqO K H' b r := by
  obtain ⟨d, q1, q2⟩ := q
  refine ⟨d, q1.keepI h s, ?_⟩
  cases r with
  | bef x v b =>
    obtain ⟨dy, q2⟩ := q2
    exact ⟨dy, ins_keepI h s T.ne_Node_Before q2⟩
  | call x c b k =>
    obtain ⟨dy, q2⟩ := q2
    exact ⟨dy, ins_keepI h s T.ne_Node_Call q2⟩
  | pln x t =>
    obtain ⟨dy, k, q2, q3⟩ := q2
    exact ⟨dy, k, ins_keepI h s T.ne_Node_Plain q2, TmO.keepN T h s q3⟩
end
theorem paired_rs {K : PySem.W.Frag} {H : Hp} {eqs : List V} {ds : List PR} (h : Paired (fun v (p : PR) => ∃ b, v = .ref b ∧ EqO K H b p.2) eqs ds) : ∃ rs : List PR, eqs = rs.map (fun p => .ref p.1) ∧ rs.map (·.2) = ds.map (·.2) ∧ ∀ p, p ∈ rs → EqO K H p.1 p.2 := by
  induction h with
  | nil => exact ⟨[], rfl, rfl, fun _ h => by cases h⟩
  | cons q r ih =>
    obtain ⟨b, rfl, o⟩ := q
    obtain ⟨rs, rfl, e2, e3⟩ := ih
    rename_i d _
    refine ⟨(b, d.2) :: rs, rfl, by simp [e2], fun p hp => ?_⟩
    rcases List.mem_cons.mp hp with rfl | hp
    · exact o
    · exact e3 p hp
section
variable {P : Program} {w : World} {K : PySem.W.Frag} {mg : Str → Option Value} {base : Heap}
def spNodeInit (K : PySem.W.Frag) (n : ND) : Sp := fun vs H Q _ => ∃ (a i o r dx : Addr) (ds : List PR) (H0 : Hp), vs = [V.ref a, .str n.name, .ref i, .ref o, .ref r] ∧ H0 a = none ∧ Same H0 H ∧ H a = some (.ins (A_Node K) dx []) ∧
  Sq K H0 i (n.ins.map .str) ∧ Sq K H0 o [.str n.out] ∧ Sq K H0 r (ds.map fun p => .ref p.1) ∧ ds.map (·.2) = n.rows ∧ (∀ p, p ∈ ds → RwD K H0 p.1 p.2) ∧ n.oks ∧ ∀ H', SameX a H H' → NdO K H' a n → Q .non H'
theorem ok_Node_init (T : Txt K mg) (n : ND) : FnOk P w K mg base CX0 55 (f_Node_init K) (fdAt K (f_Node_init K)) P_Node_init (spNodeInit K n) := by
  refine FunD.ok T.F_Node_init sc_Node_init (fun vs H Q E h => ?_) (fun cdv A outer s H vs Q E hr h => ?_)
  · obtain ⟨a, i, o, r, dx, ds, H0, rfl, _⟩ := h
    rfl
  · obtain ⟨a, i, o, r, dx, ds, H0, rfl, h0, s0, h1, q1, q2, q3, q4, q5, ok, k⟩ := h
    refine ⟨_, PSs.nox (pss_cons (ps_if (pt_not (pt_val (pe_call (ok_is_name T) (hr.mono (by first | decide | omega)) (by rfl) T.g_is_name T.F_is_name.kp T.b_is_name .nil pass0 (pa_cons (pv 1) pa_nil)))) pB pss_nil) (pss_cons (ps_expr (pe_call (ok_need_names T) (hr.mono (by first | decide | omega)) (by rfl) T.g_need_names T.F_need_names.kp T.b_need_names .nil pass0 (pa_cons (pv 2) pa_nil))) (pss_cons (ps_expr (pe_call (ok_need_names T) (hr.mono (by first | decide | omega)) (by rfl) T.g_need_names T.F_need_names.kp T.b_need_names .nil pass0 (pa_cons (pv 3) pa_nil))) (pss_cons (ps_fld (pv 0) (pv 1) rfl) (pss_cons (ps_fld (pv 0) (pe_callTy call_list_of (by rfl) T.z_list boot_list (pa_cons (pv 2) pa_nil)) rfl) (pss_cons (ps_fld (pv 0) (pe_callTy call_list_of (by rfl) T.z_list boot_list (pa_cons (pv 3) pa_nil)) rfl) (pss_cons (ps_fld (pv 0) (pe_call (ok_equations_of T) (hr.mono (by first | decide | omega)) (by rfl) T.g_equations_of T.F_equations_of.kp T.b_equations_of .nil pass0 (pa_cons (pv 4) pa_nil)) rfl) (pss_cons (ps_fld (pv 0) pe_dnewK rfl) (pss_cons (ps_expr (pe_meth0 (pv 0) T.c_Node T.m_Node_take_tellers (ok_Node_take_tellers T) (hr.mono (by first | decide | omega)) T.b_Node_take_tellers .nil pass0)) (pss_one (ps_expr (pe_meth0 (pv 0) T.c_Node T.m_Node_need_told (ok_Node_need_told T) (hr.mono (by first | decide | omega)) T.b_Node_need_told .nil pass0)))))))))))), ?_⟩
    refine ⟨_, rfl, n.name, rfl, ok.nm, fun H1 s1 => ⟨true, rfl, iteF ?_⟩⟩
    have nd := ok.nd
    unfold ND.names at nd
    refine ⟨_, rfl, i, n.ins, rfl, q1.mono (s0.trans s1), ok.ins0, (List.nodup_append.mp nd).1, ok.insP, Nat.le_trans ok.insL (by decide), fun H2 s2 => ?_⟩
    refine ⟨_, rfl, o, [n.out], rfl, q2.mono ((s0.trans s1).trans s2), by simp, by simp, fun x hx => ?_, by show 1 ≤ 1000; decide, fun H3 s3 => ?_⟩
    · rcases List.mem_singleton.mp hx with rfl
      exact ok.outP
    have t3 := (s1.trans s2).trans s3
    refine ⟨_, rfl, _, rfl, a, _, _, _, rfl, t3 _ _ h1, T.c_Node, T.n_Node_name, (by show 0 < 1000; decide), ?_⟩
    have x3 : SameX a H (upd H3 a (.ins (A_Node K) dx [("name", .str n.name)])) := SameX.put (Same.x t3)
    have y3 := SameX.of (SameX.trans (Same.x s0) x3) h0
    refine ⟨_, rfl, i, _, rfl, q1.mono y3, fun ki hki => ?_⟩
    have nk1 : a ≠ ki := fun e => by
      subst e
      rw [upd_same] at hki
      cases hki
    refine ⟨_, rfl, a, _, _, _, rfl, by rw [upd_ne nk1]; exact upd_same, T.c_Node, T.n_Node_kept_inputs, (by show 1 < 1000; decide), ?_⟩
    have x4 : SameX a H (upd (upd (upd H3 a (.ins (A_Node K) dx [("name", .str n.name)])) ki (.lst (n.ins.map .str))) a (.ins (A_Node K) dx [("name", .str n.name), ("kept_inputs", .ref ki)])) := SameX.put (SameX.trans x3 (Same.x (Same.new hki)))
    have f4 : upd (upd (upd H3 a (.ins (A_Node K) dx [("name", .str n.name)])) ki (.lst (n.ins.map .str))) a (.ins (A_Node K) dx [("name", .str n.name), ("kept_inputs", .ref ki)]) ki = some (.lst (n.ins.map .str)) := by
      rw [upd_ne nk1.symm]
      exact upd_same
    have g4 : upd (upd (upd H3 a (.ins (A_Node K) dx [("name", .str n.name)])) ki (.lst (n.ins.map .str))) a (.ins (A_Node K) dx [("name", .str n.name), ("kept_inputs", .ref ki)]) a = some (.ins (A_Node K) dx [("name", .str n.name), ("kept_inputs", .ref ki)]) := upd_same
    show tSeq _ _ _ _ (upd (upd (upd H3 a (.ins (A_Node K) dx [("name", .str n.name)])) ki (.lst (n.ins.map .str))) a (.ins (A_Node K) dx [("name", .str n.name), ("kept_inputs", .ref ki)]))
    generalize upd (upd (upd H3 a (.ins (A_Node K) dx [("name", .str n.name)])) ki (.lst (n.ins.map .str))) a (.ins (A_Node K) dx [("name", .str n.name), ("kept_inputs", .ref ki)]) = H4 at x4 f4 g4 ⊢
    have y4 := SameX.of (SameX.trans (Same.x s0) x4) h0
    refine ⟨_, rfl, o, _, rfl, q2.mono y4, fun ko hko => ?_⟩
    have nk2 : a ≠ ko := fun e => by
      subst e
      rw [g4] at hko
      cases hko
    have nk3 : ki ≠ ko := fun e => by
      subst e
      rw [f4] at hko
      cases hko
    refine ⟨_, rfl, a, _, _, _, rfl, by rw [upd_ne nk2]; exact g4, T.c_Node, T.n_Node_kept_outs, (by show 2 < 1000; decide), ?_⟩
    have x5 : SameX a H (upd (upd H4 ko (.lst [.str n.out])) a (.ins (A_Node K) dx [("name", .str n.name), ("kept_inputs", .ref ki), ("kept_outs", .ref ko)])) := SameX.put (SameX.trans x4 (Same.x (Same.new hko)))
    have f5 : upd (upd H4 ko (.lst [.str n.out])) a (.ins (A_Node K) dx [("name", .str n.name), ("kept_inputs", .ref ki), ("kept_outs", .ref ko)]) ko = some (.lst [.str n.out]) := by
      rw [upd_ne nk2.symm]
      exact upd_same
    have f5i : upd (upd H4 ko (.lst [.str n.out])) a (.ins (A_Node K) dx [("name", .str n.name), ("kept_inputs", .ref ki), ("kept_outs", .ref ko)]) ki = some (.lst (n.ins.map .str)) := by
      rw [upd_ne nk1.symm, upd_ne nk3]
      exact f4
    have g5 : upd (upd H4 ko (.lst [.str n.out])) a (.ins (A_Node K) dx [("name", .str n.name), ("kept_inputs", .ref ki), ("kept_outs", .ref ko)]) a = some (.ins (A_Node K) dx [("name", .str n.name), ("kept_inputs", .ref ki), ("kept_outs", .ref ko)]) := upd_same
    show tSeq _ _ _ _ (upd (upd H4 ko (.lst [.str n.out])) a (.ins (A_Node K) dx [("name", .str n.name), ("kept_inputs", .ref ki), ("kept_outs", .ref ko)]))
    generalize upd (upd H4 ko (.lst [.str n.out])) a (.ins (A_Node K) dx [("name", .str n.name), ("kept_inputs", .ref ki), ("kept_outs", .ref ko)]) = H5 at x5 f5 f5i g5 ⊢
    have y5 := SameX.of (SameX.trans (Same.x s0) x5) h0
    refine ⟨_, rfl, r, ds, rfl, q3.mono y5, ?_, fun p hp => ⟨(q5 p hp).mono y5, ok.rws _ (rs_in q4 hp)⟩, fun kr eqs H6 s6 hkr pr => ?_⟩
    · exact rs_len q4 ok
    refine ⟨_, rfl, a, _, _, _, rfl, s6 _ _ g5, T.c_Node, T.n_Node_kept_rows, (by show 3 < 1000; decide), ?_⟩
    obtain ⟨rs, er, e2, e3⟩ := paired_rs pr
    subst er
    have x7 : SameX a H6 (upd H6 a (.ins (A_Node K) dx [("name", .str n.name), ("kept_inputs", .ref ki), ("kept_outs", .ref ko), ("kept_rows", .ref kr)])) := SameX.upd2
    have g6 := s6 _ _ g5
    have x6 : SameX a H (upd H6 a (.ins (A_Node K) dx [("name", .str n.name), ("kept_inputs", .ref ki), ("kept_outs", .ref ko), ("kept_rows", .ref kr)])) := SameX.put (SameX.trans x5 (Same.x s6))
    have P6 : NdP K (upd H6 a (.ins (A_Node K) dx [("name", .str n.name), ("kept_inputs", .ref ki), ("kept_outs", .ref ko), ("kept_rows", .ref kr)])) n ki ko kr rs :=
      ⟨lst_keepI g6 x7 (s6 _ _ f5i), lst_keepI g6 x7 (s6 _ _ f5), lst_keepI g6 x7 hkr, by rw [e2, q4], fun p hp => EqO.keepN T g6 x7 (e3 p hp)⟩
    have g7 : upd H6 a (.ins (A_Node K) dx [("name", .str n.name), ("kept_inputs", .ref ki), ("kept_outs", .ref ko), ("kept_rows", .ref kr)]) a = some (.ins (A_Node K) dx [("name", .str n.name), ("kept_inputs", .ref ki), ("kept_outs", .ref ko), ("kept_rows", .ref kr)]) := upd_same
    show tSeq _ _ _ _ (upd H6 a (.ins (A_Node K) dx [("name", .str n.name), ("kept_inputs", .ref ki), ("kept_outs", .ref ko), ("kept_rows", .ref kr)]))
    generalize upd H6 a (.ins (A_Node K) dx [("name", .str n.name), ("kept_inputs", .ref ki), ("kept_outs", .ref ko), ("kept_rows", .ref kr)]) = H7 at x6 P6 g7 ⊢
    clear x7 g6
    intro te hte
    have nt : a ≠ te := fun e => by
      subst e
      rw [g7] at hte
      cases hte
    refine ⟨_, rfl, a, _, _, _, rfl, by rw [upd_ne nt]; exact g7, T.c_Node, T.n_Node_tellers, (by show 4 < 1000; decide), ?_⟩
    have s8 : Same H7 (upd H7 te (.dK [])) := Same.new hte
    have g8 := s8 _ _ g7
    have x9 : SameX a (upd H7 te (.dK [])) (upd (upd H7 te (.dK [])) a (.ins (A_Node K) dx (nf n.name ki ko kr te))) := SameX.upd2
    have P8 := P6.mono s8
    have P9 : NdP K (upd (upd H7 te (.dK [])) a (.ins (A_Node K) dx (nf n.name ki ko kr te))) n ki ko kr rs :=
      ⟨lst_keepI g8 x9 P8.i, lst_keepI g8 x9 P8.o, lst_keepI g8 x9 P8.r, P8.e, fun p hp => EqO.keepN T g8 x9 (P8.eq p hp)⟩
    have d9 : upd (upd H7 te (.dK [])) a (.ins (A_Node K) dx (nf n.name ki ko kr te)) te = some (.dK []) := dk_keepI g8 x9 upd_same
    have xx : SameX a H (upd (upd H7 te (.dK [])) a (.ins (A_Node K) dx (nf n.name ki ko kr te))) := SameX.put (SameX.trans x6 (Same.x s8))
    have g9 : upd (upd H7 te (.dK [])) a (.ins (A_Node K) dx (nf n.name ki ko kr te)) a = some (.ins (A_Node K) dx (nf n.name ki ko kr te)) := upd_same
    show tSeq _ _ _ _ (upd (upd H7 te (.dK [])) a (.ins (A_Node K) dx (nf n.name ki ko kr te)))
    have hte0 : H te = none := by
      cases hq : H te with
      | none => rfl
      | some u =>
        have := x6 te u nt.symm hq
        rw [hte] at this
        cases this
    generalize upd (upd H7 te (.dK [])) a (.ins (A_Node K) dx (nf n.name ki ko kr te)) = H9 at xx P9 d9 g9 ⊢
    refine ⟨_, rfl, a, dx, _, rfl, g9, rfl, a, dx, n.name, ki, ko, kr, te, rs, n, rfl, g9, P9, d9, ok, fun H10 s10 d10 => ?_⟩
    have N10 : NdO K H10 a n := ⟨dx, ki, ko, kr, te, rs, s10 _ _ nt g9, P9.keepD s10 d9, d10⟩
    have x10 : SameX a H H10 := fun b u hb e => by
      have hbt : b ≠ te := fun z => by
        subst z
        rw [hte0] at e
        cases e
      exact s10 _ _ hbt (xx _ _ hb e)
    refine ⟨_, rfl, a, dx, _, rfl, s10 _ _ nt g9, rfl, a, n, rfl, N10, ok, fun H11 s11 => ?_⟩
    exact k H11 (SameX.trans x10 (Same.x s11)) (N10.mono s11)
end
end K99
/-! K14 -/
namespace K99
open PySem PySem.Spec PyProof.Rows L2
/-- a node told as a tuple -/
def NdD (K : PySem.W.Frag) (H : Hp) (a : Addr) (n : ND) : Prop := ∃ (i o r : Addr) (ds : List PR), SqT K H a [.str n.name, .ref i, .ref o, .ref r] ∧ SqT K H i (n.ins.map .str) ∧ SqT K H o [.str n.out] ∧ SqT K H r (ds.map fun p => .ref p.1) ∧ ds.map (·.2) = n.rows ∧ ∀ p, p ∈ ds → RwD K H p.1 p.2
theorem NdD.monoN {K : PySem.W.Frag} {H H' : Hp} {a : Addr} {n : ND} (s : SameN H H') (h : NdD K H a n) : NdD K H' a n := by
  obtain ⟨i, o, r, ds, h1, h2, h3, h4, h5, h6⟩ := h
  exact ⟨i, o, r, ds, SameN.sqt s h1, SameN.sqt s h2, SameN.sqt s h3, SameN.sqt s h4, h5, fun p hp => (h6 p hp).monoN s⟩
theorem NdD.mono {K : PySem.W.Frag} {H H' : Hp} {a : Addr} {n : ND} (s : Same H H') (h : NdD K H a n) : NdD K H' a n := h.monoN (Same.n s)
section
variable {P : Program} {w : World} {K : PySem.W.Frag} {mg : Str → Option Value} {base : Heap}
def spNodeOf (K : PySem.W.Frag) (n : ND) : Sp := fun vs H Q _ => ∃ a, vs = [V.ref a] ∧ NdD K H a n ∧ n.oks ∧ ∀ b H', Same H H' → NdO K H' b n → Q (.ref b) H'
theorem ok_node_of (T : Txt K mg) (n : ND) : FnOk P w K mg base CX0 60 (f_node_of K) (fdAt K (f_node_of K)) P_node_of (spNodeOf K n) := by
  obtain ⟨t_TOLD_THINGS, e_TOLD_THINGS⟩ := T.i_TOLD_THINGS
  refine FunD.ok T.F_node_of sc_node_of (fun vs H Q E h => ?_) (fun cdv A outer s H vs Q E hr h => ?_)
  · obtain ⟨a, rfl, _⟩ := h
    rfl
  · obtain ⟨a, rfl, d, ok, k⟩ := h
    refine ⟨_, PSs.nox (pss_cons (ps_if (PW.pt (pw_or (pt_not (pt_val (pe_callB call_isi (by rfl) T.z_isinstance boot_isinstance (pa_cons (pv 0) (pa_cons (pe_bltn (v := .ty "tuple") (by rfl) T.z_tuple boot_tuple rfl) pa_nil))))) (pw_or1 (pt_cmpR op_ne (pe_callB call_len_seq (by rfl) T.z_len PySem.boot_len (pa_cons (pv 0) pa_nil)) (pe_glob (v := .int 4) rfl e_TOLD_THINGS ⟨t_TOLD_THINGS, rfl⟩) (by rfl))))) pB pss_nil) (pss_cons (ps_if (pt_not (pt_val (pe_callB (cr_all (by rfl)) (by rfl) T.z_all (by decide +kernel) (pa_cons (pe_lc (own := [("thing", 2)]) (by rfl) sc_node_of.nd (pi_tup (pe_slice sl_tupA (pv 0) (po_some pe_int) po_none)) (blkOk_by (N := N_node_of) (sc := defScope s_node_of) (by decide +kernel)) (fun _ _ _ _ _ => (pg_name (i := 2) sc_node_of.nd rfl (by first | exact Or.inl rfl | exact Or.inr rfl))) (fun _ _ _ _ _ => pts_nil) (fun _ _ _ _ _ => (pe_callB (r := rIsi K) call_isi (by rfl) T.z_isinstance boot_isinstance (pa_cons (pv 2) (pa_cons (pe_bltn (v := .ty "tuple") (by rfl) T.z_tuple boot_tuple rfl) pa_nil))))) pa_nil)))) pB pss_nil) (pss_one (ps_try_thru (pss_one (ps_set (i := 1) sc_node_of.nd rfl (by first | exact Or.inl rfl | exact Or.inr rfl) (pe_make T.mk_Node (ok_Node_init T n) (hr.mono (by first | decide | omega)) rfl T.g_Node T.b_Node_init .nil pass0 (pa_cons (pe_ix ix_tup (pv 0) pe_int (fun _ _ => rfl)) (pa_cons (pe_ix ix_tup (pv 0) pe_int (fun _ _ => rfl)) (pa_cons (pe_ix ix_tup (pv 0) pe_int (fun _ _ => rfl)) (pa_cons (pe_ix ix_tup (pv 0) pe_int (fun _ _ => rfl)) pa_nil))))))) (pss_one (ps_ret (pv 1))))))), ?_⟩
    obtain ⟨i, o, r, ds, h1, h2, h3, h4, h5, h6⟩ := id d
    refine ⟨_, rfl, _, _, _, _, true, rfl, .ty _, tyx_sqt h1, kit_ty (by decide +kernel), true, rfl, iteF ?_⟩
    refine ⟨_, rfl, a, _, rfl, .inr h1, rfl, false, rfl, iteF ?_⟩
    refine ⟨_, rfl, 1, rfl, a, _, rfl, h1, fun h => absurd h.1 (by show ¬ (1 : Nat) = 0; decide), fun _ q hq => ?_⟩
    have s1 : Same H (upd H q (.tup (cutV [.str n.name, .ref i, .ref o, .ref r] (some 1) none))) := Same.new hq
    have e1 : SqT K (upd H q (.tup (cutV [.str n.name, .ref i, .ref o, .ref r] (some 1) none))) q ([i, o, r].map V.ref) := SqT.of upd_same
    generalize upd H q (.tup (cutV [.str n.name, .ref i, .ref o, .ref r] (some 1) none)) = H1 at s1 e1 ⊢
    refine ⟨q, rfl, ⟨_, e1⟩, fun D hD => ?_⟩
    refine lc_flat (wm_tup [i, o, r] V.ref) (fun _ => true) (fun _ => .bl true) hD (by show 3 ≤ 1000000; decide) (fun H' s' => Same.sqt s' e1) (fun _ => rfl) (fun a H' _ _ Q' q => q H' (Same.refl _)) (fun p H' hp _ s2 Q' q' => ?_) (fun H2 s2 e2 => ?_)
    · have ht : ∃ xs, SqT K H' p xs := by
        rcases List.mem_cons.mp hp with rfl | hp
        · exact ⟨_, Same.sqt (s1.trans s2) h2⟩
        · rcases List.mem_cons.mp hp with rfl | hp
          · exact ⟨_, Same.sqt (s1.trans s2) h3⟩
          · rcases List.mem_cons.mp hp with rfl | hp
            · exact ⟨_, Same.sqt (s1.trans s2) h4⟩
            · cases hp
      obtain ⟨xs, ht⟩ := ht
      exact ⟨_, rfl, _, _, _, _, true, rfl, .ty _, tyx_sqt ht, kit_ty (by decide +kernel), q' H' (Same.refl _)⟩
    refine ⟨D, [i, o, r].map fun _ => true, rfl, SqL.of (by rw [e2, all_true]), true, rfl, iteF ?_⟩
    have s12 := s1.trans s2
    have g1 := Same.sqt s12 h1
    refine ⟨_, rfl, a, _, 0, _, rfl, rfl, g1, rfl, _, rfl, a, _, 1, _, rfl, rfl, g1, rfl, _, rfl, a, _, 2, _, rfl, rfl, g1, rfl, _, rfl, a, _, 3, _, rfl, rfl, g1, rfl, ?_⟩
    intro y dy hy hdy hn
    refine ⟨y, i, o, r, dy, ds, H2, rfl, hy, (Same.new hdy).trans (Same.new (by rw [upd_ne hn.symm]; exact hy)), upd_same, .inr (Same.sqt s12 h2), .inr (Same.sqt s12 h3), .inr (Same.sqt s12 h4), h5, fun p hp => (h6 p hp).mono s12, ok, fun H3 s3 o3 => ⟨rfl, ?_⟩⟩
    exact ⟨_, rfl, k y H3 (s12.trans (new_same hy hdy s3)) o3⟩
end
end K99
/-! K15 -/
namespace K99
open PySem PySem.Spec PyProof.Rows L2
/-! ### chains of nodes -/
def callOf : Rw → Option (Str × Str)
  | .call x c _ _ => some (x, c)
  | _ => none
def ND.calls (n : ND) : List (Str × Str) := n.rows.filterMap callOf
structure Ch (pd : List ND) : Prop where
  len : pd.length ≤ 8
  nd : (pd.map ND.name).Nodup
  oks : ∀ n, n ∈ pd → n.oks
  nms : ∀ n, n ∈ pd → ∀ x, x ∈ n.names → Nm x
  calls : ∀ i n, pd[i]? = some n → ∀ x c b k, Rw.call x c b k ∈ n.rows → ∃ j m, i = j + 1 ∧ pd[j]? = some m ∧ c = m.name ∧ k = m.ins.length
  some_ : ∀ j n, pd[j + 1]? = some n → n.calls ≠ []
  cnt : ∀ n, n ∈ pd → n.calls.length ≤ 20
abbrev PN := Addr × ND
def PgO (K : PySem.W.Frag) (H : Hp) (a : Addr) (pd : List ND) : Prop := Ch pd ∧ ∃ (dx d : Addr) (as : List PN), H a = some (.ins (A_Program K) dx [("by_name", .ref d)]) ∧ H d = some (.dK (as.map fun p => ((Sum.inr p.2.name : Key), V.ref p.1))) ∧ as.map (·.2) = pd ∧ ∀ p, p ∈ as → NdO K H p.1 p.2
theorem PgO.mono {K : PySem.W.Frag} {H H' : Hp} {a : Addr} {pd : List ND} (s : Same H H') (h : PgO K H a pd) : PgO K H' a pd := by
  obtain ⟨c, dx, d, as, h1, h2, h3, h4⟩ := h
  exact ⟨c, dx, d, as, s _ _ h1, s _ _ h2, h3, fun p hp => (h4 p hp).mono s⟩
theorem valV_at {α : Type} {f : α → Str} {g : α → V} : ∀ {as : List α}, (as.map f).Nodup → ∀ {p : α}, p ∈ as → valV (as.map fun p => ((Sum.inr (f p) : Key), g p)) (.inr (f p)) = some (g p)
  | [], _, _, h => by cases h
  | q :: r, hn, p, h => by
    rw [List.map_cons, List.nodup_cons] at hn
    by_cases e : f q = f p
    · rcases List.mem_cons.mp h with rfl | h
      · rw [List.map_cons, valV_pos rfl]
      · exact absurd (e ▸ List.mem_map_of_mem h) hn.1
    · rcases List.mem_cons.mp h with rfl | h
      · exact absurd rfl e
      · rw [List.map_cons, valV_neg (fun z => e (by injection z))]
        exact valV_at hn.2 h
theorem valV_no {α : Type} {f : α → Str} {g : α → V} {as : List α} {x : Str} (h : x ∉ as.map f) : valV (as.map fun p => ((Sum.inr (f p) : Key), g p)) (.inr x) = none := valV_none fun e => by
  rw [List.map_map] at e
  obtain ⟨y, hy, e⟩ := List.mem_map.mp e
  injection e with e
  exact h (e ▸ List.mem_map_of_mem hy)
theorem as_names {as : List PN} {pd : List ND} (e : as.map (·.2) = pd) : as.map (fun p => p.2.name) = pd.map ND.name := by
  rw [← e, List.map_map]
  rfl
theorem as_in {as : List PN} {pd : List ND} (e : as.map (·.2) = pd) {n : ND} (h : n ∈ pd) : ∃ p, p ∈ as ∧ p.2 = n := by
  rw [← e] at h
  exact List.mem_map.mp h
section
variable {P : Program} {w : World} {K : PySem.W.Frag} {mg : Str → Option Value} {base : Heap}
def spNamed (K : PySem.W.Frag) : Sp := fun vs H Q _ => ∃ a n pd, vs = [V.ref a, .str n.name] ∧ PgO K H a pd ∧ n ∈ pd ∧ ∀ b, NdO K H b n → Q (.ref b) H
theorem ok_Program_named (T : Txt K mg) : FnOk P w K mg base CX0 1 (f_Program_named K) (fdAt K (f_Program_named K)) P_Program_named (spNamed K) := by
  refine FunD.ok T.F_Program_named sc_Program_named (fun vs H Q E h => ?_) (fun cdv A outer s H vs Q E hr h => ?_)
  · obtain ⟨a, n, pd, rfl, _⟩ := h
    rfl
  · obtain ⟨a, n, pd, rfl, ⟨c, dx, d, as, h1, h2, h3, h4⟩, hn, k⟩ := h
    refine ⟨_, PSs.nox (pss_cons (ps_if (PW.pt (pw_or (pt_not (pt_val (pe_callB call_isi (by rfl) T.z_isinstance boot_isinstance (pa_cons (pv 1) (pa_cons (pe_bltn (v := .ty "str") (by rfl) T.z_str boot_str rfl) pa_nil))))) (pw_or1 (pt_cmp (pc_dnotin (hu_of hr) (pv 1) (pe_fld (pv 0) rfl)))))) pB pss_nil) (pss_one (ps_ret (pe_dget (hu_of hr) (pe_fld (pv 0) rfl) (pv 1) (fun _ _ => rfl))))), ?_⟩
    obtain ⟨p, hp, rfl⟩ := as_in h3 hn
    have hv := valV_at (f := fun p : PN => p.2.name) (g := fun p : PN => V.ref p.1) (by rw [as_names h3]; exact c.nd) hp
    refine ⟨_, rfl, _, _, _, _, true, rfl, .ty _, .base (.str _), kit_ty (by decide +kernel), true, rfl, iteF ?_⟩
    refine ⟨_, rfl, _, rfl, a, _, _, _, _, rfl, h1, T.c_Program, T.n_Program_by_name, rfl, d, _, rfl, DGet.k (k := .inr p.2.name) h2, false, ?_, iteF ?_⟩
    · rw [hv]
      rfl
    · exact ⟨_, rfl, a, _, _, _, _, rfl, h1, T.c_Program, T.n_Program_by_name, rfl, _, rfl, d, _, rfl, by rw [← hv]; exact DGet.k (k := .inr p.2.name) h2, k p.1 (h4 p hp)⟩
abbrev PC := Addr × (Str × Str)
def spCallsIn (K : PySem.W.Frag) : Sp := fun vs H Q _ => ∃ a n pd, vs = [V.ref a, .str n.name] ∧ PgO K H a pd ∧ n ∈ pd ∧ ∀ l (ts : List PC) H', Same H H' → H' l = some (.lst (ts.map fun t => .ref t.1)) → ts.map (·.2) = n.calls → (∀ t, t ∈ ts → SqT K H' t.1 [.str t.2.1, .str t.2.2]) → Q (.ref l) H'
theorem ok_Program_calls_in (T : Txt K mg) : FnOk P w K mg base CX0 3 (f_Program_calls_in K) (fdAt K (f_Program_calls_in K)) P_Program_calls_in (spCallsIn K) := by
  refine FunD.ok T.F_Program_calls_in sc_Program_calls_in (fun vs H Q E h => ?_) (fun cdv A outer s H vs Q E hr h => ?_)
  · obtain ⟨a, n, pd, rfl, _⟩ := h
    rfl
  · obtain ⟨a, n, pd, rfl, pg, hn, k⟩ := h
    refine ⟨_, PSs.nox (pss_cons (ps_set (i := 2) sc_Program_calls_in.nd rfl (by first | exact Or.inl rfl | exact Or.inr rfl) (pe_lst pa_nil)) (pss_cons (ps_for PassesOwn.never rfl (pi_list (pe_meth0 (pe_meth (pv 0) T.c_Program T.m_Program_named (ok_Program_named T) (hr.mono (by first | decide | omega)) T.b_Program_named .nil pass0 (pa_cons (pv 1) pa_nil)) T.c_Node T.m_Node_rows (ok_Node_rows T) (hr.mono (by first | decide | omega)) T.b_Node_rows .nil pass0)) (pg_name (i := 3) sc_Program_calls_in.nd rfl (by first | exact Or.inl rfl | exact Or.inr rfl)) (pss_one (ps_if (pt_val (pe_um0 (p := fun _ => True) (fun d _ => me_is_call T d) (pv 3) (hr.mono (by first | decide | omega)) pass0)) (pss_cons (ps_asg (pe_um0 (p := fun _ => True) (fun d _ => me_told T d) (pv 3) (hr.mono (by first | decide | omega)) pass0) (pg_tup rfl (pgs_cons (pg_name (i := 4) sc_Program_calls_in.nd rfl (by first | exact Or.inl rfl | exact Or.inr rfl)) (pgs_cons (pg_name (i := 5) sc_Program_calls_in.nd rfl (by first | exact Or.inl rfl | exact Or.inr rfl)) (pgs_cons (pg_name (i := 6) sc_Program_calls_in.nd rfl (by first | exact Or.inl rfl | exact Or.inr rfl)) (pgs_cons (pg_name (i := 7) sc_Program_calls_in.nd rfl (by first | exact Or.inl rfl | exact Or.inr rfl)) pgs_nil)))))) (pss_one (ps_expr (pe_bm PySem.F.plainAttrs_list PySem.F.slot_list_append PySem.F.type_list_append mt_append (pv 2) (pa_cons (pe_tup (pa_cons (pe_ix ix_tup (pv 5) pe_int (fun _ _ => rfl)) (pa_cons (pv 6) pa_nil))) pa_nil))))) pss_nil))) (pss_one (ps_ret (pv 2))))), ?_⟩
    refine ⟨Nat.zero_le _, fun F hF => ?_⟩
    have s1 : Same H (upd H F (.lst [])) := Same.new hF
    have pg1 := pg.mono s1
    obtain ⟨c, dx, d, as, h1, h2, h3, h4⟩ := id pg1
    refine ⟨_, rfl, a, dx, _, rfl, h1, rfl, _, rfl, a, n, pd, rfl, pg1, hn, fun b nb => ?_⟩
    obtain ⟨dy, ki, ko, kr, te, rs0, g1, g2, g3⟩ := id nb
    refine ⟨b, dy, _, rfl, g1, rfl, b, n, rfl, nb, fun l rs H1 s2 hl e2 eq2 => ?_⟩
    refine ⟨l, rfl, ⟨_, SqL.of hl⟩, ?_⟩
    have ok := c.oks n hn
    have hf1 := s2 _ _ (upd_same (H := H) (a := F) (o := .lst []))
    have hlF : l ≠ F := fun e => by
      subst e
      rw [hf1] at hl
      have := HO.lst.inj (Option.some.inj hl)
      have hr : rs = [] := List.map_eq_nil_iff.mp this.symm
      subst hr
      have h0 : n.rows = [] := e2.symm
      have := ok.outT
      unfold ND.tells at this
      rw [h0] at this
      cases this
    have sF : SameX F H H1 := SameX.trans SameX.upd2 (Same.x s2)
    refine for_map (wm_list rs fun p => V.ref p.1) (fun pre σ H2 => SameX F H1 H2 ∧ (∃ x1 x2 x3 x4 x5, σ = [some (.ref a), some (.str n.name), some (.ref F), x1, x2, x3, x4, x5]) ∧ ∃ ts : List PC, H2 F = some (.lst (ts.map fun t => .ref t.1)) ∧ ts.map (·.2) = (pre.map (·.2)).filterMap callOf ∧ ∀ t, t ∈ ts → SqT K H2 t.1 [.str t.2.1, .str t.2.2])
      ⟨SameX.refl _ _, ⟨_, _, _, _, _, rfl⟩, [], hf1, rfl, fun _ h => by cases h⟩ (fun pre σ H2 q => SqL.of (q.1 _ _ hlF hl)) (fun pre p post σ H2 e q => ?_) (fun σ H2 q => ?_)
    · obtain ⟨q1, ⟨x1, x2, x3, x4, x5, rfl⟩, ts, q3, q4, q5⟩ := q
      have hp : p ∈ rs := by
        rw [e]
        simp
      have o2 : EqO K H2 p.1 p.2 := (eq2 p hp).monoN (SameX.nL q1 hf1)
      refine ⟨p.2, trivial, _, rfl, p.1, rfl, o2, p.1, rfl, o2, _, rfl, ?_⟩
      rw [List.map_append, List.filterMap_append]
      cases hr2 : p.2 with
      | bef x v b =>
        refine iteF ?_
        exact ⟨q1, ⟨_, _, _, _, _, rfl⟩, ts, q3, by rw [q4]; simp [hr2, callOf], q5⟩
      | pln x t =>
        refine iteF ?_
        exact ⟨q1, ⟨_, _, _, _, _, rfl⟩, ts, q3, by rw [q4]; simp [hr2, callOf], q5⟩
      | call x c2 b2 k2 =>
        refine iteT ?_
        rw [hr2] at o2
        refine ⟨.call x c2 b2 k2, trivial, _, rfl, p.1, rfl, o2, p.1, rfl, o2, fun dd hd => ?_⟩
        obtain ⟨o', g', d1, d2, d3⟩ := hd
        refine ⟨dd, _, rfl, d1, rfl, _, _, rfl, _, _, rfl, _, _, rfl, _, _, rfl, rfl, ?_⟩
        refine ⟨_, rfl, .inl ⟨rfl, _, SqL.of q3⟩, ?_⟩
        refine ⟨_, rfl, o', _, 0, _, rfl, rfl, d2, rfl, _, rfl, sz (n := 2) (by decide), fun t ht => ?_⟩
        have s5 : Same H2 (upd H2 t (.tup [.str x, .str c2])) := Same.new ht
        have f5 := s5 _ _ q3
        refine ⟨F, _, _, rfl, rfl, f5, ?_, SameX.put (SameX.trans q1 (Same.x s5)), ⟨_, _, _, _, _, rfl⟩, ts ++ [(t, (x, c2))], ?_, ?_, fun u hu => ?_⟩
        · have h5 := congrArg List.length q4
          have h6 := List.length_filterMap_le callOf (pre.map (·.2))
          have h7 := rs_len e2 ok
          rw [List.length_map] at h5 h6 ⊢
          rw [e] at h7
          simp at h7
          exact szl (by omega)
        · rw [upd_same]
          simp
        · rw [List.map_append, q4, List.map_cons, List.map_nil, List.map_cons, List.map_nil, hr2]
          rfl
        · have n6 : SameN (upd H2 t (.tup [.str x, .str c2])) (upd (upd H2 t (.tup [.str x, .str c2])) F (.lst (ts.map (fun t => V.ref t.1) ++ [.ref t]))) := SameN.lst f5
          rcases List.mem_append.mp hu with hu | hu
          · exact SameN.sqt n6 (Same.sqt s5 (q5 u hu))
          · rcases List.mem_singleton.mp hu with rfl
            exact SameN.sqt n6 (SqT.of upd_same)
    · obtain ⟨q1, ⟨x1, x2, x3, x4, x5, rfl⟩, ts, q3, q4, q5⟩ := q
      refine ⟨_, rfl, k F ts H2 (SameX.of (SameX.trans sF q1) hF) q3 ?_ q5⟩
      rw [q4, e2]
      rfl
end
end K99
/-! K16 -/
namespace K99
open PySem PySem.Spec PyProof.Rows L2
section
variable {K : PySem.W.Frag} {J : It} {G : Hp → Prop}
/-- a comprehension over the pairs of calls -/
theorem lc_pair {ts : List PC} (w : Walk J ts.length G (YMap ts fun t => V.ref t.1)) {i j : Nat} {tt : TT} {te : TE} {vs : List Nat} {σ : L2.St} {H1 : Hp} {D : Addr} {Qd : Hp → Prop} (f : PC → V) (hD : H1 D = none) (hz : ts.length ≤ 1000000)
    (hG : ∀ H, Same H1 H → G H) (hS : ∀ t, t ∈ ts → SqT K H1 t.1 [.str t.2.1, .str t.2.2]) (hw : ∀ x y, wipe (((wipe σ vs).set i (some x)).set j (some y)) vs = wipe σ vs) (ht : ∀ σ H (Q : Bool → Hp → Prop), Q true H → tt σ H Q)
    (he : ∀ t H, t ∈ ts → Same H1 H → ∀ Q : VK, (∀ H', Same H H' → Q (f t) H') → te (((wipe σ vs).set i (some (.str t.2.1))).set j (some (.str t.2.2))) H Q)
    (hd : ∀ H, Same H1 H → H D = some (.lst (ts.map f)) → Qd H) :
    ∃ W : Nat → Nat → Hp → Prop, (∃ m, W 0 m (upd H1 D (.lst []))) ∧ ∀ i' m H, W i' m H →
      (J.stop i' H ∧ Qd H) ∨ (J.go i' H ∧ ∃ Nx : Hp → Prop, (∀ H', Nx H' → ∃ m', m' < m ∧ W (i' + 1) m' H') ∧ ∀ x H', J.yld i' H x H' → gTup K 2 (gCons (gName i) (gCons (gName j) gNil)) x (wipe σ vs) H' fun σ2 H2 => wipe σ2 vs = wipe σ vs ∧ tt σ2 H2 fun b H3 =>
        if b = true then te σ2 H3 fun y H4 => ∃ acc, H4 D = some (.lst acc) ∧ acc.length < sizeLine ∧ Nx (upd H4 D (.lst (acc ++ [y]))) else Nx H3) := by
  refine lc_map w (fun pre H => Same H1 H ∧ H D = some (.lst (pre.map f))) ⟨Same.new hD, upd_same⟩ (fun pre H q => hG H q.1) (fun pre t post H ex q => ?_) fun H q => hd H q.1 q.2
  obtain ⟨s1, h1⟩ := q
  have hx : t ∈ ts := by
    rw [ex]
    simp
  have hl : pre.length ≤ 1000000 := by
    rw [ex] at hz
    simp at hz
    omega
  refine ⟨t.1, _, rfl, Same.sqt s1 (hS t hx), rfl, _, _, rfl, _, _, rfl, rfl, hw _ _, ht _ _ _ ?_⟩
  refine iteT (he t H hx s1 _ fun H3 s3 => ⟨_, s3 _ _ h1, szl (by rw [List.length_map]; exact hl), Same.mut (s1.trans s3) hD, ?_⟩)
  rw [upd_same, List.map_append]
  rfl
end
/-! ### the nodes below -/
def nmAt (pd : List ND) (j : Nat) : Str := ((pd[j]?).map ND.name).getD ""
theorem nmAt_some {pd : List ND} {j : Nat} {n : ND} (h : pd[j]? = some n) : nmAt pd j = n.name := by
  unfold nmAt
  rw [h]
  rfl
theorem at_lt {pd : List ND} {j : Nat} (h : j < pd.length) : ∃ n, pd[j]? = some n := ⟨pd[j], List.getElem?_eq_getElem h⟩
theorem nmAt_inj {pd : List ND} (h : (pd.map ND.name).Nodup) {i j : Nat} (hi : i < pd.length) (hj : j < pd.length) (e : nmAt pd i = nmAt pd j) : i = j := by
  obtain ⟨n, hn⟩ := at_lt hi
  obtain ⟨m, hm⟩ := at_lt hj
  rw [nmAt_some hn, nmAt_some hm] at e
  have h1 : (pd.map ND.name)[i]? = some n.name := by rw [List.getElem?_map, hn]; rfl
  have h2 : (pd.map ND.name)[j]? = some m.name := by rw [List.getElem?_map, hm]; rfl
  rw [← e] at h2
  exact (List.getElem?_inj (by rw [List.length_map]; exact hi) h).mp (h1.trans h2.symm)
theorem Ch.callsN {pd : List ND} (c : Ch pd) {j : Nat} {n : ND} (h : pd[j]? = some n) {p : Str × Str} (hp : p ∈ n.calls) : ∃ i m, j = i + 1 ∧ pd[i]? = some m ∧ p.2 = m.name := by
  obtain ⟨r, hr, e⟩ := List.mem_filterMap.mp hp
  cases r with
  | bef _ _ _ => cases e
  | pln _ _ => cases e
  | call x c2 b k =>
    injection e with e
    obtain ⟨i, m, h1, h2, h3, h4⟩ := c.calls j n h x c2 b k hr
    exact ⟨i, m, h1, h2, by rw [← e]; exact h3⟩
def wkN (pd : List ND) (i0 t : Nat) : List Str := (List.range t).map fun s => nmAt pd (i0 - 1 - s)
def wkK (xs : List Str) : List (Key × V) := xs.map fun x => ((Sum.inr x : Key), V.bl true)
structure BW (pd : List ND) (i0 t : Nat) (ws : List Str) : Prop where
  le : t ≤ i0
  all : ∀ w, w ∈ ws → ∃ s, s ≤ t ∧ s < i0 ∧ w = nmAt pd (i0 - 1 - s)
  last : t < i0 → ∃ ws', ws = ws' ++ [nmAt pd (i0 - 1 - t)]
  len : ws.length ≤ 20 * (t + 1)
theorem wkN_succ (pd : List ND) (i0 t : Nat) : wkN pd i0 (t + 1) = wkN pd i0 t ++ [nmAt pd (i0 - 1 - t)] := by
  unfold wkN
  rw [List.range_succ, List.map_append]
  rfl
theorem wkN_mem {pd : List ND} {i0 t : Nat} {x : Str} : x ∈ wkN pd i0 t ↔ ∃ s, s < t ∧ x = nmAt pd (i0 - 1 - s) := by
  unfold wkN
  rw [List.mem_map]
  constructor
  · rintro ⟨s, h1, h2⟩
    exact ⟨s, List.mem_range.mp h1, h2.symm⟩
  · rintro ⟨s, h1, h2⟩
    exact ⟨s, List.mem_range.mpr h1, h2.symm⟩
theorem wkN_new {pd : List ND} (c : Ch pd) {i0 t : Nat} (hi : i0 < pd.length) (ht : t < i0) : nmAt pd (i0 - 1 - t) ∉ wkN pd i0 t := fun h => by
  obtain ⟨s, h1, h2⟩ := wkN_mem.mp h
  have := nmAt_inj c.nd (by omega) (by omega) h2
  omega
/-- the calls of the node at j, when its turn comes -/
theorem bw_next {pd : List ND} (c : Ch pd) {i0 t : Nat} {ws : List Str} (hi : i0 < pd.length) (ht : t < i0) (B : BW pd i0 t (ws ++ [nmAt pd (i0 - 1 - t)])) {n : ND} (hn : pd[i0 - 1 - t]? = some n) : BW pd i0 (t + 1) (ws ++ n.calls.map (·.2)) := by
  have hlen := B.len
  rw [List.length_append, List.length_singleton] at hlen
  have hcnt := c.cnt n (List.mem_of_getElem? hn)
  have hc : ∀ p, p ∈ n.calls → i0 - 1 - t = i0 - 1 - (t + 1) + 1 ∧ p.2 = nmAt pd (i0 - 1 - (t + 1)) := fun p hp => by
    obtain ⟨i, m, e1, e2, e3⟩ := c.callsN hn hp
    have : i = i0 - 1 - (t + 1) := by omega
    subst this
    exact ⟨e1, by rw [e3, nmAt_some e2]⟩
  refine ⟨ht, fun w hw => ?_, fun h => ?_, ?_⟩
  · rcases List.mem_append.mp hw with hw | hw
    · obtain ⟨s, h1, h2, h3⟩ := B.all w (List.mem_append_left _ hw)
      exact ⟨s, by omega, h2, h3⟩
    · obtain ⟨p, hp, rfl⟩ := List.mem_map.mp hw
      obtain ⟨h1, h2⟩ := hc p hp
      exact ⟨t + 1, Nat.le_refl _, by omega, h2⟩
  · have hne : n.calls ≠ [] := c.some_ (i0 - 1 - (t + 1)) n (by rw [← hn]; congr 1; omega)
    refine ⟨ws ++ (n.calls.dropLast).map (·.2), ?_⟩
    rw [List.append_assoc]
    congr 1
    have := List.dropLast_concat_getLast hne
    have e := congrArg (List.map (·.2)) this
    rw [List.map_append, List.map_cons, List.map_nil, (hc _ (List.getLast_mem hne)).2] at e
    exact e.symm
  · rw [List.length_append, List.length_map]
    omega
theorem bw_first {pd : List ND} (c : Ch pd) {i0 : Nat} {n : ND} (hn : pd[i0]? = some n) : BW pd i0 0 (n.calls.map (·.2)) := by
  have hcnt := c.cnt n (List.mem_of_getElem? hn)
  have hc : ∀ p, p ∈ n.calls → 0 < i0 ∧ p.2 = nmAt pd (i0 - 1 - 0) := fun p hp => by
    obtain ⟨i, m, e1, e2, e3⟩ := c.callsN hn hp
    have : i = i0 - 1 - 0 := by omega
    subst this
    exact ⟨by omega, by rw [e3, nmAt_some e2]⟩
  refine ⟨Nat.zero_le _, fun w hw => ?_, fun h => ?_, ?_⟩
  · obtain ⟨p, hp, rfl⟩ := List.mem_map.mp hw
    obtain ⟨h1, h2⟩ := hc p hp
    exact ⟨0, Nat.le_refl _, h1, h2⟩
  · have hne : n.calls ≠ [] := c.some_ (i0 - 1) n (by rw [← hn]; congr 1; omega)
    refine ⟨(n.calls.dropLast).map (·.2), ?_⟩
    have := List.dropLast_concat_getLast hne
    have e := congrArg (List.map (·.2)) this
    rw [List.map_append, List.map_cons, List.map_nil, (hc _ (List.getLast_mem hne)).2] at e
    exact e.symm
  · rw [List.length_map]
    omega
theorem bw_pop {pd : List ND} {i0 : Nat} {ws : List Str} {w : Str} (B : BW pd i0 i0 (ws ++ [w])) : BW pd i0 i0 ws := ⟨Nat.le_refl _, fun x hx => B.all x (List.mem_append_left _ hx), fun h => absurd h (Nat.lt_irrefl _), by have := B.len; simp at this; omega⟩
theorem wk_filter {pd : List ND} (c : Ch pd) {i0 : Nat} (hi : i0 < pd.length) : (pd.map ND.name).filter (fun x => decide (x ∈ wkN pd i0 i0)) = (pd.take i0).map ND.name := by
  have e : pd.map ND.name = (pd.take i0).map ND.name ++ (pd.drop i0).map ND.name := by rw [← List.map_append, List.take_append_drop]
  have h1 : ((pd.take i0).map ND.name).filter (fun x => decide (x ∈ wkN pd i0 i0)) = (pd.take i0).map ND.name := filter_all fun x hx => by
    obtain ⟨n, hn, rfl⟩ := List.mem_map.mp hx
    obtain ⟨j, hj⟩ := List.getElem?_of_mem hn
    have hjl : j < i0 := by
      have := (List.getElem?_eq_some_iff.mp hj).1
      rw [List.length_take] at this
      omega
    rw [List.getElem?_take_of_lt hjl] at hj
    refine decide_eq_true (wkN_mem.mpr ⟨i0 - 1 - j, by omega, ?_⟩)
    have : i0 - 1 - (i0 - 1 - j) = j := by omega
    rw [this, nmAt_some hj]
  have h2 : ((pd.drop i0).map ND.name).filter (fun x => decide (x ∈ wkN pd i0 i0)) = [] := by
    rw [List.filter_eq_nil_iff]
    intro x hx h
    obtain ⟨n, hn, rfl⟩ := List.mem_map.mp hx
    obtain ⟨j, hj⟩ := List.getElem?_of_mem hn
    rw [List.getElem?_drop] at hj
    obtain ⟨s, h3, h4⟩ := wkN_mem.mp (of_decide_eq_true h)
    have hl := (List.getElem?_eq_some_iff.mp hj).1
    have := nmAt_inj c.nd (i := i0 + j) (j := i0 - 1 - s) hl (by omega) (by rw [nmAt_some hj]; exact h4)
    omega
  rw [e, List.filter_append, h1, h2, List.append_nil]
end K99
/-! K17 -/
namespace K99
open PySem PySem.Spec PyProof.Rows L2
theorem soks_can {xs : List Str} (h : ∀ x, x ∈ xs → x.cps.all (· < 0x110000) = true) : PyData.canLayAll0 (xs.map .str) = true := by
  induction xs with
  | nil => rfl
  | cons x r ih =>
    have h1 := h x (List.mem_cons_self ..)
    have h2 := ih fun z hz => h z (List.mem_cons_of_mem _ hz)
    simp only [List.map_cons, PyData.canLayAll0, PyData.canLay0, PyData.strOk, h1, h2, Bool.and_self]
theorem wkK_some {xs : List Str} {x : Str} : (valV (wkK xs) (.inr x)).isSome = decide (x ∈ xs) := by
  by_cases h : x ∈ xs
  · rw [decide_eq_true h]
    refine valV_mem ?_
    unfold wkK
    rw [List.map_map]
    exact List.mem_map.mpr ⟨x, h, rfl⟩
  · rw [decide_eq_false h, valV_none]
    · rfl
    · intro e
      unfold wkK at e
      rw [List.map_map] at e
      obtain ⟨y, hy, e⟩ := List.mem_map.mp e
      injection e with e
      exact h (e ▸ hy)
section
variable {P : Program} {w : World} {K : PySem.W.Frag} {mg : Str → Option Value} {base : Heap}
def spBelow (K : PySem.W.Frag) : Sp := fun vs H Q _ => ∃ (a : Addr) (pd : List ND) (i0 : Nat) (n : ND), vs = [V.ref a, .str n.name] ∧ PgO K H a pd ∧ pd[i0]? = some n ∧ ∀ l H', Same H H' → H' l = some (.lst (((pd.take i0).map ND.name).map .str)) → Q (.ref l) H'
theorem ok_Program_below (T : Txt K mg) : FnOk P w K mg base CX0 6 (f_Program_below K) (fdAt K (f_Program_below K)) P_Program_below (spBelow K) := by
  refine FunD.ok T.F_Program_below sc_Program_below (fun vs H Q E h => ?_) (fun cdv A outer s H vs Q E hr h => ?_)
  · obtain ⟨a, pd, i0, n, rfl, _⟩ := h
    rfl
  · obtain ⟨a, pd, i0, n, rfl, pg, hn, k⟩ := h
    refine ⟨_, PSs.nox (pss_cons (ps_set (i := 2) sc_Program_below.nd rfl (by first | exact Or.inl rfl | exact Or.inr rfl) pe_dnewK) (pss_cons (ps_setLc (i := 3) (own := [("first", 5), ("called", 4)]) (by rfl) sc_Program_below.nd rfl rfl (by rfl) (pi_list (pe_meth (pv 0) T.c_Program T.m_Program_calls_in (ok_Program_calls_in T) (hr.mono (by first | decide | omega)) T.b_Program_calls_in .nil pass0 (pa_cons (pv 1) pa_nil))) (blkOk_by (N := N_Program_below) (sc := defScope s_Program_below) (by decide +kernel)) (fun _ _ _ _ _ => (pg_tupK (K := K) (n := 2) rfl (pgs_cons (pg_name (i := 5) sc_Program_below.nd rfl (by first | exact Or.inl rfl | exact Or.inr rfl)) (pgs_cons (pg_name (i := 4) sc_Program_below.nd rfl (by first | exact Or.inl rfl | exact Or.inr rfl)) pgs_nil)))) (fun _ _ _ _ _ => pts_nil) (fun _ _ _ _ _ => (pv 4))) (pss_cons (ps_while PassesOwn.never (pt_cmpR (op_neD hr.units) (pv 3) (pe_lst pa_nil) (by rfl)) (pss_cons (ps_set (i := 4) sc_Program_below.nd rfl (by first | exact Or.inl rfl | exact Or.inr rfl) (pe_bm0 PySem.F.plainAttrs_list PySem.F.slot_list_pop PySem.F.type_list_pop mt_pop (pv 3))) (pss_one (ps_if (pt_cmp (pc_dnotin (hu_of hr) (pv 4) (pv 2))) (pss_cons (ps_dput (hu_of hr) (pv 2) (pv 4) pe_bl rfl) (pss_one (ps_expr (pe_bm PySem.F.plainAttrs_list PySem.F.slot_list_extend PySem.F.type_list_extend mt_extend (pv 3) (pa_cons (pe_lc (own := [("first", 5), ("other", 6)]) (by rfl) sc_Program_below.nd (pi_list (pe_meth (pv 0) T.c_Program T.m_Program_calls_in (ok_Program_calls_in T) (hr.mono (by first | decide | omega)) T.b_Program_calls_in .nil pass0 (pa_cons (pv 4) pa_nil))) (blkOk_by (N := N_Program_below) (sc := defScope s_Program_below) (by decide +kernel)) (fun _ _ _ _ _ => (pg_tupK (K := K) (n := 2) rfl (pgs_cons (pg_name (i := 5) sc_Program_below.nd rfl (by first | exact Or.inl rfl | exact Or.inr rfl)) (pgs_cons (pg_name (i := 6) sc_Program_below.nd rfl (by first | exact Or.inl rfl | exact Or.inr rfl)) pgs_nil)))) (fun _ _ _ _ _ => pts_nil) (fun _ _ _ _ _ => (pv 6))) pa_nil))))) pss_nil)))) (pss_one (ps_ret (pe_lock (pe_lc (own := [("other", 6)]) (by rfl) sc_Program_below.nd (pi_keys (pe_fld (pv 0) rfl)) (blkOk_by (N := N_Program_below) (sc := defScope s_Program_below) (by decide +kernel)) (fun _ _ _ _ _ => (pg_name (i := 6) sc_Program_below.nd rfl (by first | exact Or.inl rfl | exact Or.inr rfl))) (fun _ _ _ _ _ => (pts_one (pt_cmp (pc_din (hu_of hr) (pv 6) (pv 2))))) (fun _ _ _ _ _ => (pv 6))))))))), ?_⟩
    obtain ⟨c, dx, d, as, h1, h2, h3, h4⟩ := id pg
    have hi : i0 < pd.length := (List.getElem?_eq_some_iff.mp hn).1
    intro Wd hWd
    have s1 : Same H (upd H Wd (.dK [])) := Same.new hWd
    have pg1 := pg.mono s1
    refine ⟨_, rfl, a, dx, _, rfl, s1 _ _ h1, rfl, _, rfl, a, n, pd, rfl, pg1, List.mem_of_getElem? hn, fun l ts H1 s2 hl e2 hS => ?_⟩
    have hlen : ts.length ≤ 1000000 := by
      have := congrArg List.length e2
      rw [List.length_map] at this
      have := c.cnt n (List.mem_of_getElem? hn)
      omega
    refine ⟨l, rfl, ⟨_, SqL.of hl⟩, fun Wt hWt => ?_⟩
    refine lc_pair (wm_list ts fun t => V.ref t.1) (fun t => .str t.2.2) hWt hlen (fun H' s' => SqL.of (s' _ _ hl)) hS (fun _ _ => rfl) (fun _ _ _ q => q) (fun t H' _ _ Q' q => ⟨_, rfl, q H' (Same.refl _)⟩) (fun H2 s3 h5 => ?_)
    have ew : ts.map (fun t => V.str t.2.2) = (n.calls.map (·.2)).map .str := by
      rw [← e2, List.map_map, List.map_map]
      rfl
    rw [ew] at h5
    have hd2 : H2 Wd = some (.dK (wkK (wkN pd i0 0))) := s3 _ _ (s2 _ _ upd_same)
    have nWW : Wd ≠ Wt := fun e => by
      subst e
      rw [h5] at hd2
      cases hd2
    have sW : Same H H2 := s1.trans (s2.trans s3)
    have nl : H Wt = none := (s1.trans s2).free hWt
    refine ⟨fun m σ H' => ∃ (t : Nat) (ws : List Str), (∃ x4 x5 x6, σ = [some (.ref a), some (.str n.name), some (.ref Wd), some (.ref Wt), x4, x5, x6]) ∧ Same H H' ∧ H' Wd = some (.dK (wkK (wkN pd i0 t))) ∧ H' Wt = some (.lst (ws.map .str)) ∧ BW pd i0 t ws ∧ m = (i0 - t) * 1000 + ws.length,
      ⟨_, 0, n.calls.map (·.2), ⟨_, _, _, rfl⟩, sW, hd2, h5, bw_first c hn, rfl⟩, fun m σ H3 q => ?_⟩
    obtain ⟨t, ws, ⟨x4, x5, x6, rfl⟩, s4, g1, g2, B, rfl⟩ := q
    refine ⟨_, rfl, Nat.zero_le _, fun e he => ?_⟩
    have s5 : Same H3 (upd H3 e (.lst [])) := Same.new he
    have nms : ∀ x, x ∈ ws → x.cps.all (· < 0x110000) = true := fun x hx => by
      obtain ⟨s', hs1, hs2, rfl⟩ := B.all x hx
      obtain ⟨m, hm⟩ := at_lt (pd := pd) (j := i0 - 1 - s') (by omega)
      rw [nmAt_some hm]
      exact nm_sok (c.oks m (List.mem_of_getElem? hm)).nm
    refine ⟨_, .list [], .lst (SqL.of (s5 _ _ g2)) (rep_dp _), .lst (SqL.of upd_same) .nil, ?_, rfl, !ws.isEmpty, ?_, ?_⟩
    · simp only [SeqAt.shaped, PyData.canLay0, soks_can nms, PyData.depth, reps_dep]
      rfl
    · cases ws <;> rfl
    cases hws : ws with
    | nil =>
      refine iteF ?_
      have ht : t = i0 := by
        rcases Nat.lt_or_ge t i0 with h | h
        · obtain ⟨ws', e'⟩ := B.last h
          rw [hws] at e'
          simp at e'
        · exact Nat.le_antisymm B.le h
      subst ht
      have sT := s4.trans s5
      have gW := s5 _ _ g1
      have nad : a ≠ d := fun z => by
        subst z
        rw [h1] at h2
        cases h2
      have nWd : Wd ≠ d := fun z => by
        subst z
        rw [hWd] at h2
        cases h2
      refine ⟨d, _, sT _ _ h2, trivial, fun od => ?_⟩
      have gL : upd (upd H3 e (.lst [])) d (.frz od (.dK (as.map fun p => ((Sum.inr p.2.name : Key), V.ref p.1)))) d = some (.frz od (.dK (as.map fun p => ((Sum.inr p.2.name : Key), V.ref p.1)))) := upd_same
      have xL : SameX d H (upd (upd H3 e (.lst [])) d (.frz od (.dK (as.map fun p => ((Sum.inr p.2.name : Key), V.ref p.1))))) := SameX.put (Same.x sT)
      have gWL : upd (upd H3 e (.lst [])) d (.frz od (.dK (as.map fun p => ((Sum.inr p.2.name : Key), V.ref p.1)))) Wd = some (.dK (wkK (wkN pd t t))) := by
        rw [upd_ne nWd]
        exact gW
      generalize upd (upd H3 e (.lst [])) d (.frz od (.dK (as.map fun p => ((Sum.inr p.2.name : Key), V.ref p.1)))) = HL at gL xL gWL ⊢
      refine ⟨_, rfl, a, _, _, _, _, rfl, xL _ _ nad h1, T.c_Program, T.n_Program_by_name, rfl, d, od, rfl, .inl ⟨_, gL, fun D hD => ?_⟩⟩
      have hal : as.length ≤ 1000000 := by
        have := congrArg List.length h3
        rw [List.length_map] at this
        have := c.len
        omega
      refine lc_flat (wm_keys as (fun p => Sum.inr p.2.name) fun p => V.ref p.1) (fun p => decide (p.2.name ∈ wkN pd t t)) (fun p => .str p.2.name) hD hal (fun H' s' => s' _ _ gL) (fun _ => rfl) (fun p H' hp s' Q' q => ?_) (fun p H' hp _ s' Q' q => ⟨_, rfl, q H' (Same.refl _)⟩) (fun H' s' e' => ?_)
      · refine ⟨_, rfl, _, rfl, Wd, _, rfl, DGet.k (k := .inr p.2.name) (s' _ _ gWL), _, ?_, q H' (Same.refl _)⟩
        rw [wkK_some]
      · refine ⟨s' _ _ gL, k D _ ?_ ?_⟩
        · intro b o hb
          by_cases ebd : b = d
          · subst ebd
            rw [h2] at hb
            rw [← hb]
            exact upd_same
          · rw [upd_ne ebd]
            exact s' _ _ (xL _ _ ebd hb)
        · have nDd : D ≠ d := fun z => by
            subst z
            rw [hD] at gL
            cases gL
          rw [upd_ne nDd, e']
          have e1 : (as.filter fun p => decide (p.2.name ∈ wkN pd t t)).map (fun p => V.str p.2.name) = ((pd.map ND.name).filter fun x => decide (x ∈ wkN pd t t)).map .str := by
            rw [← as_names h3, List.filter_map, List.map_map]
            rfl
          rw [e1, wk_filter c hi]
    | cons w0 wr =>
      refine iteT ?_
      obtain ⟨ws', wl, ewl⟩ : ∃ ws' wl, ws = ws' ++ [wl] := ⟨ws.dropLast, ws.getLast (by rw [hws]; simp), (List.dropLast_concat_getLast _).symm⟩
      have gWt := s5 _ _ g2
      rw [ewl] at gWt B
      have sT := s4.trans s5
      refine ⟨fun σ' H' => ∃ m', m' < (i0 - t) * 1000 + ws.length ∧ ∃ (t : Nat) (ws : List Str), (∃ x4 x5 x6, σ' = [some (.ref a), some (.str n.name), some (.ref Wd), some (.ref Wt), x4, x5, x6]) ∧ Same H H' ∧ H' Wd = some (.dK (wkK (wkN pd i0 t))) ∧ H' Wt = some (.lst (ws.map .str)) ∧ BW pd i0 t ws ∧ m' = (i0 - t) * 1000 + ws.length, fun σ' H' q => by rw [← hws]; exact q, ?_⟩
      refine ⟨_, rfl, .inl ⟨rfl, _, SqL.of gWt⟩, Wt, _, .str wl, rfl, rfl, gWt, by simp, ?_⟩
      have x6 : SameX Wt H (upd (upd H3 e (.lst [])) Wt (.lst (ws'.map .str))) := SameX.put (Same.x sT)
      have s6 : Same H (upd (upd H3 e (.lst [])) Wt (.lst (ws'.map .str))) := SameX.of x6 nl
      have gW : upd (upd H3 e (.lst [])) Wt (.lst (ws'.map .str)) Wd = some (.dK (wkK (wkN pd i0 t))) := by
        rw [upd_ne nWW]
        exact s5 _ _ g1
      have gT : upd (upd H3 e (.lst [])) Wt (.lst (ws'.map .str)) Wt = some (.lst (ws'.map .str)) := upd_same
      have ed : ((ws' ++ [wl]).map V.str).dropLast = ws'.map .str := by
        rw [List.map_append, List.map_cons, List.map_nil, List.dropLast_concat]
      rw [ed]
      generalize upd (upd H3 e (.lst [])) Wt (.lst (ws'.map .str)) = H6 at s6 gW gT ⊢
      refine ⟨_, rfl, _, rfl, Wd, _, rfl, DGet.k (k := .inr wl) gW, !decide (wl ∈ wkN pd i0 t), ?_, ?_⟩
      · rw [wkK_some]
      rcases Nat.lt_or_ge t i0 with hti | hti
      · obtain ⟨w2, e2'⟩ := B.last hti
        have hwl : wl = nmAt pd (i0 - 1 - t) := by
          have := (List.append_inj' e2' rfl).2
          injection this
        subst hwl
        have hnew := wkN_new c hi hti
        rw [decide_eq_false hnew]
        refine iteT ?_
        obtain ⟨m, hm⟩ := at_lt (pd := pd) (j := i0 - 1 - t) (by omega)
        have hmn := nmAt_some hm
        have nv : valV (wkK (wkN pd i0 t)) (.inr (nmAt pd (i0 - 1 - t))) = none := by
          cases hq : valV (wkK (wkN pd i0 t)) (.inr (nmAt pd (i0 - 1 - t))) with
          | none => rfl
          | some u =>
            have := wkK_some (xs := wkN pd i0 t) (x := nmAt pd (i0 - 1 - t))
            rw [hq, decide_eq_false hnew] at this
            cases this
        have hwl8 : (wkK (wkN pd i0 t)).length < sizeLine := by
          unfold wkK wkN
          rw [List.length_map, List.length_map, List.length_range]
          have := c.len
          exact szl (by omega)
        refine ⟨_, rfl, _, rfl, Wd, _, rfl, DPut.k (k := .inr (nmAt pd (i0 - 1 - t))) gW hwl8, ?_⟩
        have e7 : putK (wkK (wkN pd i0 t)) (Sum.inr (nmAt pd (i0 - 1 - t)) : Key) (V.bl true) = wkK (wkN pd i0 (t + 1)) := by
          rw [putK_new _ nv, wkN_succ]
          unfold wkK
          rw [List.map_append]
          rfl
        rw [e7]
        have s7 : Same H (upd H6 Wd (.dK (wkK (wkN pd i0 (t + 1))))) := SameX.of (SameX.put (Same.x s6)) hWd
        have gW7 : upd H6 Wd (.dK (wkK (wkN pd i0 (t + 1)))) Wd = some (.dK (wkK (wkN pd i0 (t + 1)))) := upd_same
        have gT7 : upd H6 Wd (.dK (wkK (wkN pd i0 (t + 1)))) Wt = some (.lst (ws'.map .str)) := by
          rw [upd_ne nWW.symm]
          exact gT
        generalize upd H6 Wd (.dK (wkK (wkN pd i0 (t + 1)))) = H7 at s7 gW7 gT7 ⊢
        refine ⟨_, rfl, .inl ⟨rfl, _, SqL.of gT7⟩, ?_⟩
        refine ⟨_, rfl, a, dx, _, rfl, s7 _ _ h1, rfl, _, rfl, a, m, pd, by rw [hmn]; rfl, pg.mono s7, List.mem_of_getElem? hm, fun l2 ts2 H8 s8 hl2 e8 hS8 => ?_⟩
        have hlen2 : ts2.length ≤ 20 := by
          have := congrArg List.length e8
          rw [List.length_map] at this
          have := c.cnt m (List.mem_of_getElem? hm)
          omega
        refine ⟨l2, rfl, ⟨_, SqL.of hl2⟩, fun D8 hD8 => ?_⟩
        refine lc_pair (wm_list ts2 fun t => V.ref t.1) (fun t => .str t.2.2) hD8 (Nat.le_trans hlen2 (by decide)) (fun H' s' => SqL.of (s' _ _ hl2)) hS8 (fun _ _ => rfl) (fun _ _ _ q => q) (fun t H' _ _ Q' q => ⟨_, rfl, q H' (Same.refl _)⟩) (fun H9 s9 h9 => ?_)
        have ew9 : ts2.map (fun t => V.str t.2.2) = (m.calls.map (·.2)).map .str := by
          rw [← e8, List.map_map, List.map_map]
          rfl
        rw [ew9] at h9
        have B' := bw_next c hi hti B hm
        have gT9 := s9 _ _ (s8 _ _ gT7)
        refine ⟨Wt, D8, _, _, rfl, rfl, gT9, h9, ?_, ?_⟩
        · have := B'.len
          have := c.len
          simp at this ⊢
          have hB := B'.len
          simp at hB
          exact sz (by omega)
        refine ⟨_, ?_, t + 1, ws' ++ m.calls.map (·.2), ⟨_, _, _, rfl⟩, SameX.of (SameX.put (Same.x (s7.trans (s8.trans s9)))) nl, ?_, ?_, B', rfl⟩
        · have := B'.len
          have hmc := c.cnt m (List.mem_of_getElem? hm)
          have hwsl : ws.length = ws'.length + 1 := by rw [ewl]; simp
          rw [List.length_append, List.length_map]
          omega
        · rw [upd_ne nWW]
          exact s9 _ _ (s8 _ _ gW7)
        · rw [upd_same, List.map_append]
      · have ht : t = i0 := Nat.le_antisymm B.le hti
        subst ht
        obtain ⟨s', hs1, hs2, hs3⟩ := B.all wl (by simp)
        have hin : wl ∈ wkN pd t t := wkN_mem.mpr ⟨s', hs2, hs3⟩
        rw [decide_eq_true hin]
        refine iteF ?_
        refine ⟨_, ?_, t, ws', ⟨_, _, _, rfl⟩, s6, gW, gT, bw_pop B, rfl⟩
        have hwsl : ws.length = ws'.length + 1 := by rw [ewl]; simp
        omega
end
end K99
/-! K18 -/
namespace K99
open PySem PySem.Spec PyProof.Rows L2
theorem nm_in {x : Str} (N : Nm x) : (!(Builtin.Str.occurrences x "." 0 x.length 1).isEmpty) = false := by
  have h := StrLaws.found_one x 46
  have e2 : (⟨#[46]⟩ : Str) = "." := by decide +kernel
  rw [e2] at h
  rw [h, decide_eq_false]
  intro hm
  exact nm_nodot N hm
section
variable {P : Program} {w : World} {K : PySem.W.Frag} {mg : Str → Option Value} {base : Heap}
def spNeedCalls (K : PySem.W.Frag) : Sp := fun vs H Q _ => ∃ (d a : Addr) (n : ND) (as : List PN), vs = [V.ref d, .ref a] ∧ H d = some (.dK (as.map fun p => ((Sum.inr p.2.name : Key), V.ref p.1))) ∧ (as.map fun p => p.2.name).Nodup ∧ (∀ p, p ∈ as → NdO K H p.1 p.2) ∧ NdO K H a n ∧ n.oks ∧ (∀ x, x ∈ n.names → Nm x) ∧
  (∀ x c b k, Rw.call x c b k ∈ n.rows → ∃ p, p ∈ as ∧ c = p.2.name ∧ k = p.2.ins.length) ∧ ∀ H', Same H H' → Q .non H'
theorem ok_need_calls (T : Txt K mg) : FnOk P w K mg base CX0 3 (f_need_calls K) (fdAt K (f_need_calls K)) P_need_calls (spNeedCalls K) := by
  refine FunD.ok T.F_need_calls sc_need_calls (fun vs H Q E h => ?_) (fun cdv A outer s H vs Q E hr h => ?_)
  · obtain ⟨d, a, n, as, rfl, _⟩ := h
    rfl
  · obtain ⟨d, a, n, as, rfl, h1, h2, h3, nb, ok, hN, hC, k⟩ := h
    refine ⟨_, PSs.nox (pss_cons (ps_for PassesOwn.never rfl (pi_list (pe_meth0 (pv 1) T.c_Node T.m_Node_names (ok_Node_names T) (hr.mono (by first | decide | omega)) T.b_Node_names .nil pass0)) (pg_name (i := 2) sc_need_calls.nd rfl (by first | exact Or.inl rfl | exact Or.inr rfl)) (pss_one (ps_if (pt_cmpR op_in_str pe_str (pv 2) (by rfl)) pB pss_nil))) (pss_one (ps_for PassesOwn.never rfl (pi_list (pe_meth0 (pv 1) T.c_Node T.m_Node_rows (ok_Node_rows T) (hr.mono (by first | decide | omega)) T.b_Node_rows .nil pass0)) (pg_name (i := 3) sc_need_calls.nd rfl (by first | exact Or.inl rfl | exact Or.inr rfl)) (pss_one (ps_if (pt_val (pe_um0 (p := fun _ => True) (fun d _ => me_is_call T d) (pv 3) (hr.mono (by first | decide | omega)) pass0)) (pss_cons (ps_asg (pe_um0 (p := fun _ => True) (fun d _ => me_told T d) (pv 3) (hr.mono (by first | decide | omega)) pass0) (pg_tup rfl (pgs_cons (pg_name (i := 4) sc_need_calls.nd rfl (by first | exact Or.inl rfl | exact Or.inr rfl)) (pgs_cons (pg_name (i := 5) sc_need_calls.nd rfl (by first | exact Or.inl rfl | exact Or.inr rfl)) (pgs_cons (pg_name (i := 6) sc_need_calls.nd rfl (by first | exact Or.inl rfl | exact Or.inr rfl)) (pgs_cons (pg_name (i := 7) sc_need_calls.nd rfl (by first | exact Or.inl rfl | exact Or.inr rfl)) pgs_nil)))))) (pss_cons (ps_if (pt_cmp (pc_dnotin (hu_of hr) (pv 6) (pv 0))) pB pss_nil) (pss_cons (ps_if (pt_cmpR op_ne (pe_callB call_len_seq (by rfl) T.z_len PySem.boot_len (pa_cons (pv 7) pa_nil)) (pe_callB call_len_seq (by rfl) T.z_len PySem.boot_len (pa_cons (pe_meth0 (pe_dget (hu_of hr) (pv 0) (pv 6) (fun _ _ => rfl)) T.c_Node T.m_Node_inputs (ok_Node_inputs T) (hr.mono (by first | decide | omega)) T.b_Node_inputs .nil pass0) pa_nil)) (by rfl)) pB pss_nil) (pss_one (ps_if (pt_cmpR op_ne (pe_callB call_len_seq (by rfl) T.z_len PySem.boot_len (pa_cons (pv 5) pa_nil)) (pe_callB call_len_seq (by rfl) T.z_len PySem.boot_len (pa_cons (pe_meth0 (pe_dget (hu_of hr) (pv 0) (pv 6) (fun _ _ => rfl)) T.c_Node T.m_Node_outs (ok_Node_outs T) (hr.mono (by first | decide | omega)) T.b_Node_outs .nil pass0) pa_nil)) (by rfl)) pB pss_nil))))) pss_nil))))), ?_⟩
    obtain ⟨dy, ki, ko, kr, te, rs0, g1, g2, g3⟩ := id nb
    refine ⟨_, rfl, a, dy, _, rfl, g1, rfl, a, n, rfl, nb, fun l H1 s1 hl => ?_⟩
    refine ⟨l, rfl, ⟨_, SqL.of hl⟩, ?_⟩
    refine for_map (wm_list n.names V.str) (fun pre σ H2 => Same H1 H2 ∧ (∃ x1 x2 x3 x4 x5 x6, σ = [some (.ref d), some (.ref a), x1, x2, x3, x4, x5, x6])) ⟨Same.refl _, ⟨_, _, _, _, _, _, rfl⟩⟩ (fun pre σ H2 q => SqL.of (q.1 _ _ hl)) (fun pre x post σ H2 e q => ?_) (fun σ H2 q => ?_)
    · obtain ⟨s2, x1, x2, x3, x4, x5, x6, rfl⟩ := q
      have hx : x ∈ n.names := by
        rw [e]
        simp
      refine ⟨_, rfl, _, _, rfl, rfl, false, ?_, iteF ⟨s2, ⟨_, _, _, _, _, _, rfl⟩⟩⟩
      rw [nm_in (hN x hx)]
    · obtain ⟨s2, x1, x2, x3, x4, x5, x6, rfl⟩ := q
      have s12 := s1.trans s2
      refine ⟨_, rfl, a, dy, _, rfl, s12 _ _ g1, rfl, a, n, rfl, nb.mono s12, fun l3 rs H3 s3 hl3 e2 eq2 => ?_⟩
      refine ⟨l3, rfl, ⟨_, SqL.of hl3⟩, ?_⟩
      refine for_map (wm_list rs fun p => V.ref p.1) (fun pre σ H2 => Same H3 H2 ∧ (∃ x1 x2 x3 x4 x5 x6, σ = [some (.ref d), some (.ref a), x1, x2, x3, x4, x5, x6])) ⟨Same.refl _, ⟨_, _, _, _, _, _, rfl⟩⟩ (fun pre σ H2 q => SqL.of (q.1 _ _ hl3)) (fun pre p post σ H4 e q => ?_) (fun σ H4 q => k H4 (s12.trans (s3.trans q.1)))
      obtain ⟨s4, x1, x2, x3, x4, x5, x6, rfl⟩ := q
      have hp : p ∈ rs := by
        rw [e]
        simp
      have o2 : EqO K H4 p.1 p.2 := (eq2 p hp).mono s4
      refine ⟨p.2, trivial, _, rfl, p.1, rfl, o2, p.1, rfl, o2, _, rfl, ?_⟩
      have hrow := rs_in e2 hp
      cases hr2 : p.2 with
      | bef x v b => exact iteF ⟨s4, ⟨_, _, _, _, _, _, rfl⟩⟩
      | pln x t => exact iteF ⟨s4, ⟨_, _, _, _, _, _, rfl⟩⟩
      | call x c2 b2 k2 =>
        refine iteT ?_
        rw [hr2] at o2 hrow
        obtain ⟨q, hq, hqn, hqk⟩ := hC x c2 b2 k2 hrow
        have hv := valV_at (f := fun p : PN => p.2.name) (g := fun p : PN => V.ref p.1) h2 hq
        refine ⟨.call x c2 b2 k2, trivial, _, rfl, p.1, rfl, o2, p.1, rfl, o2, fun dd hd => ?_⟩
        obtain ⟨o', g', d1, d2, d3⟩ := hd
        refine ⟨dd, _, rfl, d1, rfl, _, _, rfl, _, _, rfl, _, _, rfl, _, _, rfl, rfl, ?_⟩
        have s5 := s12.trans (s3.trans s4)
        have gd := s5 _ _ h1
        subst hqn
        refine ⟨_, rfl, _, rfl, d, _, rfl, DGet.k (k := .inr q.2.name) gd, false, ?_, iteF ?_⟩
        · rw [hv]
          rfl
        obtain ⟨dz, ki', ko', kr', te', rs', f1, f2, f3⟩ := id (h3 q hq)
        refine ⟨_, rfl, g', _, rfl, .inr d3, ?_⟩
        refine ⟨_, rfl, _, rfl, d, _, rfl, by rw [← hv]; exact DGet.k (k := .inr q.2.name) gd, q.1, dz, _, rfl, s5 _ _ f1, rfl, q.1, q.2, rfl, (h3 q hq).mono s5, fun l6 H6 s6 hl6 => ?_⟩
        refine ⟨l6, _, rfl, .inl (SqL.of hl6), rfl, false, ?_, iteF ?_⟩
        · rw [List.length_map, List.length_map, List.length_replicate, hqk]
          show V.bl (!decide (V.int _ = V.int _)) = _
          rw [decide_eq_true rfl]
          rfl
        refine ⟨_, rfl, o', _, rfl, .inr (Same.sqt s6 d2), ?_⟩
        have s7 := s5.trans s6
        refine ⟨_, rfl, _, rfl, d, _, rfl, by rw [← hv]; exact DGet.k (k := .inr q.2.name) (s7 _ _ h1), q.1, dz, _, rfl, s7 _ _ f1, rfl, q.1, q.2, rfl, (h3 q hq).mono s7, fun l8 H8 s8 hl8 => ?_⟩
        refine ⟨l8, _, rfl, .inl (SqL.of hl8), rfl, false, rfl, iteF ?_⟩
        exact ⟨s4.trans (s6.trans s8), ⟨_, _, _, _, _, _, rfl⟩⟩
end
end K99
/-! K19 -/
namespace K99
open PySem PySem.Spec PyProof.Rows L2
section
variable {P : Program} {w : World} {K : PySem.W.Frag} {mg : Str → Option Value} {base : Heap}
def spNeedNodes (K : PySem.W.Frag) : Sp := fun vs H Q _ => ∃ (l : Addr) (as : List PN), vs = [V.ref l] ∧ H l = some (.lst (as.map fun p => .ref p.1)) ∧ as ≠ [] ∧ (as.map fun p => p.2.name).Nodup ∧ (∀ p, p ∈ as → NdO K H p.1 p.2) ∧ as.length ≤ 8 ∧ ∀ H', Same H H' → Q .non H'
theorem ok_need_nodes (T : Txt K mg) : FnOk P w K mg base CX0 1 (f_need_nodes K) (fdAt K (f_need_nodes K)) P_need_nodes (spNeedNodes K) := by
  refine FunD.ok T.F_need_nodes sc_need_nodes (fun vs H Q E h => ?_) (fun cdv A outer s H vs Q E hr h => ?_)
  · obtain ⟨l, as, rfl, _⟩ := h
    rfl
  · obtain ⟨l, as, rfl, h1, h2, h3, h4, h5, k⟩ := h
    refine ⟨_, PSs.nox (pss_cons (ps_if (PW.pt (pw_or (pt_not (pt_val (pe_callB call_isiT (by rfl) T.z_isinstance boot_isinstance (pa_cons (pv 0) (pa_cons (pe_tup (pa_cons (pe_bltn (v := .ty "list") (by rfl) T.z_list boot_list rfl) (pa_cons (pe_bltn (v := .ty "tuple") (by rfl) T.z_tuple boot_tuple rfl) pa_nil))) pa_nil))))) (pw_or1 (pt_cmpR op_eq (pe_callB call_len_seq (by rfl) T.z_len PySem.boot_len (pa_cons (pv 0) pa_nil)) pe_int (by rfl))))) pB pss_nil) (pss_cons (ps_for PassesOwn.never rfl (pi_list (pv 0)) (pg_name (i := 1) sc_need_nodes.nd rfl (by first | exact Or.inl rfl | exact Or.inr rfl)) (pss_one (ps_if (pt_not (pt_val (pe_callB call_isi (by rfl) T.z_isinstance boot_isinstance (pa_cons (pv 1) (pa_cons (pe_glob (v := .ref (He.ga K "Node")) rfl T.g_Node rfl) pa_nil))))) pB pss_nil))) (pss_cons (ps_set (i := 2) sc_need_nodes.nd rfl (by first | exact Or.inl rfl | exact Or.inr rfl) pe_dnewK) (pss_one (ps_for PassesOwn.never rfl (pi_list (pv 0)) (pg_name (i := 1) sc_need_nodes.nd rfl (by first | exact Or.inl rfl | exact Or.inr rfl)) (pss_cons (ps_if (pt_cmp (pc_din (hu_of hr) (pe_fld (pv 1) rfl) (pv 2))) pB pss_nil) (pss_one (ps_dput (hu_of hr) (pv 2) (pe_fld (pv 1) rfl) pe_bl rfl)))))))), ?_⟩
    refine ⟨_, rfl, sz (n := 2) (by decide), fun p hp => ?_⟩
    have s1 : Same H (upd H p (.tup [.ty "list", .ty "tuple"])) := Same.new hp
    refine ⟨_, p, _, _, _, true, rfl, upd_same, .cons (.ty _) (.cons (.ty _) .nil), tyx_lst (s1 _ _ h1), kit_lt (.inl rfl), true, rfl, iteF ?_⟩
    refine ⟨_, rfl, l, _, rfl, .inl (SqL.of (s1 _ _ h1)), rfl, false, ?_, iteF ?_⟩
    · show V.bl (decide (V.int ((as.map fun p => V.ref p.1).length : Nat) = V.int 0)) = .bl false
      rw [decide_eq_false]
      intro e
      injection e with e
      rw [List.length_map] at e
      exact h2 (List.eq_nil_of_length_eq_zero (by omega))
    generalize upd H p (.tup [.ty "list", .ty "tuple"]) = H1 at s1 ⊢
    refine ⟨_, rfl, l, rfl, ⟨_, SqL.of (s1 _ _ h1)⟩, ?_⟩
    refine for_map (wm_list as fun p => V.ref p.1) (fun pre σ H2 => Same H H2 ∧ ∃ x y, σ = [some (.ref l), x, y]) ⟨s1, ⟨_, _, rfl⟩⟩ (fun pre σ H2 q => SqL.of (q.1 _ _ h1)) (fun pre p post σ H2 e q => ?_) (fun σ H2 q => ?_)
    · obtain ⟨s2, x, y, rfl⟩ := q
      have hp : p ∈ as := by
        rw [e]
        simp
      obtain ⟨dy, ki, ko, kr, te, rs0, g1, g2, g3⟩ := id (h4 p hp)
      exact ⟨_, rfl, _, _, _, _, true, rfl, .own _, .base (T.ty_Node (s2 _ _ g1)), T.k_Node_Node, true, rfl, iteF ⟨s2, ⟨_, _, rfl⟩⟩⟩
    · obtain ⟨s2, x, y, rfl⟩ := q
      intro F hF
      have nF : H F = none := s2.free hF
      have s3 : Same H (upd H2 F (.dK [])) := s2.trans (Same.new hF)
      refine ⟨_, rfl, l, rfl, ⟨_, SqL.of (s3 _ _ h1)⟩, ?_⟩
      refine for_map (wm_list as fun p => V.ref p.1) (fun pre σ H3 => Same H H3 ∧ (∃ x, σ = [some (.ref l), x, some (.ref F)]) ∧ H3 F = some (.dK (pre.map fun p => ((Sum.inr p.2.name : Key), V.bl true)))) ⟨s3, ⟨_, rfl⟩, upd_same⟩ (fun pre σ H2 q => SqL.of (q.1 _ _ h1)) (fun pre p post σ H3 e q => ?_) (fun σ H2 q => k H2 q.1)
      obtain ⟨s4, ⟨x, rfl⟩, q3⟩ := q
      have hp : p ∈ as := by
        rw [e]
        simp
      obtain ⟨dy, ki, ko, kr, te, rs0, g1, g2, g3⟩ := id (h4 p hp)
      have hn : p.2.name ∉ pre.map fun p => p.2.name := fun h => by
        rw [e, List.map_append, List.nodup_append] at h3
        exact h3.2.2 _ h p.2.name (by simp) rfl
      have hv : valV (pre.map fun p => ((Sum.inr p.2.name : Key), V.bl true)) (.inr p.2.name) = none := valV_no (f := fun p : PN => p.2.name) (g := fun _ => V.bl true) hn
      refine ⟨_, rfl, p.1, _, dy, _, _, rfl, s4 _ _ g1, T.c_Node, T.n_Node_name, rfl, _, rfl, F, _, rfl, DGet.k (k := .inr p.2.name) q3, false, ?_, iteF ?_⟩
      · rw [hv]
        rfl
      refine ⟨_, rfl, _, rfl, p.1, _, dy, _, _, rfl, s4 _ _ g1, T.c_Node, T.n_Node_name, rfl, F, _, rfl, DPut.k (k := .inr p.2.name) q3 ?_, ?_, ⟨_, rfl⟩, ?_⟩
      · rw [List.length_map]
        rw [e] at h5
        simp at h5
        exact szl (by omega)
      · exact SameX.of (SameX.put (Same.x s4)) nF
      · rw [upd_same, putK_new _ hv, List.map_append]
        rfl
def spProgInit (K : PySem.W.Frag) (pd : List ND) : Sp := fun vs H Q _ => ∃ (a l dx : Addr) (as : List PN) (H0 : Hp), vs = [V.ref a, .ref l] ∧ H0 a = none ∧ Same H0 H ∧ H a = some (.ins (A_Program K) dx []) ∧ H0 l = some (.lst (as.map fun p => .ref p.1)) ∧ as.map (·.2) = pd ∧ pd ≠ [] ∧ Ch pd ∧ (∀ p, p ∈ as → NdO K H0 p.1 p.2) ∧
  ∀ H', SameX a H H' → PgO K H' a pd → Q .non H'
theorem ok_Program_init (T : Txt K mg) (pd : List ND) : FnOk P w K mg base CX0 5 (f_Program_init K) (fdAt K (f_Program_init K)) P_Program_init (spProgInit K pd) := by
  refine FunD.ok T.F_Program_init sc_Program_init (fun vs H Q E h => ?_) (fun cdv A outer s H vs Q E hr h => ?_)
  · obtain ⟨a, l, dx, as, H0, rfl, _⟩ := h
    rfl
  · obtain ⟨a, l, dx, as, H0, rfl, h0, s0, h1, h2, h3, hne, c, h4, k⟩ := h
    refine ⟨_, PSs.nox (pss_cons (ps_expr (pe_call (ok_need_nodes T) (hr.mono (by first | decide | omega)) (by rfl) T.g_need_nodes T.F_need_nodes.kp T.b_need_nodes .nil pass0 (pa_cons (pv 1) pa_nil))) (pss_cons (ps_fld (pv 0) pe_dnewK rfl) (pss_one (ps_for PassesOwn.never rfl (pi_list (pv 1)) (pg_name (i := 2) sc_Program_init.nd rfl (by first | exact Or.inl rfl | exact Or.inr rfl)) (pss_cons (ps_expr (pe_call (ok_need_calls T) (hr.mono (by first | decide | omega)) (by rfl) T.g_need_calls T.F_need_calls.kp T.b_need_calls .nil pass0 (pa_cons (pe_fld (pv 0) rfl) (pa_cons (pv 2) pa_nil)))) (pss_one (ps_dput (hu_of hr) (pe_fld (pv 0) rfl) (pe_fld (pv 2) rfl) (pv 2) rfl))))))), ?_⟩
    have hal : as.length ≤ 8 := by
      have := congrArg List.length h3
      rw [List.length_map] at this
      have := c.len
      omega
    have hnd : (as.map fun p => p.2.name).Nodup := by
      rw [as_names h3]
      exact c.nd
    refine ⟨_, rfl, l, as, rfl, s0 _ _ h2, ?_, hnd, fun p hp => (h4 p hp).mono s0, hal, fun H1 s1 => ?_⟩
    · intro e
      rw [e] at h3
      exact hne h3.symm
    intro d hd
    have nad : a ≠ d := fun e => by
      subst e
      rw [s1 _ _ h1] at hd
      cases hd
    have s2 : Same H (upd H1 d (.dK [])) := s1.trans (Same.new hd)
    have nd0 : H0 d = none := (s0.trans s1).free hd
    refine ⟨_, rfl, a, _, dx, _, rfl, s2 _ _ h1, T.c_Program, T.n_Program_by_name, (by show 0 < 1000; decide), ?_⟩
    have x3 : SameX a H (upd (upd H1 d (.dK [])) a (.ins (A_Program K) dx (putF "by_name" (.ref d) []))) := SameX.put (Same.x s2)
    have s3 : Same H0 (upd (upd H1 d (.dK [])) a (.ins (A_Program K) dx (putF "by_name" (.ref d) []))) := SameX.of (SameX.trans (Same.x s0) x3) h0
    have g3 : upd (upd H1 d (.dK [])) a (.ins (A_Program K) dx (putF "by_name" (.ref d) [])) a = some (.ins (A_Program K) dx [("by_name", .ref d)]) := upd_same
    have d3 : upd (upd H1 d (.dK [])) a (.ins (A_Program K) dx (putF "by_name" (.ref d) [])) d = some (.dK []) := by
      rw [upd_ne nad.symm]
      exact upd_same
    have nHd : H d = none := s1.free hd
    generalize upd (upd H1 d (.dK [])) a (.ins (A_Program K) dx (putF "by_name" (.ref d) [])) = H3 at x3 s3 g3 d3 ⊢
    refine ⟨_, rfl, l, rfl, ⟨_, SqL.of (s3 _ _ h2)⟩, ?_⟩
    refine for_map (wm_list as fun p => V.ref p.1) (fun pre σ H4 => Same H0 H4 ∧ SameX d H3 H4 ∧ (∃ x, σ = [some (.ref a), some (.ref l), x]) ∧ H4 d = some (.dK (pre.map fun p => ((Sum.inr p.2.name : Key), V.ref p.1)))) ⟨s3, SameX.refl _ _, ⟨_, rfl⟩, d3⟩ (fun pre σ H4 q => SqL.of (q.1 _ _ h2)) (fun pre p post σ H4 e q => ?_) (fun σ H4 q => ?_)
    · obtain ⟨s4, x4, ⟨x, rfl⟩, d4⟩ := q
      have hp : p ∈ as := by
        rw [e]
        simp
      have hpn : p.2 ∈ pd := by
        rw [← h3]
        exact List.mem_map_of_mem hp
      have hpi : pd[pre.length]? = some p.2 := by
        rw [← h3, e]
        simp
      have hnd2 := hnd
      rw [e, List.map_append, List.nodup_append] at hnd2
      have g4 := x4 _ _ nad g3
      refine ⟨_, rfl, a, _, dx, _, _, rfl, g4, T.c_Program, T.n_Program_by_name, rfl, _, rfl, d, p.1, p.2, pre, rfl, d4, hnd2.1, fun q hq => (h4 q (by rw [e]; exact List.mem_append_left _ hq)).mono s4, (h4 p hp).mono s4, c.oks _ hpn, c.nms _ hpn, fun x c2 b2 k2 hr2 => ?_, fun H5 s5 => ?_⟩
      · obtain ⟨j, m, e1, e2, e3, e4⟩ := c.calls _ _ hpi x c2 b2 k2 hr2
        rw [← h3, e, List.map_append, List.getElem?_append_left (by rw [List.length_map]; omega), List.getElem?_map] at e2
        cases hq : pre[j]? with
        | none =>
          rw [hq] at e2
          cases e2
        | some q =>
          rw [hq] at e2
          obtain rfl := Option.some.inj e2
          exact ⟨q, List.mem_of_getElem? hq, e3, e4⟩
      obtain ⟨dy, ki, ko, kr, te, rs0, f1, f2, f3⟩ := id (h4 p hp)
      have hv : valV (pre.map fun p => ((Sum.inr p.2.name : Key), V.ref p.1)) (.inr p.2.name) = none := valV_no (f := fun p : PN => p.2.name) (g := fun p => V.ref p.1) fun h => hnd2.2.2 _ h p.2.name (by simp) rfl
      refine ⟨_, rfl, _, rfl, a, _, dx, _, _, rfl, s5 _ _ g4, T.c_Program, T.n_Program_by_name, rfl, _, rfl, p.1, _, dy, _, _, rfl, (s4.trans s5) _ _ f1, T.c_Node, T.n_Node_name, rfl, d, _, rfl, DPut.k (k := .inr p.2.name) (s5 _ _ d4) ?_, ?_, ?_, ⟨_, rfl⟩, ?_⟩
      · rw [List.length_map]
        rw [e] at hal
        simp at hal
        exact szl (by omega)
      · exact SameX.of (SameX.put (Same.x (s4.trans s5))) nd0
      · exact SameX.put (SameX.trans x4 (Same.x s5))
      · rw [upd_same, putK_new _ hv, List.map_append]
        rfl
    · obtain ⟨s4, x4, ⟨x, rfl⟩, d4⟩ := q
      refine k H4 ?_ ⟨c, dx, d, as, x4 _ _ nad g3, d4, h3, fun p hp => (h4 p hp).mono s4⟩
      intro b u hb e
      have hbd : b ≠ d := fun z => by
        subst z
        rw [nHd] at e
        cases e
      exact x4 _ _ hbd (x3 _ _ hb e)
end
end K99
/-! K20 -/
namespace K99
open PySem PySem.Spec PyProof.Rows L2
/-! ### counts by index -/
def ndAt (pd : List ND) (j : Nat) : ND := (pd[j]?).getD ⟨"", [], "", []⟩
theorem ndAt_some {pd : List ND} {j : Nat} {n : ND} (h : pd[j]? = some n) : ndAt pd j = n := by
  unfold ndAt
  rw [h]
  rfl
def cnt (pd : List ND) : Nat → Int
  | 0 => ((ndAt pd 0).names.length : Int)
  | j + 1 => ((ndAt pd (j + 1)).names.length : Int) + ((ndAt pd (j + 1)).calls.length : Int) * (cnt pd j - (ndAt pd j).ins.length - 1)
def isBef : Rw → Bool
  | .bef _ _ _ => true
  | _ => false
def ND.befs (n : ND) : Nat := (n.rows.filter isBef).length
def cel (pd : List ND) : Nat → Int
  | 0 => ((ndAt pd 0).befs : Int)
  | j + 1 => ((ndAt pd (j + 1)).befs : Int) + ((ndAt pd (j + 1)).calls.length : Int) * cel pd j
theorem range_pre {n x : Nat} {pre post : List Nat} (h : List.range n = pre ++ x :: post) : x = pre.length ∧ pre = List.range pre.length ∧ x < n := by
  have h1 : (List.range n)[pre.length]? = some x := by
    rw [h]
    simp
  have h2 := List.getElem?_eq_some_iff.mp h1
  obtain ⟨h3, h4⟩ := h2
  rw [List.getElem_range] at h4
  rw [List.length_range] at h3
  have h5 : pre = (List.range n).take pre.length := by
    rw [h]
    simp
  refine ⟨h4.symm, ?_, by omega⟩
  rw [List.take_range, Nat.min_eq_left (by omega)] at h5
  exact h5
theorem take_names {pd : List ND} {i : Nat} (h : i ≤ pd.length) : (pd.take i).map ND.name = (List.range i).map (nmAt pd) := by
  apply List.ext_getElem?
  intro j
  rw [List.getElem?_map, List.getElem?_map]
  rcases Nat.lt_or_ge j i with hj | hj
  · obtain ⟨n, hn⟩ := at_lt (pd := pd) (j := j) (by omega)
    rw [List.getElem?_take_of_lt hj, hn, List.getElem?_range hj]
    show some n.name = some (nmAt pd j)
    rw [nmAt_some hn]
  · rw [List.getElem?_eq_none (by rw [List.length_take]; omega), List.getElem?_eq_none (by rw [List.length_range]; omega)]
    rfl
theorem below_all {pd : List ND} {i0 : Nat} {n : ND} (h : pd[i0]? = some n) : ((pd.take i0).map ND.name).map V.str ++ [V.str n.name] = (List.range (i0 + 1)).map fun j => V.str (nmAt pd j) := by
  have hi := (List.getElem?_eq_some_iff.mp h).1
  rw [take_names (by omega), List.range_succ, List.map_append, List.map_map, List.map_cons, List.map_nil, nmAt_some h]
  rfl
def ctK (pd : List ND) (f : Nat → V) (j : Nat) : List (Key × V) := (List.range j).map fun s => ((Sum.inr (nmAt pd s) : Key), f s)
theorem range_nd {pd : List ND} (c : Ch pd) {j : Nat} (h : j ≤ pd.length) : ((List.range j).map (nmAt pd)).Nodup := by
  rw [← take_names h, List.map_take]
  exact c.nd.sublist (List.take_sublist _ _)
theorem ctK_get {pd : List ND} (c : Ch pd) {f : Nat → V} {j s : Nat} (hj : j ≤ pd.length) (hs : s < j) : valV (ctK pd f j) (.inr (nmAt pd s)) = some (f s) := valV_at (f := nmAt pd) (g := f) (range_nd c hj) (List.mem_range.mpr hs)
theorem ctK_new {pd : List ND} (c : Ch pd) {f : Nat → V} {j : Nat} (hj : j < pd.length) : valV (ctK pd f j) (.inr (nmAt pd j)) = none := valV_no (f := nmAt pd) (g := f) fun h => by
  obtain ⟨s, hs, e⟩ := List.mem_map.mp h
  have := List.mem_range.mp hs
  have := nmAt_inj c.nd (by omega) hj e
  omega
theorem ctK_put {pd : List ND} (c : Ch pd) {f : Nat → V} {j : Nat} (hj : j < pd.length) : putK (ctK pd f j) (.inr (nmAt pd j)) (f j) = ctK pd f (j + 1) := by
  rw [putK_new _ (ctK_new c hj)]
  unfold ctK
  rw [List.range_succ, List.map_append]
  rfl
theorem ctK_len {pd : List ND} (c : Ch pd) {f : Nat → V} {j : Nat} (hj : j ≤ pd.length) : (ctK pd f j).length < sizeLine := by
  unfold ctK
  rw [List.length_map, List.length_range]
  have := c.len
  exact szl (by omega)
/-- the calls of the node at j -/
theorem Ch.at_calls {pd : List ND} (c : Ch pd) {j : Nat} {n : ND} (hn : pd[j]? = some n) {p : Str × Str} (hp : p ∈ n.calls) : 1 ≤ j ∧ p.2 = nmAt pd (j - 1) := by
  obtain ⟨i, m, e1, e2, e3⟩ := c.callsN hn hp
  subst e1
  exact ⟨by omega, by rw [e3]; exact (nmAt_some e2).symm⟩
section
variable {P : Program} {w : World} {K : PySem.W.Frag} {mg : Str → Option Value} {base : Heap}
def spCnt (K : PySem.W.Frag) (f : List ND → Nat → Int) : Sp := fun vs H Q _ => ∃ (a : Addr) (pd : List ND) (i0 : Nat) (n : ND), vs = [V.ref a, .str n.name] ∧ PgO K H a pd ∧ pd[i0]? = some n ∧ ∀ H', Same H H' → Q (.int (f pd i0)) H'
theorem ok_how_many (T : Txt K mg) : FnOk P w K mg base CX0 8 (f_how_many K) (fdAt K (f_how_many K)) P_how_many (spCnt K cnt) := by
  refine FunD.ok T.F_how_many sc_how_many (fun vs H Q E h => ?_) (fun cdv A outer s H vs Q E hr h => ?_)
  · obtain ⟨a, pd, i0, n, rfl, _⟩ := h
    rfl
  · obtain ⟨a, pd, i0, n, rfl, pg, hn, k⟩ := h
    refine ⟨_, PSs.nox (pss_cons (ps_expr (pe_meth (pv 0) T.c_Program T.m_Program_named (ok_Program_named T) (hr.mono (by first | decide | omega)) T.b_Program_named .nil pass0 (pa_cons (pv 1) pa_nil))) (pss_cons (ps_set (i := 2) sc_how_many.nd rfl (by first | exact Or.inl rfl | exact Or.inr rfl) pe_dnewK) (pss_cons (ps_for PassesOwn.never rfl (pi_list (pe_op op_cat (pe_meth (pv 0) T.c_Program T.m_Program_below (ok_Program_below T) (hr.mono (by first | decide | omega)) T.b_Program_below .nil pass0 (pa_cons (pv 1) pa_nil)) (pe_lst (pa_cons (pv 1) pa_nil)))) (pg_name (i := 3) sc_how_many.nd rfl (by first | exact Or.inl rfl | exact Or.inr rfl)) (pss_cons (ps_set (i := 4) sc_how_many.nd rfl (by first | exact Or.inl rfl | exact Or.inr rfl) (pe_meth (pv 0) T.c_Program T.m_Program_named (ok_Program_named T) (hr.mono (by first | decide | omega)) T.b_Program_named .nil pass0 (pa_cons (pv 3) pa_nil))) (pss_cons (ps_set (i := 5) sc_how_many.nd rfl (by first | exact Or.inl rfl | exact Or.inr rfl) (pe_callB call_len_seq (by rfl) T.z_len PySem.boot_len (pa_cons (pe_meth0 (pv 4) T.c_Node T.m_Node_names (ok_Node_names T) (hr.mono (by first | decide | omega)) T.b_Node_names .nil pass0) pa_nil))) (pss_cons (ps_for PassesOwn.never rfl (pi_list (pe_meth (pv 0) T.c_Program T.m_Program_calls_in (ok_Program_calls_in T) (hr.mono (by first | decide | omega)) T.b_Program_calls_in .nil pass0 (pa_cons (pv 3) pa_nil))) (pg_tup rfl (pgs_cons (pg_name (i := 6) sc_how_many.nd rfl (by first | exact Or.inl rfl | exact Or.inr rfl)) (pgs_cons (pg_name (i := 7) sc_how_many.nd rfl (by first | exact Or.inl rfl | exact Or.inr rfl)) pgs_nil))) (pss_cons (ps_set (i := 8) sc_how_many.nd rfl (by first | exact Or.inl rfl | exact Or.inr rfl) (pe_meth (pv 0) T.c_Program T.m_Program_named (ok_Program_named T) (hr.mono (by first | decide | omega)) T.b_Program_named .nil pass0 (pa_cons (pv 7) pa_nil))) (pss_one (ps_aug (i := 5) sc_how_many.nd rfl (by first | exact Or.inl rfl | exact Or.inr rfl) (pe_op op_sub (pe_op op_sub (pe_dget (hu_of hr) (pv 2) (pv 7) (fun _ _ => rfl)) (pe_callB call_len_seq (by rfl) T.z_len PySem.boot_len (pa_cons (pe_meth0 (pv 8) T.c_Node T.m_Node_inputs (ok_Node_inputs T) (hr.mono (by first | decide | omega)) T.b_Node_inputs .nil pass0) pa_nil))) (pe_callB call_len_seq (by rfl) T.z_len PySem.boot_len (pa_cons (pe_meth0 (pv 8) T.c_Node T.m_Node_outs (ok_Node_outs T) (hr.mono (by first | decide | omega)) T.b_Node_outs .nil pass0) pa_nil))) ip_add)))) (pss_one (ps_dput (hu_of hr) (pv 2) (pv 3) (pv 5) rfl)))))) (pss_one (ps_ret (pe_dget (hu_of hr) (pv 2) (pv 1) (fun _ _ => rfl))))))), ?_⟩
    obtain ⟨c, dx, d, as, h1, h2, h3, h4⟩ := id pg
    have hi : i0 < pd.length := (List.getElem?_eq_some_iff.mp hn).1
    refine ⟨_, rfl, a, dx, _, rfl, h1, rfl, _, rfl, a, n, pd, rfl, pg, List.mem_of_getElem? hn, fun b nb => ?_⟩
    intro F hF
    have s1 : Same H (upd H F (.dK [])) := Same.new hF
    refine ⟨_, rfl, a, dx, _, rfl, s1 _ _ h1, rfl, _, rfl, a, pd, i0, n, rfl, pg.mono s1, hn, fun l1 H1 s2 hl1 => ?_⟩
    refine ⟨_, rfl, sz (n := 1) (by decide), fun l2 hl2 => ?_⟩
    have n12 : l1 ≠ l2 := fun e => by
      subst e
      rw [hl1] at hl2
      cases hl2
    refine ⟨l1, l2, _, _, rfl, rfl, by rw [upd_ne n12]; exact hl1, upd_same, ?_, fun l3 hl3 => ?_⟩
    · rw [List.length_map, List.length_map, List.length_take]
      have := c.len
      exact sz (by simp; omega)
    rw [below_all hn]
    have s3 : Same H1 (upd (upd H1 l2 (.lst [.str n.name])) l3 (.lst ((List.range (i0 + 1)).map fun j => V.str (nmAt pd j)))) := (Same.new hl2).trans (Same.new hl3)
    have g3 : upd (upd H1 l2 (.lst [.str n.name])) l3 (.lst ((List.range (i0 + 1)).map fun j => V.str (nmAt pd j))) l3 = some (.lst ((List.range (i0 + 1)).map fun j => V.str (nmAt pd j))) := upd_same
    generalize upd (upd H1 l2 (.lst [.str n.name])) l3 (.lst ((List.range (i0 + 1)).map fun j => V.str (nmAt pd j))) = H3 at s3 g3 ⊢
    have gF : H3 F = some (.dK []) := s3 _ _ (s2 _ _ upd_same)
    have s03 : Same H H3 := s1.trans (s2.trans s3)
    have nF3 : l3 ≠ F := fun e => by
      subst e
      rw [gF] at g3
      cases g3
    refine ⟨l3, rfl, ⟨_, SqL.of g3⟩, ?_⟩
    refine for_map (wm_list (List.range (i0 + 1)) fun j => V.str (nmAt pd j)) (fun pre σ H4 => Same H H4 ∧ SameX F H3 H4 ∧ (∃ x1 x2 x3 x4 x5 x6, σ = [some (.ref a), some (.str n.name), some (.ref F), x1, x2, x3, x4, x5, x6]) ∧ H4 F = some (.dK (ctK pd (fun s => .int (cnt pd s)) pre.length))) ⟨s03, SameX.refl _ _, ⟨_, _, _, _, _, _, rfl⟩, gF⟩ (fun pre σ H4 q => SqL.of (q.2.1 _ _ nF3 g3)) (fun pre j post σ H4 e q => ?_) (fun σ H4 q => ?_)
    · obtain ⟨s4, x4, ⟨x1, x2, x3, y4, x5, x6, rfl⟩, gF4⟩ := q
      obtain ⟨hj, hpre, hlt⟩ := range_pre e
      rw [← hj] at gF4
      obtain ⟨m, hm⟩ := at_lt (pd := pd) (j := j) (by omega)
      have hmn := nmAt_some hm
      have hmp := List.mem_of_getElem? hm
      refine ⟨_, rfl, a, dx, _, rfl, s4 _ _ h1, rfl, _, rfl, a, m, pd, by rw [hmn]; rfl, pg.mono s4, hmp, fun b2 nb2 => ?_⟩
      obtain ⟨dy, ki, ko, kr, te, rs0, f1, f2, f3⟩ := id nb2
      refine ⟨_, rfl, b2, dy, _, rfl, f1, rfl, b2, m, rfl, nb2, fun l5 H5 s5 hl5 => ?_⟩
      refine ⟨l5, _, rfl, .inl (SqL.of hl5), ?_⟩
      rw [List.length_map]
      have s45 := s4.trans s5
      refine ⟨_, rfl, a, dx, _, rfl, s45 _ _ h1, rfl, _, rfl, a, m, pd, by rw [hmn]; rfl, pg.mono s45, hmp, fun l6 ts H6 s6 hl6 e6 hS6 => ?_⟩
      refine ⟨l6, rfl, ⟨_, SqL.of hl6⟩, ?_⟩
      have gF6 := s6 _ _ (s5 _ _ gF4)
      have s46 := s45.trans s6
      refine for_map (wm_list ts fun t => V.ref t.1) (fun pre2 σ H7 => Same H6 H7 ∧ (∃ x4 x5 x6, σ = [some (.ref a), some (.str n.name), some (.ref F), some (.str (nmAt pd j)), some (.ref b2), some (.int ((m.names.length : Int) + (pre2.length : Int) * (cnt pd (j - 1) - (ndAt pd (j - 1)).ins.length - 1))), x4, x5, x6])) ⟨Same.refl _, y4, x5, x6, by simp⟩ (fun pre2 σ H7 q => SqL.of (q.1 _ _ hl6)) (fun pre2 t post2 σ H7 e2 q => ?_) (fun σ H7 q => ?_)
      · obtain ⟨s7, y4, y5, y6, rfl⟩ := q
        have ht : t ∈ ts := by
          rw [e2]
          simp
        have htc : t.2 ∈ m.calls := by
          rw [← e6]
          exact List.mem_map_of_mem ht
        obtain ⟨hj1, htn⟩ := c.at_calls hm htc
        obtain ⟨q, hq⟩ := at_lt (pd := pd) (j := j - 1) (by omega)
        have hqn := nmAt_some hq
        refine ⟨t.1, _, rfl, Same.sqt s7 (hS6 t ht), rfl, _, _, rfl, _, _, rfl, rfl, ?_⟩
        have s8 := s46.trans s7
        refine ⟨_, rfl, a, dx, _, rfl, s8 _ _ h1, rfl, _, rfl, a, q, pd, by rw [htn, hqn]; rfl, pg.mono s8, List.mem_of_getElem? hq, fun b3 nb3 => ?_⟩
        obtain ⟨dz, ki3, ko3, kr3, te3, rs3, u1, u2, u3⟩ := id nb3
        refine ⟨_, rfl, ?_⟩
        have hv := ctK_get c (f := fun s => .int (cnt pd s)) (j := j) (s := j - 1) (by omega) (by omega)
        refine ⟨_, rfl, _, rfl, F, _, rfl, by rw [htn, ← hv]; exact DGet.k (k := .inr (nmAt pd (j - 1))) (s7 _ _ gF6), ?_⟩
        refine ⟨_, rfl, b3, dz, _, rfl, u1, rfl, b3, q, rfl, nb3, fun l9 H9 s9 hl9 => ?_⟩
        refine ⟨l9, _, rfl, .inl (SqL.of hl9), _, _, rfl, rfl, ?_⟩
        refine ⟨_, rfl, b3, dz, _, rfl, s9 _ _ u1, rfl, b3, q, rfl, nb3.mono s9, fun l10 H10 s10 hl10 => ?_⟩
        refine ⟨l10, _, rfl, .inl (SqL.of hl10), _, _, rfl, rfl, ?_⟩
        refine ⟨_, _, rfl, rfl, s7.trans (s9.trans s10), some (.str t.2.1), some (.str t.2.2), some (.ref b3), ?_⟩
        rw [List.length_append, ndAt_some hq, List.length_map, List.length_map]
        have hA : ∀ A B C D : Int, A + B * (C - D - 1) + (C - D - 1) = A + (B + 1) * (C - D - 1) := fun A B C D => by
          rw [Int.add_mul, Int.one_mul, Int.add_assoc]
        have e9 : ((m.names.length : Int) + (pre2.length : Int) * (cnt pd (j - 1) - (q.ins.length : Int) - 1)) + (cnt pd (j - 1) - (q.ins.length : Int) - ([V.str q.out].length : Nat)) = (m.names.length : Int) + ((pre2.length + [t].length : Nat) : Int) * (cnt pd (j - 1) - (q.ins.length : Int) - 1) := by
          show _ + (cnt pd (j - 1) - (q.ins.length : Int) - 1) = _
          rw [hA]
          rfl
        rw [← e9]
        rfl
      · obtain ⟨s7, y4, y5, y6, rfl⟩ := q
        have hlen : ts.length = m.calls.length := by
          have := congrArg List.length e6
          rw [List.length_map] at this
          exact this
        have e8 : (m.names.length : Int) + (ts.length : Int) * (cnt pd (j - 1) - (ndAt pd (j - 1)).ins.length - 1) = cnt pd j := by
          rw [hlen]
          cases j with
          | zero =>
            have hc0 : m.calls = [] := by
              cases hc : m.calls with
              | nil => rfl
              | cons p r =>
                have := (c.at_calls hm (p := p) (by rw [hc]; exact List.mem_cons_self ..)).1
                omega
            rw [hc0]
            show (m.names.length : Int) + (0 : Int) * _ = ((ndAt pd 0).names.length : Int)
            rw [ndAt_some hm, Int.zero_mul, Int.add_zero]
          | succ i =>
            show _ = ((ndAt pd (i + 1)).names.length : Int) + ((ndAt pd (i + 1)).calls.length : Int) * (cnt pd i - (ndAt pd i).ins.length - 1)
            rw [ndAt_some hm]
            rfl
        rw [e8]
        have gF7 := s7 _ _ gF6
        refine ⟨_, rfl, _, rfl, _, rfl, F, _, rfl, DPut.k (k := .inr (nmAt pd j)) gF7 (ctK_len c (by omega)), ?_, ?_, ⟨_, _, _, _, _, _, rfl⟩, ?_⟩
        · exact SameX.of (SameX.put (Same.x (s46.trans s7))) hF
        · exact SameX.put (SameX.trans x4 (Same.x (s5.trans (s6.trans s7))))
        · rw [upd_same, List.length_append, ← hj]
          exact congrArg (fun x => some (HO.dK x)) (ctK_put c (f := fun s => .int (cnt pd s)) (by omega))
    · obtain ⟨s4, x4, ⟨x1, x2, x3, y4, x5, x6, rfl⟩, gF4⟩ := q
      rw [List.length_range] at gF4
      have hv := ctK_get c (f := fun s => .int (cnt pd s)) (j := i0 + 1) (s := i0) (by omega) (by omega)
      refine ⟨_, rfl, _, rfl, F, _, rfl, by rw [← hv, nmAt_some hn]; exact DGet.k (k := .inr n.name) gF4, k H4 s4⟩
end
end K99
/-! K21 -/
namespace K99
open PySem PySem.Spec PyProof.Rows L2
section
variable {P : Program} {w : World} {K : PySem.W.Frag} {mg : Str → Option Value} {base : Heap}
theorem sum_rep (n : Nat) (x : Int) : (List.replicate n x).sum = (n : Int) * x := by
  induction n with
  | zero => simp
  | succ n ih =>
    rw [List.replicate_succ, List.sum_cons, ih]
    have : ((n + 1 : Nat) : Int) = (n : Int) + 1 := by omega
    rw [this, Int.add_mul, Int.one_mul, Int.add_comm]
theorem ok_cells_in (T : Txt K mg) : FnOk P w K mg base CX0 8 (f_cells_in K) (fdAt K (f_cells_in K)) P_cells_in (spCnt K cel) := by
  refine FunD.ok T.F_cells_in sc_cells_in (fun vs H Q E h => ?_) (fun cdv A outer s H vs Q E hr h => ?_)
  · obtain ⟨a, pd, i0, n, rfl, _⟩ := h
    rfl
  · obtain ⟨a, pd, i0, n, rfl, pg, hn, k⟩ := h
    refine ⟨_, PSs.nox (pss_cons (ps_expr (pe_meth (pv 0) T.c_Program T.m_Program_named (ok_Program_named T) (hr.mono (by first | decide | omega)) T.b_Program_named .nil pass0 (pa_cons (pv 1) pa_nil))) (pss_cons (ps_set (i := 2) sc_cells_in.nd rfl (by first | exact Or.inl rfl | exact Or.inr rfl) pe_dnewK) (pss_cons (ps_for PassesOwn.never rfl (pi_list (pe_op op_cat (pe_meth (pv 0) T.c_Program T.m_Program_below (ok_Program_below T) (hr.mono (by first | decide | omega)) T.b_Program_below .nil pass0 (pa_cons (pv 1) pa_nil)) (pe_lst (pa_cons (pv 1) pa_nil)))) (pg_name (i := 3) sc_cells_in.nd rfl (by first | exact Or.inl rfl | exact Or.inr rfl)) (pss_cons (ps_set (i := 4) sc_cells_in.nd rfl (by first | exact Or.inl rfl | exact Or.inr rfl) (pe_callB call_len_seq (by rfl) T.z_len PySem.boot_len (pa_cons (pe_lc (own := [("row", 5)]) (by rfl) sc_cells_in.nd (pi_list (pe_meth0 (pe_meth (pv 0) T.c_Program T.m_Program_named (ok_Program_named T) (hr.mono (by first | decide | omega)) T.b_Program_named .nil pass0 (pa_cons (pv 3) pa_nil)) T.c_Node T.m_Node_rows (ok_Node_rows T) (hr.mono (by first | decide | omega)) T.b_Node_rows .nil pass0)) (blkOk_by (N := N_cells_in) (sc := defScope s_cells_in) (by decide +kernel)) (fun _ _ _ _ _ => (pg_name (i := 5) sc_cells_in.nd rfl (by first | exact Or.inl rfl | exact Or.inr rfl))) (fun _ _ _ _ _ => (pts_one (pt_cmpR (r := rIn K false) op_in_seq (pe_ix (r := rIxT K) ix_tup (pe_um0 (p := fun _ => True) (fun d _ => me_told T d) (pv 5) (hr.mono (by first | decide | omega)) pass0) pe_int (fun _ _ => rfl)) (pe_tup (pa_cons pe_str (pa_cons pe_str pa_nil))) (by rfl)))) (fun _ _ _ _ _ => (pv 5))) pa_nil))) (pss_one (ps_dput (hu_of hr) (pv 2) (pv 3) (pe_op op_add (pv 4) (pe_callB (cr_sum (by rfl)) (by rfl) T.z_sum (by decide +kernel) (pa_cons (pe_lc (own := [("first", 6), ("called", 7)]) (by rfl) sc_cells_in.nd (pi_list (pe_meth (pv 0) T.c_Program T.m_Program_calls_in (ok_Program_calls_in T) (hr.mono (by first | decide | omega)) T.b_Program_calls_in .nil pass0 (pa_cons (pv 3) pa_nil))) (blkOk_by (N := N_cells_in) (sc := defScope s_cells_in) (by decide +kernel)) (fun _ _ _ _ _ => (pg_tupK (K := K) (n := 2) rfl (pgs_cons (pg_name (i := 6) sc_cells_in.nd rfl (by first | exact Or.inl rfl | exact Or.inr rfl)) (pgs_cons (pg_name (i := 7) sc_cells_in.nd rfl (by first | exact Or.inl rfl | exact Or.inr rfl)) pgs_nil)))) (fun _ _ _ _ _ => pts_nil) (fun _ _ _ _ _ => (pe_dget (hu_of hr) (pv 2) (pv 7) (fun _ _ => rfl)))) pa_nil))) rfl)))) (pss_one (ps_ret (pe_dget (hu_of hr) (pv 2) (pv 1) (fun _ _ => rfl))))))), ?_⟩
    obtain ⟨c, dx, d, as, h1, h2, h3, h4⟩ := id pg
    have hi : i0 < pd.length := (List.getElem?_eq_some_iff.mp hn).1
    refine ⟨_, rfl, a, dx, _, rfl, h1, rfl, _, rfl, a, n, pd, rfl, pg, List.mem_of_getElem? hn, fun b nb => ?_⟩
    intro F hF
    have s1 : Same H (upd H F (.dK [])) := Same.new hF
    refine ⟨_, rfl, a, dx, _, rfl, s1 _ _ h1, rfl, _, rfl, a, pd, i0, n, rfl, pg.mono s1, hn, fun l1 H1 s2 hl1 => ?_⟩
    refine ⟨_, rfl, sz (n := 1) (by decide), fun l2 hl2 => ?_⟩
    have n12 : l1 ≠ l2 := fun e => by
      subst e
      rw [hl1] at hl2
      cases hl2
    refine ⟨l1, l2, _, _, rfl, rfl, by rw [upd_ne n12]; exact hl1, upd_same, ?_, fun l3 hl3 => ?_⟩
    · rw [List.length_map, List.length_map, List.length_take]
      have := c.len
      exact sz (by simp; omega)
    rw [below_all hn]
    have s3 : Same H1 (upd (upd H1 l2 (.lst [.str n.name])) l3 (.lst ((List.range (i0 + 1)).map fun j => V.str (nmAt pd j)))) := (Same.new hl2).trans (Same.new hl3)
    have g3 : upd (upd H1 l2 (.lst [.str n.name])) l3 (.lst ((List.range (i0 + 1)).map fun j => V.str (nmAt pd j))) l3 = some (.lst ((List.range (i0 + 1)).map fun j => V.str (nmAt pd j))) := upd_same
    generalize upd (upd H1 l2 (.lst [.str n.name])) l3 (.lst ((List.range (i0 + 1)).map fun j => V.str (nmAt pd j))) = H3 at s3 g3 ⊢
    have gF : H3 F = some (.dK []) := s3 _ _ (s2 _ _ upd_same)
    have s03 : Same H H3 := s1.trans (s2.trans s3)
    have nF3 : l3 ≠ F := fun e => by
      subst e
      rw [gF] at g3
      cases g3
    refine ⟨l3, rfl, ⟨_, SqL.of g3⟩, ?_⟩
    refine for_map (wm_list (List.range (i0 + 1)) fun j => V.str (nmAt pd j)) (fun pre σ H4 => Same H H4 ∧ SameX F H3 H4 ∧ (∃ x1 x2 x3 x4 x5, σ = [some (.ref a), some (.str n.name), some (.ref F), x1, x2, x3, x4, x5]) ∧ H4 F = some (.dK (ctK pd (fun s => .int (cel pd s)) pre.length))) ⟨s03, SameX.refl _ _, ⟨_, _, _, _, _, rfl⟩, gF⟩ (fun pre σ H4 q => SqL.of (q.2.1 _ _ nF3 g3)) (fun pre j post σ H4 e q => ?_) (fun σ H4 q => ?_)
    · obtain ⟨s4, x4, ⟨x1, x2, x3, y4, x5, rfl⟩, gF4⟩ := q
      obtain ⟨hj, hpre, hlt⟩ := range_pre e
      rw [← hj] at gF4
      obtain ⟨m, hm⟩ := at_lt (pd := pd) (j := j) (by omega)
      have hmn := nmAt_some hm
      have hmp := List.mem_of_getElem? hm
      have ok := c.oks m hmp
      refine ⟨_, rfl, a, dx, _, rfl, s4 _ _ h1, rfl, _, rfl, a, m, pd, by rw [hmn]; rfl, pg.mono s4, hmp, fun b2 nb2 => ?_⟩
      obtain ⟨dy, ki, ko, kr, te, rs0, f1, f2, f3⟩ := id nb2
      refine ⟨b2, dy, _, rfl, f1, rfl, b2, m, rfl, nb2, fun l5 rs H5 s5 hl5 e5 eq5 => ?_⟩
      refine ⟨l5, rfl, ⟨_, SqL.of hl5⟩, fun D hD => ?_⟩
      have hrl := rs_len e5 ok
      refine lc_flat (wm_list rs fun p => V.ref p.1) (fun p => isBef p.2) (fun p => .ref p.1) hD (Nat.le_trans hrl (by decide)) (fun H' s' => SqL.of (s' _ _ hl5)) (fun _ => rfl) (fun p H6 hp s6 Q' q => ?_) (fun p H6 hp _ s6 Q' q => ⟨_, rfl, q H6 (Same.refl _)⟩) (fun H6 s6 h6 => ?_)
      · have o2 : EqO K H6 p.1 p.2 := (eq5 p hp).mono s6
        refine ⟨p.2, trivial, _, rfl, p.1, rfl, o2, p.1, rfl, o2, fun dd hd => ?_⟩
        obtain ⟨more, hmr⟩ := rw_tup hd
        refine ⟨dd, _, 0, _, rfl, rfl, hmr, at0, sz (n := 2) (by decide), fun t ht => ⟨t, _, rfl, .inr (SqT.of upd_same), rfl, rfl, isBef p.2, ?_, q _ (Same.new ht)⟩⟩
        cases p.2 <;> rfl
      have s46 := s4.trans (s5.trans s6)
      refine ⟨D, _, rfl, .inl (SqL.of h6), ?_⟩
      have eb : ((rs.filter fun p => isBef p.2).map fun p => V.ref p.1).length = m.befs := by
        unfold ND.befs
        rw [List.length_map, ← e5, List.filter_map, List.length_map]
        rfl
      rw [eb]
      refine ⟨_, rfl, _, rfl, a, dx, _, rfl, s46 _ _ h1, rfl, _, rfl, a, m, pd, by rw [hmn]; rfl, pg.mono s46, hmp, fun l7 ts H7 s7 hl7 e7 hS7 => ?_⟩
      refine ⟨l7, rfl, ⟨_, SqL.of hl7⟩, fun D2 hD2 => ?_⟩
      have gF7 := s7 _ _ (s6 _ _ (s5 _ _ gF4))
      have htl : ts.length ≤ 20 := by
        have := congrArg List.length e7
        rw [List.length_map] at this
        have := c.cnt m hmp
        omega
      refine lc_pair (wm_list ts fun t => V.ref t.1) (fun t => .int (cel pd (j - 1))) hD2 (Nat.le_trans htl (by decide)) (fun H' s' => SqL.of (s' _ _ hl7)) hS7 (fun _ _ => rfl) (fun _ _ _ q => q) (fun t H8 ht s8 Q' q => ?_) (fun H8 s8 h8 => ?_)
      · have htc : t.2 ∈ m.calls := by
          rw [← e7]
          exact List.mem_map_of_mem ht
        obtain ⟨hj1, htn⟩ := c.at_calls hm htc
        have hv := ctK_get c (f := fun s => .int (cel pd s)) (j := j) (s := j - 1) (by omega) (by omega)
        exact ⟨_, rfl, _, rfl, F, _, rfl, by rw [htn, ← hv]; exact DGet.k (k := .inr (nmAt pd (j - 1))) (s8 _ _ gF7), q H8 (Same.refl _)⟩
      have et : ts.map (fun _ => V.int (cel pd (j - 1))) = (List.replicate m.calls.length (cel pd (j - 1))).map V.int := by
        rw [← e7, List.length_map, List.map_replicate, List.map_const']
      rw [et] at h8
      refine ⟨D2, _, rfl, SqL.of h8, ?_⟩
      rw [sum_rep]
      have e8 : (m.befs : Int) + (m.calls.length : Int) * cel pd (j - 1) = cel pd j := by
        cases j with
        | zero =>
          have hc0 : m.calls = [] := by
            cases hc : m.calls with
            | nil => rfl
            | cons p r =>
              have := (c.at_calls hm (p := p) (by rw [hc]; exact List.mem_cons_self ..)).1
              omega
          rw [hc0]
          show (m.befs : Int) + (0 : Int) * _ = ((ndAt pd 0).befs : Int)
          rw [ndAt_some hm, Int.zero_mul, Int.add_zero]
        | succ i =>
          show _ = ((ndAt pd (i + 1)).befs : Int) + ((ndAt pd (i + 1)).calls.length : Int) * cel pd i
          rw [ndAt_some hm]
          rfl
      have gF8 := s8 _ _ gF7
      refine ⟨_, _, rfl, rfl, _, rfl, _, rfl, F, _, rfl, DPut.k (k := .inr (nmAt pd j)) gF8 (ctK_len c (by omega)), ?_, ?_, ⟨_, _, _, _, _, rfl⟩, ?_⟩
      · exact SameX.of (SameX.put (Same.x (s46.trans (s7.trans s8)))) hF
      · exact SameX.put (SameX.trans x4 (Same.x (s5.trans (s6.trans (s7.trans s8)))))
      · rw [upd_same, List.length_append, ← hj]
        show some (HO.dK (putK _ _ (V.int ((m.befs : Int) + (m.calls.length : Int) * cel pd (j - 1))))) = _
        rw [e8]
        exact congrArg (fun x => some (HO.dK x)) (ctK_put c (f := fun s => .int (cel pd s)) (by omega))
    · obtain ⟨s4, x4, ⟨x1, x2, x3, y4, x5, rfl⟩, gF4⟩ := q
      rw [List.length_range] at gF4
      have hv := ctK_get c (f := fun s => .int (cel pd s)) (j := i0 + 1) (s := i0) (by omega) (by omega)
      refine ⟨_, rfl, _, rfl, F, _, rfl, by rw [← hv, nmAt_some hn]; exact DGet.k (k := .inr n.name) gF4, k H4 s4⟩
end
end K99
/-! KM -/
namespace K99
open PySem PySem.Spec PyProof.Rows L2
/-! ### a tuple taken no times -/
theorem tm0_new (l : Addr) (items : Array Value) (n : Nat) (dd : Option Addr) (sl : Array (Option Value)) (u : Tok) (c1 : (items.isEmpty || (0 : Int) == 1) = false) :
    Meets (Builtin.«tuple.__mul__» ⟨[.ref l, .int 0 u], []⟩) (fun _ R s => s.heap.get? l = some { cls := .type "tuple", dict := dd, data := .seq items n, slots := sl } ∧
      R (.ok (.ret (Value.ref s.heap.objs.size))) { s with heap := s.heap.push { cls := Value.type "tuple", data := Data.seq #[] }, toks := s.toks }) :=
  .of_wp fun prog w A R s h => by
    obtain ⟨hp, g, d, tk, os⟩ := s
    obtain ⟨hl, h⟩ := h
    have f1 := AutoSeq1.idx_int
    wp_walk using wpAny_loadPart' hl
    repeat (first
      | (refine wpAny_ite_false (decide_eq_false (by decide)) ?_; wp_walk using wpAny_loadPart' hl)
      | (refine wpAny_ite_false (decide_eq_false (by rw [c1]; exact Bool.false_ne_true)) ?_; wp_walk using wpAny_loadPart' hl)
      | (refine wpAny_ite_true (decide_eq_true (by rfl)) ?_; wp_walk using wpAny_loadPart' hl))
    exact ⟨_, rfl, h⟩
theorem tm0_same (l : Addr) (n : Nat) (dd : Option Addr) (sl : Array (Option Value)) (u : Tok) :
    Meets (Builtin.«tuple.__mul__» ⟨[.ref l, .int 0 u], []⟩) (fun _ R s => s.heap.get? l = some { cls := .type "tuple", dict := dd, data := .seq #[] n, slots := sl } ∧ R (.ok (.ret (Value.ref l))) s) :=
  .of_wp fun prog w A R s h => by
    obtain ⟨hp, g, d, tk, os⟩ := s
    obtain ⟨hl, h⟩ := h
    have f1 := AutoSeq1.idx_int
    wp_walk using wpAny_loadPart' hl
    exact ⟨_, rfl, h⟩
def rMul0 (K : PySem.W.Frag) : R2 := fun x y H Q => ∃ l xs, x = .ref l ∧ y = .int 0 ∧ SqT K H l xs ∧ (xs = [] → Q (.ref l) H) ∧ (xs ≠ [] → ∀ p, H p = none → Q (.ref p) (upd H p (.tup [])))
theorem op_mul0 {X : Cx} : OpR X (binaryOp .Mult) (rMul0 X.K) := by
  intro pins s σ H x y v u Q I rx ry h
  obtain ⟨l, xs, rfl, rfl, hT, q0, q1⟩ := h
  cases rx
  obtain ⟨t, rfl⟩ := ry
  obtain ⟨its, r, ⟨⟨cls, dd, data, sl⟩, ho, hc, n, hd⟩, hs⟩ := I.tuple hT
  simp only at hc hd
  subst hc hd
  have ho0 := ho
  cases hi : its with
  | nil =>
    rw [hi] at ho r
    have hx : xs = [] := by
      cases r
      rfl
    exact wpAny_binaryOp_repeat_ref (T := "tuple") (U := "int") (by decide) ⟨_, ho, rfl⟩ (fun s' => typeIs_int s' 0 t) noFill_tuple_mul PySem.F.fills_int_mul PySem.F.slot_int_rmul repeat_tuple PySem.F.slot_int_index.lookup
      (call_meets PySem.F.slot_int_rmul (typeIs_int s 0 t) PySem.F.entry_int_rmul (PySem.F.args_int_rmul_2 _ _) (int_rmul_tuple 0 t l _ n dd sl)
        ⟨ho, rfl, ⟨_, ho, rfl⟩, call_meets PySem.F.slot_tuple_mul ⟨_, ho, rfl⟩ PySem.F.entry_tuple_mul (PySem.F.args_tuple_mul_2 _ _) (tm0_same l n dd sl t) ⟨ho, .ref l, H, I, rfl, q0 hx⟩⟩)
  | cons a b =>
    rw [hi] at ho r
    have hx : xs ≠ [] := fun e => by
      subst e
      cases r
    exact wpAny_binaryOp_repeat_ref (T := "tuple") (U := "int") (by decide) ⟨_, ho, rfl⟩ (fun s' => typeIs_int s' 0 t) noFill_tuple_mul PySem.F.fills_int_mul PySem.F.slot_int_rmul repeat_tuple PySem.F.slot_int_index.lookup
      (call_meets PySem.F.slot_int_rmul (typeIs_int s 0 t) PySem.F.entry_int_rmul (PySem.F.args_int_rmul_2 _ _) (int_rmul_tuple 0 t l _ n dd sl)
        ⟨ho, rfl, ⟨_, ho, rfl⟩, call_meets PySem.F.slot_tuple_mul ⟨_, ho, rfl⟩ PySem.F.entry_tuple_mul (PySem.F.args_tuple_mul_2 _ _) (tm0_new l _ n dd sl t rfl)
          ⟨ho, .ref s.heap.objs.size, _, I.laid (t' := s.toks) (o := .tup []) (fun b ob q => Heap.get?_push_of_some _ q) (Nat.le_refl _) ⟨Nat.zero_le _, [], .nil, IsTup.new _ _⟩, rfl, q1 hx _ (I.hok.fresh (Nat.le_refl _))⟩⟩)
end K99
/-! K22 -/
namespace K99
open PySem PySem.Spec PyProof.Rows L2
/-! ### nodes by themselves -/
abbrev ff (nd kn c r : Addr) (g s : V) : List (Str × V) := [("ground", .ref nd), ("known", .ref kn), ("clocks", .ref c), ("reads", .ref r), ("all_gifts", g), ("own_summary", s)]
/-- a summary of one out -/
def SumT (K : PySem.W.Frag) (H : Hp) (su : Addr) (out in0 : Str) (b : Bool) : Prop := ∃ t e f h, SqT K H su [.ref t] ∧ SqT K H t [.str out, .ref e, .ref f, .ref h] ∧ SqT K H e [] ∧ SqT K H f [.str in0] ∧ SqT K H h ((if b = true then [in0] else []).map .str)
theorem SumT.mono {K : PySem.W.Frag} {H H' : Hp} {su : Addr} {out in0 : Str} {b : Bool} (s : Same H H') (h : SumT K H su out in0 b) : SumT K H' su out in0 b := by
  obtain ⟨t, e, f, h, h1, h2, h3, h4, h5⟩ := h
  exact ⟨t, e, f, h, Same.sqt s h1, Same.sqt s h2, Same.sqt s h3, Same.sqt s h4, Same.sqt s h5⟩
theorem SumT.monoN {K : PySem.W.Frag} {H H' : Hp} {su : Addr} {out in0 : Str} {b : Bool} (s : SameN H H') (h : SumT K H su out in0 b) : SumT K H' su out in0 b := by
  obtain ⟨t, e, f, h, h1, h2, h3, h4, h5⟩ := h
  exact ⟨t, e, f, h, SameN.sqt s h1, SameN.sqt s h2, SameN.sqt s h3, SameN.sqt s h4, SameN.sqt s h5⟩
/-- a fit that has told its summary -/
def FitD (K : PySem.W.Frag) (H : Hp) (f : Addr) (n : ND) (in0 : Str) (b : Bool) : Prop := ∃ dx nd kn c r g su, H f = some (.ins (A_Fit K) dx (ff nd kn c r g (.ref su))) ∧ NdO K H nd n ∧ SumT K H su n.out in0 b
theorem FitD.mono {K : PySem.W.Frag} {H H' : Hp} {f : Addr} {n : ND} {in0 : Str} {b : Bool} (s : Same H H') (h : FitD K H f n in0 b) : FitD K H' f n in0 b := by
  obtain ⟨dx, nd, kn, c, r, g, su, h1, h2, h3⟩ := h
  exact ⟨dx, nd, kn, c, r, g, su, s _ _ h1, h2.mono s, h3.mono s⟩
structure Sh where
  in0 : Str
  more : List Str
  kept : Str
  v : Int
  xs : List Str
  c : Str
  k : Nat
  t : Tm
structure Sh.ok (s : Sh) (n : ND) : Prop where
  ins : n.ins = s.in0 :: s.more
  rows : n.rows = .bef s.kept s.v s.in0 :: (s.xs.map (fun x => .call x s.c s.in0 s.k) ++ [.pln n.out s.t])
  kt : s.kept ∈ s.t.nms
  sub : ∀ z, z ∈ s.t.nms → z = s.kept ∨ z ∈ s.xs ∨ z = s.in0
def shAt (ss : List Sh) (j : Nat) : Sh := (ss[j]?).getD ⟨"", [], "", 0, [], "", 0, .nm ""⟩
def stAt (ss : List Sh) : Nat → Bool
  | 0 => decide ((shAt ss 0).in0 ∈ (shAt ss 0).t.nms)
  | j + 1 => decide ((shAt ss (j + 1)).in0 ∈ (shAt ss (j + 1)).t.nms) || (((shAt ss (j + 1)).xs.any fun x => decide (x ∈ (shAt ss (j + 1)).t.nms)) && stAt ss j)
def Shs (pd : List ND) (ss : List Sh) : Prop := ∀ j n, pd[j]? = some n → (shAt ss j).ok n
/-- the fits of the nodes below -/
def KnO (K : PySem.W.Frag) (H : Hp) (kn : Addr) (pd : List ND) (ss : List Sh) (j : Nat) : Prop := ∃ fa : Nat → Addr, H kn = some (.dK (ctK pd (fun s => .ref (fa s)) j)) ∧ ∀ s, s < j → FitD K H (fa s) (ndAt pd s) (shAt ss s).in0 (stAt ss s)
theorem KnO.mono {K : PySem.W.Frag} {H H' : Hp} {kn : Addr} {pd : List ND} {ss : List Sh} {j : Nat} (s : Same H H') (h : KnO K H kn pd ss j) : KnO K H' kn pd ss j := by
  obtain ⟨fa, h1, h2⟩ := h
  exact ⟨fa, s _ _ h1, fun i hi => (h2 i hi).mono s⟩
def nmo (ins : List Str) (a out x : Str) : List (Key × V) := (ins.map fun i => ((Sum.inr i : Key), V.str a)) ++ [(Sum.inr out, .str x)]
theorem merge_nodup {more : List (Key × V)} (h : (more.map (·.1)).Nodup) : ∀ kvs : List (Key × V), (∀ p, p ∈ more → p.1 ∉ kvs.map (·.1)) → mergeK kvs more = kvs ++ more := by
  induction more with
  | nil =>
    intro kvs _
    rw [List.append_nil]
    rfl
  | cons p r ih =>
    intro kvs hk
    rw [List.map_cons, List.nodup_cons] at h
    show mergeK (putK kvs p.1 p.2) r = _
    rw [putK_new _ (valV_none (hk p (List.mem_cons_self ..))), ih h.2 _ fun q hq hm => ?_]
    · rw [List.append_assoc]
      rfl
    · rw [List.map_append] at hm
      rcases List.mem_append.mp hm with hm | hm
      · exact hk q (List.mem_cons_of_mem _ hq) hm
      · rw [List.map_cons, List.map_nil] at hm
        have := List.mem_singleton.mp hm
        exact h.1 (this ▸ List.mem_map_of_mem hq)
theorem merge_self {more : List (Key × V)} (h : (more.map (·.1)).Nodup) : mergeK [] more = more := by
  rw [merge_nodup h [] fun p _ hm => by cases hm]
  rfl
theorem inr_nodup {xs : List Str} (h : xs.Nodup) : (xs.map (Sum.inr : Str → Key)).Nodup := by
  rw [List.Nodup, List.pairwise_map]
  exact List.Pairwise.imp (fun {a b} hab e => hab (by injection e)) h
theorem zip_rep {α : Type} : ∀ {xs : List α} {k : Nat} {y : V}, k = xs.length → xs.zip (List.replicate k y) = xs.map fun x => (x, y)
  | [], _, _, h => by
    subst h
    rfl
  | x :: r, _, y, h => by
    subst h
    rw [List.length_cons, List.replicate_succ, List.zip_cons_cons, zip_rep rfl]
    rfl
section
variable {P : Program} {w : World} {K : PySem.W.Frag} {mg : Str → Option Value} {base : Heap}
def spClockBy (K : PySem.W.Frag) : Sp := fun vs H Q _ => ∃ a b, vs = [V.ref a, .bl false, .ref b] ∧ SqT K H a [] ∧ SqT K H b [] ∧ Q (.ref b) H
theorem ok_clock_by (T : Txt K mg) : FnOk P w K mg base CX0 1 (f_clock_by K) (fdAt K (f_clock_by K)) P_clock_by (spClockBy K) := by
  refine FunD.ok T.F_clock_by sc_clock_by (fun vs H Q E h => ?_) (fun cdv A outer s H vs Q E hr h => ?_)
  · obtain ⟨a, b, rfl, _⟩ := h
    rfl
  · obtain ⟨a, b, rfl, h1, h2, k⟩ := h
    refine ⟨_, PSs.nox (pss_cons (ps_if (PW.pt (pw_and (pt_val (pv 1)) (pw_and1 (pt_cmpR (op_eqD hr.units) (pv 0) (pe_tup pa_nil) (by rfl))))) pB pss_nil) (pss_cons (ps_if (pt_val (pv 1)) pB pss_nil) (pss_one (ps_ret (pe_op op_catA (pv 0) (pv 2)))))), ?_⟩
    refine ⟨_, rfl, false, rfl, iteF ?_⟩
    refine iteF ?_
    refine ⟨_, rfl, false, rfl, iteF ?_⟩
    exact ⟨_, rfl, _, rfl, a, b, [], [], rfl, rfl, h1, h2, Nat.zero_le _, fun _ => k, fun h => absurd rfl h, fun h => absurd rfl h⟩
def spFitInit (K : PySem.W.Frag) : Sp := fun vs H Q _ => ∃ a nd kn dx, vs = [V.ref a, .ref nd, .ref kn] ∧ H a = some (.ins (A_Fit K) dx []) ∧ ∀ c r H', SameX a H H' → H' a = some (.ins (A_Fit K) dx (ff nd kn c r .non .non)) → H' c = some (.dK []) → H' r = some (.dK []) → H c = none → H r = none → c ≠ r → Q .non H'
theorem ok_Fit_init (T : Txt K mg) : FnOk P w K mg base CX0 1 (f_Fit_init K) (fdAt K (f_Fit_init K)) P_Fit_init (spFitInit K) := by
  refine FunD.ok T.F_Fit_init sc_Fit_init (fun vs H Q E h => ?_) (fun cdv A outer s H vs Q E hr h => ?_)
  · obtain ⟨a, nd, kn, dx, rfl, _⟩ := h
    rfl
  · obtain ⟨a, nd, kn, dx, rfl, h1, k⟩ := h
    refine ⟨_, PSs.nox (pss_cons (ps_fld (pv 0) (pv 1) rfl) (pss_cons (ps_fld (pv 0) (pv 2) rfl) (pss_cons (ps_fld (pv 0) pe_dnewK rfl) (pss_cons (ps_fld (pv 0) pe_dnewK rfl) (pss_cons (ps_fld (pv 0) pe_non rfl) (pss_one (ps_fld (pv 0) pe_non rfl))))))), ?_⟩
    refine ⟨_, rfl, _, rfl, a, _, dx, _, rfl, h1, T.c_Fit, T.n_Fit_ground, (by show 0 < 1000; decide), ?_⟩
    refine ⟨_, rfl, _, rfl, a, _, dx, _, rfl, upd_same, T.c_Fit, T.n_Fit_known, (by show 1 < 1000; decide), ?_⟩
    have x2 : SameX a H (upd (upd H a (.ins (A_Fit K) dx (putF "ground" (.ref nd) []))) a (.ins (A_Fit K) dx (putF "known" (.ref kn) (putF "ground" (.ref nd) [])))) := SameX.put (SameX.put (SameX.refl _ _))
    have g2 : upd (upd H a (.ins (A_Fit K) dx (putF "ground" (.ref nd) []))) a (.ins (A_Fit K) dx (putF "known" (.ref kn) (putF "ground" (.ref nd) []))) a = some (.ins (A_Fit K) dx [("ground", .ref nd), ("known", .ref kn)]) := upd_same
    generalize upd (upd H a (.ins (A_Fit K) dx (putF "ground" (.ref nd) []))) a (.ins (A_Fit K) dx (putF "known" (.ref kn) (putF "ground" (.ref nd) []))) = H2 at x2 g2 ⊢
    intro c hc
    have nac : a ≠ c := fun e => by
      subst e
      rw [g2] at hc
      cases hc
    refine ⟨_, rfl, a, _, dx, _, rfl, by rw [upd_ne nac]; exact g2, T.c_Fit, T.n_Fit_clocks, (by show 2 < 1000; decide), ?_⟩
    have x3 : SameX a H (upd (upd H2 c (.dK [])) a (.ins (A_Fit K) dx (putF "clocks" (.ref c) [("ground", .ref nd), ("known", .ref kn)]))) := SameX.put (SameX.trans x2 (Same.x (Same.new hc)))
    have g3 : upd (upd H2 c (.dK [])) a (.ins (A_Fit K) dx (putF "clocks" (.ref c) [("ground", .ref nd), ("known", .ref kn)])) a = some (.ins (A_Fit K) dx [("ground", .ref nd), ("known", .ref kn), ("clocks", .ref c)]) := upd_same
    have c3 : upd (upd H2 c (.dK [])) a (.ins (A_Fit K) dx (putF "clocks" (.ref c) [("ground", .ref nd), ("known", .ref kn)])) c = some (.dK []) := by
      rw [upd_ne nac.symm]
      exact upd_same
    have nHc : H c = none := by
      cases hq : H c with
      | none => rfl
      | some u =>
        have := x2 c u nac.symm hq
        rw [hc] at this
        cases this
    generalize upd (upd H2 c (.dK [])) a (.ins (A_Fit K) dx (putF "clocks" (.ref c) [("ground", .ref nd), ("known", .ref kn)])) = H3 at x3 g3 c3 ⊢
    intro r hr2
    have nar : a ≠ r := fun e => by
      subst e
      rw [g3] at hr2
      cases hr2
    have ncr : c ≠ r := fun e => by
      subst e
      rw [c3] at hr2
      cases hr2
    have nHr : H r = none := by
      cases hq : H r with
      | none => rfl
      | some u =>
        have := x3 r u nar.symm hq
        rw [hr2] at this
        cases this
    refine ⟨_, rfl, a, _, dx, _, rfl, by rw [upd_ne nar]; exact g3, T.c_Fit, T.n_Fit_reads, (by show 3 < 1000; decide), ?_⟩
    refine ⟨_, rfl, a, _, dx, _, rfl, upd_same, T.c_Fit, T.n_Fit_all_gifts, (by show 4 < 1000; decide), ?_⟩
    refine ⟨_, rfl, a, _, dx, _, rfl, upd_same, T.c_Fit, T.n_Fit_own_summary, (by show 5 < 1000; decide), ?_⟩
    refine k c r _ (SameX.put (SameX.put (SameX.put (SameX.trans x3 (Same.x (Same.new hr2)))))) upd_same ?_ ?_ nHc nHr ncr
    · rw [upd_ne nac.symm, upd_ne nac.symm, upd_ne nac.symm, upd_ne ncr]
      exact c3
    · rw [upd_ne nar.symm, upd_ne nar.symm, upd_ne nar.symm]
      exact upd_same
def spSumD (K : PySem.W.Frag) : Sp := fun vs H Q _ => ∃ a dx nd kn c r g su, vs = [V.ref a] ∧ H a = some (.ins (A_Fit K) dx (ff nd kn c r g (.ref su))) ∧ Q (.ref su) H
theorem ok_sumD (T : Txt K mg)  : FnOk P w K mg base CX0 1 (f_Fit_summary K) (fdAt K (f_Fit_summary K)) P_Fit_summary (spSumD K) := by
  refine FunD.ok T.F_Fit_summary sc_Fit_summary (fun vs H Q E h => ?_) (fun cdv A outer s H vs Q E hr h => ?_)
  · obtain ⟨a, dx, nd, kn, c, r, g, su, rfl, _⟩ := h
    rfl
  · obtain ⟨a, dx, nd, kn, c, r, g, su, rfl, h1, k⟩ := h
    refine ⟨_, PSs.nox (pss_cons (ps_if (pt_cmp (pc_isN (pe_fld (pv 0) rfl))) pB pss_nil) (pss_one (ps_ret (pe_fld (pv 0) rfl)))), ?_⟩
    refine ⟨_, rfl, a, _, dx, _, _, rfl, h1, T.c_Fit, T.n_Fit_own_summary, rfl, false, rfl, iteF ?_⟩
    exact ⟨_, rfl, a, _, dx, _, _, rfl, h1, T.c_Fit, T.n_Fit_own_summary, rfl, k⟩
end
end K99
/-! K23 -/
namespace K99
open PySem PySem.Spec PyProof.Rows L2
section
variable {P : Program} {w : World} {K : PySem.W.Frag} {mg : Str → Option Value} {base : Heap}
/-- the fit at the j-th node, with the fits of those below -/
structure Cur (K : PySem.W.Frag) (H : Hp) (a dx nd kn : Addr) (pd : List ND) (ss : List Sh) (j : Nat) : Prop where
  ch : Ch pd
  sh : Shs pd ss
  lt : j < pd.length
  kn : KnO K H kn pd ss j
  nd : NdO K H nd (ndAt pd j)
theorem Cur.mono {H H' : Hp} {a dx nd kn : Addr} {pd : List ND} {ss : List Sh} {j : Nat} (s : Same H H') (h : Cur K H a dx nd kn pd ss j) : Cur K H' a dx nd kn pd ss j := ⟨h.ch, h.sh, h.lt, h.kn.mono s, h.nd.mono s⟩
theorem ndAt_mem {pd : List ND} {j : Nat} (h : j < pd.length) : pd[j]? = some (ndAt pd j) ∧ ndAt pd j ∈ pd := by
  obtain ⟨n, hn⟩ := at_lt h
  rw [ndAt_some hn]
  exact ⟨hn, List.mem_of_getElem? hn⟩
theorem Cur.ok {H : Hp} {a dx nd kn : Addr} {pd : List ND} {ss : List Sh} {j : Nat} (h : Cur K H a dx nd kn pd ss j) : (ndAt pd j).oks := h.ch.oks _ (ndAt_mem h.lt).2
theorem Cur.call {H : Hp} {a dx nd kn : Addr} {pd : List ND} {ss : List Sh} {j : Nat} (h : Cur K H a dx nd kn pd ss j) {x c b : Str} {k : Nat} (hr : Rw.call x c b k ∈ (ndAt pd j).rows) : 1 ≤ j ∧ c = nmAt pd (j - 1) ∧ k = (ndAt pd (j - 1)).ins.length := by
  obtain ⟨i, m, e1, e2, e3, e4⟩ := h.ch.calls j _ (ndAt_mem h.lt).1 x c b k hr
  subst e1
  refine ⟨by omega, ?_, ?_⟩
  · rw [e3]
    exact (nmAt_some e2).symm
  · rw [e4]
    show _ = (ndAt pd i).ins.length
    rw [ndAt_some e2]
def spNamedOut (K : PySem.W.Frag) : Sp := fun vs H Q _ => ∃ (a ra dx nd kn c r : Addr) (g s : V) (pd : List ND) (ss : List Sh) (j : Nat) (x cn b : Str) (k : Nat), vs = [V.ref a, .ref ra] ∧ H a = some (.ins (A_Fit K) dx (ff nd kn c r g s)) ∧ Cur K H a dx nd kn pd ss j ∧ EqO K H ra (.call x cn b k) ∧ Rw.call x cn b k ∈ (ndAt pd j).rows ∧
  ∀ p d su H', Same H H' → SqT K H' p [.ref d, .ref su] → H' d = some (.dK (nmo (ndAt pd (j - 1)).ins b (ndAt pd (j - 1)).out x)) → SumT K H' su (ndAt pd (j - 1)).out (shAt ss (j - 1)).in0 (stAt ss (j - 1)) → Q (.ref p) H'
theorem ok_Fit_named_outside (T : Txt K mg) : FnOk P w K mg base CX0 3 (f_Fit_named_outside K) (fdAt K (f_Fit_named_outside K)) P_Fit_named_outside (spNamedOut K) := by
  refine FunD.ok T.F_Fit_named_outside sc_Fit_named_outside (fun vs H Q E h => ?_) (fun cdv A outer s H vs Q E hr h => ?_)
  · obtain ⟨a, ra, dx, nd, kn, c, r, g, s, pd, ss, j, x, cn, b, k, rfl, _⟩ := h
    rfl
  · obtain ⟨a, ra, dx, nd, kn, c, r, g, s, pd, ss, j, x, cn, b, n, rfl, h1, C, eo, hrow, k⟩ := h
    refine ⟨_, PSs.nox (pss_cons (ps_asg (pe_um0 (p := fun _ => True) (fun d _ => me_told T d) (pv 1) (hr.mono (by first | decide | omega)) pass0) (pg_tup rfl (pgs_cons (pg_name (i := 2) sc_Fit_named_outside.nd rfl (by first | exact Or.inl rfl | exact Or.inr rfl)) (pgs_cons (pg_name (i := 3) sc_Fit_named_outside.nd rfl (by first | exact Or.inl rfl | exact Or.inr rfl)) (pgs_cons (pg_name (i := 4) sc_Fit_named_outside.nd rfl (by first | exact Or.inl rfl | exact Or.inr rfl)) (pgs_cons (pg_name (i := 5) sc_Fit_named_outside.nd rfl (by first | exact Or.inl rfl | exact Or.inr rfl)) pgs_nil)))))) (pss_cons (ps_set (i := 6) sc_Fit_named_outside.nd rfl (by first | exact Or.inl rfl | exact Or.inr rfl) (pe_fld (pe_dget (hu_of hr) (pe_fld (pv 0) rfl) (pv 4) (fun _ _ => rfl)) rfl)) (pss_cons (ps_set (i := 7) sc_Fit_named_outside.nd rfl (by first | exact Or.inl rfl | exact Or.inr rfl) (pe_dictZip (by rfl) (by rfl) T.z_zip (by rfl) T.z_dict (pa_cons (pe_meth0 (pv 6) T.c_Node T.m_Node_inputs (ok_Node_inputs T) (hr.mono (by first | decide | omega)) T.b_Node_inputs .nil pass0) (pa_cons (pv 5) pa_nil)))) (pss_cons (ps_expr (pe_bm PySem.F.plainAttrs_dict PySem.F.slot_dict_update PySem.F.type_dict_update mt_update (pv 7) (pa_cons (pe_dictZip (by rfl) (by rfl) T.z_zip (by rfl) T.z_dict (pa_cons (pe_meth0 (pv 6) T.c_Node T.m_Node_outs (ok_Node_outs T) (hr.mono (by first | decide | omega)) T.b_Node_outs .nil pass0) (pa_cons (pv 3) pa_nil))) pa_nil))) (pss_one (ps_ret (pe_tup (pa_cons (pv 7) (pa_cons (pe_meth0 (pe_dget (hu_of hr) (pe_fld (pv 0) rfl) (pv 4) (fun _ _ => rfl)) T.c_Fit T.m_Fit_summary (ok_sumD T) (hr.mono (by first | decide | omega)) T.b_Fit_summary .nil pass0) pa_nil))))))))), ?_⟩
    obtain ⟨hj, hcn, hk⟩ := C.call hrow
    obtain ⟨fa, kn1, kn2⟩ := C.kn
    have hlt := C.lt
    have hv := ctK_get C.ch (f := fun s => .ref (fa s)) (j := j) (s := j - 1) (by omega) (by omega)
    obtain ⟨dxf, ndf, knf, cf, rf, gf, su, f1, f2, f3⟩ := kn2 (j - 1) (by omega)
    obtain ⟨hm1, hm2⟩ := ndAt_mem (pd := pd) (j := j - 1) (by omega)
    have okm := C.ch.oks _ hm2
    generalize hm : ndAt pd (j - 1) = m at hk hm1 hm2 okm f2 f3 k
    subst hcn
    refine ⟨_, trivial, _, rfl, ra, rfl, eo, ra, rfl, eo, fun dd hd => ?_⟩
    obtain ⟨o', g', d1, d2, d3⟩ := hd
    refine ⟨dd, _, rfl, d1, rfl, _, _, rfl, _, _, rfl, _, _, rfl, _, _, rfl, rfl, ?_⟩
    refine ⟨_, rfl, a, _, dx, _, _, rfl, h1, T.c_Fit, T.n_Fit_known, rfl, _, rfl, kn, _, rfl, by rw [← hv]; exact DGet.k (k := .inr (nmAt pd (j - 1))) kn1, ?_⟩
    refine ⟨_, _, dxf, _, _, rfl, f1, T.c_Fit, T.n_Fit_ground, rfl, ?_⟩
    obtain ⟨dy, ki, ko, kr, te, rs0, u1, u2, u3⟩ := id f2
    refine ⟨_, rfl, ndf, dy, _, rfl, u1, rfl, ndf, m, rfl, f2, fun l1 H1 s1 hl1 => ?_⟩
    refine ⟨_, rfl, l1, g', m.ins, (List.replicate n b).map .str, rfl, SqL.of hl1, Same.sqt s1 d3, ?_, Nat.le_trans okm.insL (by decide), fun d hd => ?_⟩
    · rw [List.length_map, List.length_replicate, hk]
    have hins : m.ins.Nodup := by
      have := okm.nd
      unfold ND.names at this
      exact (List.nodup_append.mp this).1
    have hout : m.out ∉ m.ins := fun h => by
      have := okm.nd
      unfold ND.names at this
      exact (List.nodup_append.mp this).2.2 _ h m.out okm.outT rfl
    have e1 : mergeK [] ((m.ins.map Sum.inr).zip ((List.replicate n b).map V.str)) = m.ins.map fun i => ((Sum.inr i : Key), V.str b) := by
      rw [List.map_replicate, zip_rep (by rw [List.length_map, hk]), List.map_map, merge_self]
      · rfl
      · rw [List.map_map]
        exact inr_nodup hins
    rw [e1]
    have s2 : Same H (upd H1 d (.dK (m.ins.map fun i => ((Sum.inr i : Key), V.str b)))) := s1.trans (Same.new hd)
    have g2 : upd H1 d (.dK (m.ins.map fun i => ((Sum.inr i : Key), V.str b))) d = some (.dK (m.ins.map fun i => ((Sum.inr i : Key), V.str b))) := upd_same
    have nHd : H d = none := s1.free hd
    generalize upd H1 d (.dK (m.ins.map fun i => ((Sum.inr i : Key), V.str b))) = H2 at s2 g2 ⊢
    refine ⟨_, rfl, .inr (.inr (.inl ⟨rfl, .inl ⟨_, g2⟩⟩)), ?_⟩
    refine ⟨_, rfl, ndf, dy, _, rfl, s2 _ _ u1, rfl, ndf, m, rfl, f2.mono s2, fun l3 H3 s3 hl3 => ?_⟩
    refine ⟨_, rfl, l3, o', [m.out], [.str x], rfl, SqL.of hl3, Same.sqt (s2.trans s3) d2, rfl, by show 1 ≤ 1000000; decide, fun d4 hd4 => ?_⟩
    have g3 := s3 _ _ g2
    have ndd : d ≠ d4 := fun e => by
      subst e
      rw [g3] at hd4
      cases hd4
    refine ⟨d, d4, _, _, rfl, rfl, by rw [upd_ne ndd]; exact g3, upd_same, ndd, ?_, ?_⟩
    · rw [List.length_map]
      have := okm.insL
      exact sz (by show m.ins.length + 1 ≤ _; omega)
    have e5 : mergeK (m.ins.map fun i => ((Sum.inr i : Key), V.str b)) (mergeK [] (([m.out].map Sum.inr).zip [V.str x])) = nmo m.ins b m.out x := by
      show mergeK _ [(Sum.inr m.out, V.str x)] = _
      rw [merge_nodup (more := [(Sum.inr m.out, V.str x)]) (List.nodup_cons.mpr ⟨by simp, List.nodup_nil⟩) _ fun p hp => ?_]
      · rfl
      · rcases List.mem_singleton.mp hp with rfl
        rw [List.map_map]
        intro hm'
        exact hout (inr_mem hm')
    rw [e5]
    have s5 : Same H (upd (upd H3 d4 (.dK (mergeK [] (([m.out].map Sum.inr).zip [V.str x])))) d (.dK (nmo m.ins b m.out x))) := SameX.of (SameX.put (Same.x (s2.trans (s3.trans (Same.new hd4))))) nHd
    have g5 : upd (upd H3 d4 (.dK (mergeK [] (([m.out].map Sum.inr).zip [V.str x])))) d (.dK (nmo m.ins b m.out x)) d = some (.dK (nmo m.ins b m.out x)) := upd_same
    generalize upd (upd H3 d4 (.dK (mergeK [] (([m.out].map Sum.inr).zip [V.str x])))) d (.dK (nmo m.ins b m.out x)) = H5 at s5 g5 ⊢
    refine ⟨_, rfl, ⟨_, rfl, a, _, dx, _, _, rfl, s5 _ _ h1, T.c_Fit, T.n_Fit_known, rfl, _, rfl, kn, _, rfl, by rw [← hv]; exact DGet.k (k := .inr (nmAt pd (j - 1))) (s5 _ _ kn1), ?_⟩⟩
    refine ⟨_, dxf, _, rfl, s5 _ _ f1, rfl, _, dxf, _, _, _, _, _, su, rfl, s5 _ _ f1, ?_⟩
    refine ⟨sz (n := 2) (by decide), fun p hp => k p d su _ (s5.trans (Same.new hp)) (SqT.of upd_same) (Same.new hp _ _ g5) (f3.mono (s5.trans (Same.new hp)))⟩
end
end K99
/-! K24 -/
namespace K99
open PySem PySem.Spec PyProof.Rows L2
abbrev PG2 := Addr × (Str × Str)
/-- a gift: a name, its premise, no hold, nothing put behind -/
def GT (K : PySem.W.Frag) (H : Hp) (g : Addr) (p : Str × Str) : Prop := ∃ e, SqT K H g [.str p.1, .str p.2, .bl false, .ref e] ∧ SqT K H e []
theorem GT.monoN {K : PySem.W.Frag} {H H' : Hp} {g : Addr} {p : Str × Str} (s : SameN H H') (h : GT K H g p) : GT K H' g p := by
  obtain ⟨e, h1, h2⟩ := h
  exact ⟨e, SameN.sqt s h1, SameN.sqt s h2⟩
theorem GT.mono {K : PySem.W.Frag} {H H' : Hp} {g : Addr} {p : Str × Str} (s : Same H H') (h : GT K H g p) : GT K H' g p := h.monoN (Same.n s)
def giftOf : Rw → List (Str × Str)
  | .bef x _ b => [(x, b)]
  | .call x _ b _ => [(x, b)]
  | .pln x t => t.nms.map fun z => (x, z)
def ND.gifts (n : ND) : List (Str × Str) := n.rows.flatMap giftOf
structure GL (K : PySem.W.Frag) (H : Hp) (l : Addr) (gs : List PG2) (gp : List (Str × Str)) : Prop where
  l : H l = some (.lst (gs.map fun g => .ref g.1))
  e : gs.map (·.2) = gp
  g : ∀ g, g ∈ gs → GT K H g.1 g.2
theorem GL.mono {K : PySem.W.Frag} {H H' : Hp} {l : Addr} {gs : List PG2} {gp : List (Str × Str)} (s : Same H H') (h : GL K H l gs gp) : GL K H' l gs gp := ⟨s _ _ h.l, h.e, fun g hg => (h.g g hg).mono s⟩
theorem paired_gs {K : PySem.W.Frag} {H : Hp} {α : Type} {as : List α} {f : α → Str × Str} {xs : List V} (h : Paired (fun a v => ∃ g, v = .ref g ∧ GT K H g (f a)) as xs) : ∃ gs : List PG2, xs = gs.map (fun g => .ref g.1) ∧ gs.map (·.2) = as.map f ∧ ∀ g, g ∈ gs → GT K H g.1 g.2 := by
  induction h with
  | nil => exact ⟨[], rfl, rfl, fun _ h => by cases h⟩
  | cons q r ih =>
    obtain ⟨g, rfl, o⟩ := q
    obtain ⟨gs, rfl, e2, e3⟩ := ih
    rename_i d _
    refine ⟨(g, f d) :: gs, rfl, by simp [e2], fun p hp => ?_⟩
    rcases List.mem_cons.mp hp with rfl | hp
    · exact o
    · exact e3 p hp
theorem nmo_in {ins : List Str} {a out x i : Str} (hi : i ∈ ins) : valV (nmo ins a out x) (.inr i) = some (.str a) := by
  unfold nmo
  induction ins with
  | nil => cases hi
  | cons y r ih =>
    by_cases e : y = i
    · rw [e]
      exact valV_pos rfl
    · have : i ∈ r := by
        rcases List.mem_cons.mp hi with h | h
        · exact absurd h.symm e
        · exact h
      show valV ((Sum.inr y, V.str a) :: _) _ = _
      rw [valV_neg (fun z => e (by injection z))]
      exact ih this
theorem nmo_out {ins : List Str} {a out x : Str} (ho : out ∉ ins) : valV (nmo ins a out x) (.inr out) = some (.str x) := by
  unfold nmo
  induction ins with
  | nil => exact valV_pos rfl
  | cons y r ih =>
    have hy : ¬ y = out := fun e => ho (by rw [e]; exact List.mem_cons_self ..)
    show valV ((Sum.inr y, V.str a) :: _) _ = _
    rw [valV_neg (fun z => hy (by injection z))]
    exact ih fun h => ho (List.mem_cons_of_mem _ h)
theorem gift_len {n : ND} (ok : n.oks) {pre : List Rw} {post : List Rw} (e : n.rows = pre ++ post) : (pre.flatMap giftOf).length ≤ 5 * n.rows.length := by
  have h : ∀ rs : List Rw, (∀ r, r ∈ rs → r.oks) → (rs.flatMap giftOf).length ≤ 5 * rs.length := by
    intro rs
    induction rs with
    | nil => intro _; exact Nat.le_refl _
    | cons r rest ih =>
      intro h
      rw [List.flatMap_cons, List.length_append, List.length_cons]
      have h1 := ih fun q hq => h q (List.mem_cons_of_mem _ hq)
      have h2 := h r (List.mem_cons_self ..)
      have h3 : (giftOf r).length ≤ 5 := by
        cases r with
        | bef x v b => show 1 ≤ 5; decide
        | call x c b k => show 1 ≤ 5; decide
        | pln x t =>
          show (t.nms.map _).length ≤ 5
          rw [List.length_map, Tm.nms_len]
          exact h2.more
      omega
  have := h pre fun r hr => ok.rws r (by rw [e]; exact List.mem_append_left _ hr)
  have : pre.length ≤ n.rows.length := by
    rw [e, List.length_append]
    omega
  omega
theorem mul0_any {K : PySem.W.Frag} {Q : VK} {H : Hp} {q : Addr} {ys : List V} (hq : SqT K H q ys) (h : ∀ m H', Same H H' → SqT K H' m [] → Q (.ref m) H') : rMul0 K (.ref q) (.int 0) H Q :=
  ⟨q, ys, rfl, rfl, hq, fun e => h q H (Same.refl _) (e ▸ hq), fun _ p hp => h p _ (Same.new hp) (SqT.of upd_same)⟩
theorem word_when (r : Rw) : decide (V.str r.word = V.str "when") = false := by
  cases r with
  | bef _ _ _ => exact (by decide : decide (V.str "before" = V.str "when") = false)
  | call _ _ _ _ => exact (by decide : decide (V.str "call" = V.str "when") = false)
  | pln _ _ => exact (by decide : decide (V.str "plain" = V.str "when") = false)
theorem word_hold (r : Rw) : decide (V.str r.word = V.str "hold") = false := by
  cases r with
  | bef _ _ _ => exact (by decide : decide (V.str "before" = V.str "hold") = false)
  | call _ _ _ _ => exact (by decide : decide (V.str "call" = V.str "hold") = false)
  | pln _ _ => exact (by decide : decide (V.str "plain" = V.str "hold") = false)
theorem gift_plain {r : Rw} (h : r.isCall = false) : r.ments.map (fun z => (r.tell, z)) = giftOf r := by
  cases r with
  | bef x v b => rfl
  | call x c b k => cases h
  | pln x t => rfl
theorem ments_len {r : Rw} (ok : r.oks) : r.ments.length ≤ 5 := by
  have h := ok.more
  cases r with
  | bef x v b => show 1 ≤ 5; decide
  | call x c b k => show 1 ≤ 5; decide
  | pln x t =>
    show t.nms.length ≤ 5
    rw [Tm.nms_len]
    exact h
section
variable {P : Program} {w : World} {K : PySem.W.Frag} {mg : Str → Option Value} {base : Heap}
def spGiftsR (K : PySem.W.Frag) : Sp := fun vs H Q _ => ∃ (a dx nd kn c r : Addr) (g s : V) (pd : List ND) (ss : List Sh) (j : Nat), vs = [V.ref a] ∧ H a = some (.ins (A_Fit K) dx (ff nd kn c r g s)) ∧ Cur K H a dx nd kn pd ss j ∧
  ∀ l gs H', Same H H' → GL K H' l gs (ndAt pd j).gifts → Q (.ref l) H'
theorem ok_Fit_gifts_reckoned (T : Txt K mg) : FnOk P w K mg base CX0 8 (f_Fit_gifts_reckoned K) (fdAt K (f_Fit_gifts_reckoned K)) P_Fit_gifts_reckoned (spGiftsR K) := by
  refine FunD.ok T.F_Fit_gifts_reckoned sc_Fit_gifts_reckoned (fun vs H Q E h => ?_) (fun cdv A outer s H vs Q E hr h => ?_)
  · obtain ⟨a, dx, nd, kn, c, r, g, s, pd, ss, j, rfl, _⟩ := h
    rfl
  · obtain ⟨a, dx, nd, kn, c, r, g, s, pd, ss, j, rfl, h1, C, k⟩ := h
    refine ⟨_, PSs.nox (pss_cons (ps_set (i := 1) sc_Fit_gifts_reckoned.nd rfl (by first | exact Or.inl rfl | exact Or.inr rfl) (pe_lst pa_nil)) (pss_cons (ps_for PassesOwn.never rfl (pi_list (pe_meth0 (pe_fld (pv 0) rfl) T.c_Node T.m_Node_rows (ok_Node_rows T) (hr.mono (by first | decide | omega)) T.b_Node_rows .nil pass0)) (pg_name (i := 2) sc_Fit_gifts_reckoned.nd rfl (by first | exact Or.inl rfl | exact Or.inr rfl)) (pss_one (ps_if (pt_val (pe_um0 (p := fun _ => True) (fun d _ => me_is_call T d) (pv 2) (hr.mono (by first | decide | omega)) pass0)) (pss_cons (ps_asg (pe_meth (pv 0) T.c_Fit T.m_Fit_named_outside (ok_Fit_named_outside T) (hr.mono (by first | decide | omega)) T.b_Fit_named_outside .nil pass0 (pa_cons (pv 2) pa_nil)) (pg_tup rfl (pgs_cons (pg_name (i := 3) sc_Fit_gifts_reckoned.nd rfl (by first | exact Or.inl rfl | exact Or.inr rfl)) (pgs_cons (pg_name (i := 4) sc_Fit_gifts_reckoned.nd rfl (by first | exact Or.inl rfl | exact Or.inr rfl)) pgs_nil)))) (pss_one (ps_for PassesOwn.never rfl (pi_tup (pv 4)) (pg_tup rfl (pgs_cons (pg_name (i := 5) sc_Fit_gifts_reckoned.nd rfl (by first | exact Or.inl rfl | exact Or.inr rfl)) (pgs_cons (pg_name (i := 6) sc_Fit_gifts_reckoned.nd rfl (by first | exact Or.inl rfl | exact Or.inr rfl)) (pgs_cons (pg_name (i := 7) sc_Fit_gifts_reckoned.nd rfl (by first | exact Or.inl rfl | exact Or.inr rfl)) (pgs_cons (pg_name (i := 8) sc_Fit_gifts_reckoned.nd rfl (by first | exact Or.inl rfl | exact Or.inr rfl)) pgs_nil))))) (pss_cons (ps_set (i := 9) sc_Fit_gifts_reckoned.nd rfl (by first | exact Or.inl rfl | exact Or.inr rfl) (pe_callTy call_tuple_of (by rfl) T.z_tuple boot_tuple (pa_cons (pe_lc (own := [("label", 12)]) (by rfl) sc_Fit_gifts_reckoned.nd (pi_tup (pv 6)) (blkOk_by (N := N_Fit_gifts_reckoned) (sc := defScope s_Fit_gifts_reckoned) (by decide +kernel)) (fun _ _ _ _ _ => (pg_name (i := 12) sc_Fit_gifts_reckoned.nd rfl (by first | exact Or.inl rfl | exact Or.inr rfl))) (fun _ _ _ _ _ => pts_nil) (fun _ _ _ _ _ => (pe_dget (hu_of hr) (pv 3) (pv 12) (fun _ _ => rfl)))) pa_nil))) (pss_one (ps_expr (pe_bm PySem.F.plainAttrs_list PySem.F.slot_list_extend PySem.F.type_list_extend mt_extend (pv 1) (pa_cons (pe_lc (own := [("other", 13)]) (by rfl) sc_Fit_gifts_reckoned.nd (pi_tup (pv 7)) (blkOk_by (N := N_Fit_gifts_reckoned) (sc := defScope s_Fit_gifts_reckoned) (by decide +kernel)) (fun _ _ _ _ _ => (pg_name (i := 13) sc_Fit_gifts_reckoned.nd rfl (by first | exact Or.inl rfl | exact Or.inr rfl))) (fun _ _ _ _ _ => pts_nil) (fun _ _ _ _ _ => (pe_tup (pa_cons (pe_dget (hu_of hr) (pv 3) (pv 5) (fun _ _ => rfl)) (pa_cons (pe_dget (hu_of hr) (pv 3) (pv 13) (fun _ _ => rfl)) (pa_cons pe_bl (pa_cons (pv 9) pa_nil))))))) pa_nil)))))))) (pss_cons (ps_set (i := 10) sc_Fit_gifts_reckoned.nd rfl (by first | exact Or.inl rfl | exact Or.inr rfl) (pe_cmpR op_eq (pe_ix ix_tup (pe_um0 (p := fun _ => True) (fun d _ => me_told T d) (pv 2) (hr.mono (by first | decide | omega)) pass0) pe_int (fun _ _ => rfl)) pe_str (by rfl))) (pss_cons (ps_set (i := 9) sc_Fit_gifts_reckoned.nd rfl (by first | exact Or.inl rfl | exact Or.inr rfl) (pe_op op_mul0 (pe_slice sl_tupA (pe_um0 (p := fun _ => True) (fun d _ => me_told T d) (pv 2) (hr.mono (by first | decide | omega)) pass0) (po_some pe_int) (po_some pe_int)) (pe_callTy call_int1 (by rfl) T.z_int boot_int (pa_cons (pv 10) pa_nil)))) (pss_one (ps_for PassesOwn.never rfl (pi_list (pe_um0 (p := fun _ => True) (fun d _ => me_tells T d) (pv 2) (hr.mono (by first | decide | omega)) pass0)) (pg_name (i := 11) sc_Fit_gifts_reckoned.nd rfl (by first | exact Or.inl rfl | exact Or.inr rfl)) (pss_one (ps_expr (pe_bm PySem.F.plainAttrs_list PySem.F.slot_list_extend PySem.F.type_list_extend mt_extend (pv 1) (pa_cons (pe_lc (own := [("other", 13)]) (by rfl) sc_Fit_gifts_reckoned.nd (pi_list (pe_um0 (p := fun _ => True) (fun d _ => me_names T d) (pv 2) (hr.mono (by first | decide | omega)) pass0)) (blkOk_by (N := N_Fit_gifts_reckoned) (sc := defScope s_Fit_gifts_reckoned) (by decide +kernel)) (fun _ _ _ _ _ => (pg_name (i := 13) sc_Fit_gifts_reckoned.nd rfl (by first | exact Or.inl rfl | exact Or.inr rfl))) (fun _ _ _ _ _ => pts_nil) (fun _ _ _ _ _ => (pe_tup (pa_cons (pv 11) (pa_cons (pv 13) (pa_cons (pe_cmpR op_eq (pe_ix (r := rIxT K) ix_tup (pe_um0 (p := fun _ => True) (fun d _ => me_told T d) (pv 2) (hr.mono (by first | decide | omega)) pass0) pe_int (fun _ _ => rfl)) pe_str (by rfl)) (pa_cons (pv 9) pa_nil))))))) pa_nil))))))))))) (pss_one (ps_ret (pv 1))))), ?_⟩
    obtain ⟨hm1, hm2⟩ := ndAt_mem C.lt
    have ok := C.ok
    refine ⟨Nat.zero_le _, fun F hF => ?_⟩
    have s1 : Same H (upd H F (.lst [])) := Same.new hF
    have C1 := C.mono s1
    obtain ⟨dy, ki, ko, kr, te, rs0, u1, u2, u3⟩ := id C1.nd
    refine ⟨_, rfl, a, _, dx, _, _, rfl, s1 _ _ h1, T.c_Fit, T.n_Fit_ground, rfl, nd, dy, _, rfl, u1, rfl, nd, ndAt pd j, rfl, C1.nd, fun l rs H1 s2 hl e2 eq2 => ?_⟩
    refine ⟨l, rfl, ⟨_, SqL.of hl⟩, ?_⟩
    have hf1 := s2 _ _ (upd_same (H := H) (a := F) (o := .lst []))
    have hlF : l ≠ F := fun e => by
      subst e
      rw [hf1] at hl
      have := HO.lst.inj (Option.some.inj hl)
      have hr : rs = [] := List.map_eq_nil_iff.mp this.symm
      subst hr
      have h0 : (ndAt pd j).rows = [] := e2.symm
      have := ok.outT
      unfold ND.tells at this
      rw [h0] at this
      cases this
    have sF : SameX F H H1 := SameX.trans SameX.upd2 (Same.x s2)
    have hrl := rs_len e2 ok
    refine for_map (wm_list rs fun p => V.ref p.1) (fun pre σ H2 => SameX F H1 H2 ∧ (∃ x2 x3 x4 x5 x6 x7 x8 x9 x10 x11 x12 x13, σ = [some (.ref a), some (.ref F), x2, x3, x4, x5, x6, x7, x8, x9, x10, x11, x12, x13]) ∧ ∃ gs, GL K H2 F gs ((pre.map (·.2)).flatMap giftOf))
      ⟨SameX.refl _ _, ⟨_, _, _, _, _, _, _, _, _, _, _, _, rfl⟩, [], hf1, rfl, fun _ h => by cases h⟩ (fun pre σ H2 q => SqL.of (q.1 _ _ hlF hl)) (fun pre p post σ H2 e q => ?_) (fun σ H2 q => ?_)
    · obtain ⟨q1, ⟨x2, x3, x4, x5, x6, x7, x8, x9, x10, x11, x12, x13, rfl⟩, gs, GL2⟩ := q
      have hp : p ∈ rs := by
        rw [e]
        simp
      have hrow := rs_in e2 hp
      have hok := ok.rws _ hrow
      have o2 : EqO K H2 p.1 p.2 := (eq2 p hp).monoN (SameX.nL q1 hf1)
      have s02 : Same H H2 := SameX.of (SameX.trans sF q1) hF
      have hgl : gs.length ≤ 5000 := by
        have h5 := congrArg List.length GL2.e
        rw [List.length_map] at h5
        have h6 := gift_len ok (pre := pre.map (·.2)) (post := (p :: post).map (·.2)) (by rw [← e2, e, List.map_append])
        have h7 := ok.rowL
        omega
      have eP : ((pre ++ [p]).map (·.2)).flatMap giftOf = (pre.map (·.2)).flatMap giftOf ++ giftOf p.2 := by simp
      refine ⟨p.2, trivial, _, rfl, p.1, rfl, o2, p.1, rfl, o2, _, rfl, ?_⟩
      cases hcall : p.2.isCall with
      | false =>
        refine iteF ?_
        refine ⟨p.2, trivial, _, rfl, p.1, rfl, o2, p.1, rfl, o2, fun dd hd => ?_⟩
        obtain ⟨more, hmr⟩ := rw_tup hd
        refine ⟨dd, _, 0, _, rfl, rfl, hmr, at0, rfl, ?_⟩
        have ew := word_when p.2
        rw [ew]
        refine ⟨p.2, trivial, _, rfl, p.1, rfl, o2, p.1, rfl, o2, fun dd2 hd2 => ?_⟩
        obtain ⟨more2, hmr2⟩ := rw_tup hd2
        refine ⟨3, rfl, 4, rfl, dd2, _, rfl, hmr2, fun h => absurd h.1 ?_, fun _ q hq => ?_⟩
        · show ¬ min 3 (more2.length + 1) = 0
          omega
        refine ⟨_, rfl, .inr ⟨false, rfl, mul0_any (SqT.of upd_same) fun mm H3 s3 hmm => ?_⟩⟩
        have s23 : Same H2 H3 := (Same.new hq).trans s3
        have o3 := o2.mono s23
        refine ⟨p.2, trivial, _, rfl, p.1, rfl, o3, p.1, rfl, o3, fun l4 H4 s4 hl4 => ?_⟩
        refine ⟨l4, rfl, ⟨_, SqL.of hl4⟩, ?_⟩
        have GL4 := GL2.mono (s23.trans s4)
        have n4F : l4 ≠ F := fun e => by
          subst e
          have := GL4.l
          rw [hl4] at this
          have := HO.lst.inj (Option.some.inj this)
          cases gs with
          | nil => cases this
          | cons g r => injection this with h1 _; cases h1
        refine for_map (wm_list [p.2.tell] V.str) (fun pre2 σ H5 => SameX F H4 H5 ∧ (∃ x11 x13, σ = [some (.ref a), some (.ref F), some (.ref p.1), x3, x4, x5, x6, x7, x8, some (.ref mm), some (.bl false), x11, x12, x13]) ∧ ∃ gs, GL K H5 F gs ((pre.map (·.2)).flatMap giftOf ++ (if pre2 = [] then [] else giftOf p.2)))
          ⟨SameX.refl _ _, ⟨_, _, rfl⟩, gs, by rw [if_pos rfl, List.append_nil]; exact GL4⟩ (fun pre2 σ H5 q => SqL.of (q.1 _ _ n4F hl4)) (fun pre2 y post2 σ H5 e2' q => ?_) (fun σ H5 q => ?_)
        · obtain ⟨q5, ⟨y11, y13, rfl⟩, gs5, GL5⟩ := q
          have hp2 : pre2 = [] ∧ y = p.2.tell := by
            cases pre2 with
            | nil =>
              injection e2' with e2' _
              exact ⟨rfl, e2'.symm⟩
            | cons a r => simp at e2'
          obtain ⟨rfl, rfl⟩ := hp2
          rw [if_pos rfl, List.append_nil] at GL5
          have s05 : Same H H5 := by
            have x1 : SameX F H H4 := SameX.trans (SameX.trans sF q1) (Same.x (s23.trans s4))
            exact SameX.of (SameX.trans x1 q5) hF
          have n5 : SameN H4 H5 := SameX.nL q5 GL4.l
          have o5 : EqO K H5 p.1 p.2 := (o3.mono s4).monoN n5
          have hmm5 : SqT K H5 mm [] := SameN.sqt n5 (Same.sqt s4 hmm)
          refine ⟨_, rfl, .inl ⟨rfl, _, SqL.of GL5.l⟩, ?_⟩
          refine ⟨p.2, trivial, _, rfl, p.1, rfl, o5, p.1, rfl, o5, hok, fun l6 H6 s6 hl6 => ?_⟩
          refine ⟨l6, rfl, ⟨_, SqL.of hl6⟩, fun D hD => ?_⟩
          have hml := ments_len hok
          refine lc_new (wm_list p.2.ments V.str) (fun H z v => ∃ g, v = .ref g ∧ GT K H g (p.2.tell, z)) (fun H H' z v s' ⟨g, e1, o⟩ => ⟨g, e1, o.monoN s'⟩) hD (Nat.le_trans hml (by decide)) (fun H' s' => SqL.of (s' _ _ hl6)) (fun _ => rfl) (fun z H7 hz s7 Q' q' => ?_) (fun H7 xs s7 h7 pr => ?_) (fun _ _ _ q => q)
          · have o7 : EqO K H7 p.1 p.2 := o5.mono (s6.trans s7)
            refine ⟨_, rfl, _, rfl, p.2, trivial, _, rfl, p.1, rfl, o7, p.1, rfl, o7, fun dd8 hd8 => ?_⟩
            obtain ⟨more8, hmr8⟩ := rw_tup hd8
            refine ⟨dd8, _, 0, _, rfl, rfl, hmr8, at0, rfl, _, rfl, ?_⟩
            refine ⟨sz (n := 4) (by decide), fun t ht => q' _ _ (Same.new ht) ⟨t, rfl, mm, SqT.of ?_, Same.sqt ((s6.trans s7).trans (Same.new ht)) hmm5⟩⟩
            rw [upd_same]
            have ew2 := word_hold p.2
            rw [ew2]
          · obtain ⟨gs7, rfl, e7, g7⟩ := paired_gs (f := fun z => (p.2.tell, z)) pr
            have GL7 := GL5.mono (s6.trans s7)
            refine ⟨F, D, _, _, rfl, rfl, GL7.l, h7, ?_, ?_⟩
            · have h8 := congrArg List.length GL5.e
              have h9 := congrArg List.length GL2.e
              have h10 := congrArg List.length e7
              rw [List.length_map] at h8 h9 h10
              rw [List.length_map, List.length_map]
              rw [List.length_map] at h10
              exact sz (by omega)
            have nN : SameN H7 (upd H7 F (.lst (gs5.map (fun g => V.ref g.1) ++ gs7.map (fun g => V.ref g.1)))) := SameN.lst GL7.l
            refine ⟨SameX.put (SameX.trans q5 (Same.x (s6.trans s7))), ⟨_, _, rfl⟩, gs5 ++ gs7, ?_, ?_, fun g hg => ?_⟩
            · rw [upd_same, List.map_append]
            · rw [List.map_append, GL5.e, e7, if_neg (by simp)]
              congr 1
              exact gift_plain hcall
            · rcases List.mem_append.mp hg with hg | hg
              · exact (GL7.g g hg).monoN nN
              · exact (g7 g hg).monoN nN
        · obtain ⟨q5, ⟨y11, y13, rfl⟩, gs5, GL5⟩ := q
          rw [if_neg (by simp)] at GL5
          exact ⟨SameX.trans q1 (SameX.trans (Same.x (s23.trans s4)) q5), ⟨_, _, _, _, _, _, _, _, _, _, _, _, rfl⟩, gs5, by rw [eP]; exact GL5⟩
      | true =>
        refine iteT ?_
        obtain ⟨x, cn, b, kk, hpc⟩ : ∃ x cn b kk, p.2 = .call x cn b kk := by
          cases hq2 : p.2 with
          | bef x v b => rw [hq2] at hcall; cases hcall
          | call x c b k => exact ⟨_, _, _, _, rfl⟩
          | pln x t => rw [hq2] at hcall; cases hcall
        have C2 := C.mono s02
        rw [hpc] at o2 hrow
        obtain ⟨hj, hcn, hkk⟩ := C.call hrow
        obtain ⟨hq1, hq2⟩ := ndAt_mem (pd := pd) (j := j - 1) (by have := C.lt; omega)
        have okm := C.ch.oks _ hq2
        have shm := C.sh _ _ hq1
        have hin : (shAt ss (j - 1)).in0 ∈ (ndAt pd (j - 1)).ins := by
          rw [shm.ins]
          exact List.mem_cons_self ..
        have hout : (ndAt pd (j - 1)).out ∉ (ndAt pd (j - 1)).ins := fun h => by
          have := okm.nd
          unfold ND.names at this
          exact (List.nodup_append.mp this).2.2 _ h _ okm.outT rfl
        refine ⟨_, rfl, a, dx, _, rfl, s02 _ _ h1, rfl, _, rfl, a, p.1, dx, nd, kn, c, r, g, s, pd, ss, j, x, cn, b, kk, rfl, s02 _ _ h1, C2, o2, hrow, fun pp d su H3 s3 hpp hd hsu => ?_⟩
        refine ⟨pp, _, rfl, hpp, rfl, _, _, rfl, _, _, rfl, rfl, ?_⟩
        obtain ⟨t, e', f', h', m1, m2, m3, m4, m5⟩ := hsu
        refine ⟨_, rfl, su, rfl, ⟨_, m1⟩, ?_⟩
        have GL3 := GL2.mono s3
        have ndF : d ≠ F := fun e => by
          subst e
          rw [GL3.l] at hd
          cases hd
        have hg1 : giftOf p.2 = [(x, b)] := by
          rw [hpc]
          rfl
        refine for_map (wm_tup [t] V.ref) (fun pre2 σ H5 => SameX F H3 H5 ∧ (∃ x5 x6 x7 x8 x9 x10 x11 x12 x13, σ = [some (.ref a), some (.ref F), some (.ref p.1), some (.ref d), some (.ref su), x5, x6, x7, x8, x9, x10, x11, x12, x13]) ∧ ∃ gs, GL K H5 F gs ((pre.map (·.2)).flatMap giftOf ++ (if pre2 = [] then [] else [(x, b)])))
          ⟨SameX.refl _ _, ⟨_, _, _, _, _, _, _, _, _, rfl⟩, gs, by rw [if_pos rfl, List.append_nil]; exact GL3⟩ (fun pre2 σ H5 q => SameN.sqt (SameX.nL q.1 GL3.l) m1) (fun pre2 y post2 σ H5 e2' q => ?_) (fun σ H5 q => ?_)
        · obtain ⟨q5, ⟨y5, y6, y7, y8, y9, y10, y11, y12, y13, rfl⟩, gs5, GL5⟩ := q
          have hp2 : pre2 = [] ∧ y = t := by
            cases pre2 with
            | nil =>
              injection e2' with e2' _
              exact ⟨rfl, e2'.symm⟩
            | cons a r => simp at e2'
          obtain ⟨rfl, rfl⟩ := hp2
          rw [if_pos rfl, List.append_nil] at GL5
          have n5 : SameN H3 H5 := SameX.nL q5 GL3.l
          have hd5 : H5 d = _ := q5 _ _ ndF hd
          refine ⟨y, _, rfl, SameN.sqt n5 m2, rfl, _, _, rfl, _, _, rfl, _, _, rfl, _, _, rfl, rfl, ?_⟩
          refine ⟨_, rfl, e', rfl, ⟨_, SameN.sqt n5 m3⟩, fun D hD => ?_⟩
          refine lc_flat (wm_tup ([] : List Str) V.str) (fun _ => true) V.str hD (by decide) (fun H' s' => Same.sqt s' (SameN.sqt n5 m3)) (fun _ => rfl) (fun a H' hm _ Q' q => by cases hm) (fun z H' hm _ _ Q' q => by cases hm) (fun H6 s6 h6 => ?_)
          refine ⟨D, _, rfl, .inl ⟨SqL.of h6, fun mm hmm => ?_⟩⟩
          have s7 : Same H5 (upd H6 mm (.tup ((([] : List Str).filter fun _ => true).map V.str))) := s6.trans (Same.new hmm)
          have hm7 : SqT K (upd H6 mm (.tup ((([] : List Str).filter fun _ => true).map V.str))) mm [] := SqT.of upd_same
          generalize upd H6 mm (.tup ((([] : List Str).filter fun _ => true).map V.str)) = H7 at s7 hm7 ⊢
          have GL7 := GL5.mono s7
          have hd7 := s7 _ _ hd5
          refine ⟨_, rfl, .inl ⟨rfl, _, SqL.of GL7.l⟩, ?_⟩
          have mf7 := Same.sqt s7 (SameN.sqt n5 m4)
          refine ⟨_, rfl, f', rfl, ⟨_, mf7⟩, fun D2 hD2 => ?_⟩
          refine lc_new (wm_tup [(shAt ss (j - 1)).in0] V.str) (fun H z v => ∃ g, v = .ref g ∧ GT K H g (x, b)) (fun H H' z v s' ⟨g, e1, o⟩ => ⟨g, e1, o.monoN s'⟩) hD2 (by show 1 ≤ 1000000; decide) (fun H' s' => Same.sqt s' mf7) (fun _ => rfl) (fun z H8 hz s8 Q' q' => ?_) (fun H8 xs s8 h8 pr => ?_) (fun _ _ _ q => q)
          · have hz' : z = (shAt ss (j - 1)).in0 := List.mem_singleton.mp hz
            subst hz'
            have hd8 := s8 _ _ hd7
            refine ⟨_, rfl, _, rfl, d, _, rfl, by rw [← nmo_out (a := b) (x := x) hout]; exact DGet.k (k := .inr (ndAt pd (j - 1)).out) hd8, ?_⟩
            refine ⟨_, rfl, _, rfl, d, _, rfl, by rw [← nmo_in (a := b) (x := x) (out := (ndAt pd (j - 1)).out) hin]; exact DGet.k (k := .inr (shAt ss (j - 1)).in0) hd8, _, rfl, ?_⟩
            exact ⟨sz (n := 4) (by decide), fun u hu => q' _ _ (Same.new hu) ⟨u, rfl, mm, SqT.of upd_same, Same.sqt (s8.trans (Same.new hu)) hm7⟩⟩
          · obtain ⟨gs8, rfl, e8, g8⟩ := paired_gs (f := fun _ => (x, b)) pr
            have GL8 := GL7.mono s8
            refine ⟨F, D2, _, _, rfl, rfl, GL8.l, h8, ?_, ?_⟩
            · have h9 := congrArg List.length GL5.e
              have h11 := congrArg List.length GL2.e
              have h10 := congrArg List.length e8
              rw [List.length_map] at h9 h10 h11
              rw [List.length_map, List.length_map]
              rw [List.length_map] at h10
              exact sz (by simp at h10; omega)
            have nN : SameN H8 (upd H8 F (.lst (gs5.map (fun g => V.ref g.1) ++ gs8.map (fun g => V.ref g.1)))) := SameN.lst GL8.l
            refine ⟨SameX.put (SameX.trans q5 (Same.x (s7.trans s8))), ⟨_, _, _, _, _, _, _, _, _, rfl⟩, gs5 ++ gs8, ?_, ?_, fun g hg => ?_⟩
            · rw [upd_same, List.map_append]
            · rw [List.map_append, GL5.e, e8, if_neg (by simp)]
              rfl
            · rcases List.mem_append.mp hg with hg | hg
              · exact (GL8.g g hg).monoN nN
              · exact (g8 g hg).monoN nN
        · obtain ⟨q5, ⟨y5, y6, y7, y8, y9, y10, y11, y12, y13, rfl⟩, gs5, GL5⟩ := q
          rw [if_neg (by simp)] at GL5
          exact ⟨SameX.trans q1 (SameX.trans (Same.x s3) q5), ⟨_, _, _, _, _, _, _, _, _, _, _, _, rfl⟩, gs5, by rw [eP, hg1]; exact GL5⟩
    · obtain ⟨q1, ⟨x2, x3, x4, x5, x6, x7, x8, x9, x10, x11, x12, x13, rfl⟩, gs, GL2⟩ := q
      rw [e2] at GL2
      exact ⟨_, rfl, k F gs H2 (SameX.of (SameX.trans sF q1) hF) GL2⟩
end
end K99
/-! K25 -/
namespace K99
open PySem PySem.Spec PyProof.Rows L2
theorem word_same (r : Rw) : decide (V.str r.word = V.str "same") = false := by
  cases r with
  | bef _ _ _ => exact (by decide : decide (V.str "before" = V.str "same") = false)
  | call _ _ _ _ => exact (by decide : decide (V.str "call" = V.str "same") = false)
  | pln _ _ => exact (by decide : decide (V.str "plain" = V.str "same") = false)
section
variable {P : Program} {w : World} {K : PySem.W.Frag} {mg : Str → Option Value} {base : Heap}
def spGifts (K : PySem.W.Frag) : Sp := fun vs H Q _ => ∃ (a dx nd kn c r : Addr) (s : V) (pd : List ND) (ss : List Sh) (j : Nat), vs = [V.ref a] ∧ H a = some (.ins (A_Fit K) dx (ff nd kn c r .non s)) ∧ Cur K H a dx nd kn pd ss j ∧
  ∀ l gs H', SameX a H H' → H' a = some (.ins (A_Fit K) dx (ff nd kn c r (.ref l) s)) → GL K H' l gs (ndAt pd j).gifts → Q (.ref l) H'
theorem ok_gifts0 (T : Txt K mg)  : FnOk P w K mg base CX0 9 (f_Fit_gifts K) (fdAt K (f_Fit_gifts K)) P_Fit_gifts (spGifts K) := by
  refine FunD.ok T.F_Fit_gifts sc_Fit_gifts (fun vs H Q E h => ?_) (fun cdv A outer s H vs Q E hr h => ?_)
  · obtain ⟨a, dx, nd, kn, c, r, s, pd, ss, j, rfl, _⟩ := h
    rfl
  · obtain ⟨a, dx, nd, kn, c, r, s, pd, ss, j, rfl, h1, C, k⟩ := h
    refine ⟨_, PSs.nox (pss_cons (ps_if (pt_cmp (pc_isN (pe_fld (pv 0) rfl))) (pss_one (ps_fld (pv 0) (pe_meth0 (pv 0) T.c_Fit T.m_Fit_gifts_reckoned (ok_Fit_gifts_reckoned T) (hr.mono (by first | decide | omega)) T.b_Fit_gifts_reckoned .nil pass0) rfl)) pss_nil) (pss_one (ps_ret (pe_fld (pv 0) rfl)))), ?_⟩
    refine ⟨_, rfl, a, _, dx, _, _, rfl, h1, T.c_Fit, T.n_Fit_all_gifts, rfl, true, rfl, iteT ?_⟩
    refine ⟨_, rfl, a, dx, _, rfl, h1, rfl, a, dx, nd, kn, c, r, _, _, pd, ss, j, rfl, h1, C, fun l gs H1 s1 g1 => ?_⟩
    have h2 := s1 _ _ h1
    refine ⟨_, rfl, a, _, dx, _, rfl, h2, T.c_Fit, T.n_Fit_all_gifts, (by show 6 < 1000; decide), ?_⟩
    have g2 : GL K (upd H1 a (.ins (A_Fit K) dx (ff nd kn c r (.ref l) s))) l gs (ndAt pd j).gifts := by
      have x : SameX a H1 (upd H1 a (.ins (A_Fit K) dx (ff nd kn c r (.ref l) s))) := SameX.upd2
      refine ⟨lst_keepI h2 x g1.l, g1.e, fun g hg => ?_⟩
      obtain ⟨e, e1, e2⟩ := g1.g g hg
      exact ⟨e, SqT.keepI h2 x e1, SqT.keepI h2 x e2⟩
    exact ⟨_, rfl, a, _, dx, _, _, rfl, upd_same, T.c_Fit, T.n_Fit_all_gifts, rfl, k l gs _ (SameX.put (Same.x s1)) upd_same g2⟩
def spGiftsD (K : PySem.W.Frag) : Sp := fun vs H Q _ => ∃ a dx nd kn c r l s, vs = [V.ref a] ∧ H a = some (.ins (A_Fit K) dx (ff nd kn c r (.ref l) s)) ∧ Q (.ref l) H
theorem ok_giftsD (T : Txt K mg)  : FnOk P w K mg base CX0 1 (f_Fit_gifts K) (fdAt K (f_Fit_gifts K)) P_Fit_gifts (spGiftsD K) := by
  refine FunD.ok T.F_Fit_gifts sc_Fit_gifts (fun vs H Q E h => ?_) (fun cdv A outer s H vs Q E hr h => ?_)
  · obtain ⟨a, dx, nd, kn, c, r, l, s, rfl, _⟩ := h
    rfl
  · obtain ⟨a, dx, nd, kn, c, r, l, s, rfl, h1, k⟩ := h
    refine ⟨_, PSs.nox (pss_cons (ps_if (pt_cmp (pc_isN (pe_fld (pv 0) rfl))) pB pss_nil) (pss_one (ps_ret (pe_fld (pv 0) rfl)))), ?_⟩
    refine ⟨_, rfl, a, _, dx, _, _, rfl, h1, T.c_Fit, T.n_Fit_all_gifts, rfl, false, rfl, iteF ?_⟩
    exact ⟨_, rfl, a, _, dx, _, _, rfl, h1, T.c_Fit, T.n_Fit_all_gifts, rfl, k⟩
abbrev PS1 := Addr × Str
def spChecks (K : PySem.W.Frag) : Sp := fun vs H Q _ => ∃ (a dx nd kn c r : Addr) (g s : V) (pd : List ND) (ss : List Sh) (j : Nat), vs = [V.ref a] ∧ H a = some (.ins (A_Fit K) dx (ff nd kn c r g s)) ∧ Cur K H a dx nd kn pd ss j ∧
  ∀ l (ls : List PS1) H', Same H H' → H' l = some (.lst (ls.map fun p => .ref p.1)) → (∀ p, p ∈ ls → H' p.1 = some (.lst [.str p.2]) ∧ p.2 ∈ (ndAt pd j).names) → ls.length ≤ 1000 → Q (.ref l) H'
theorem ok_Fit_checks (T : Txt K mg) : FnOk P w K mg base CX0 8 (f_Fit_checks K) (fdAt K (f_Fit_checks K)) P_Fit_checks (spChecks K) := by
  refine FunD.ok T.F_Fit_checks sc_Fit_checks (fun vs H Q E h => ?_) (fun cdv A outer s H vs Q E hr h => ?_)
  · obtain ⟨a, dx, nd, kn, c, r, g, s, pd, ss, j, rfl, _⟩ := h
    rfl
  · obtain ⟨a, dx, nd, kn, c, r, g, s, pd, ss, j, rfl, h1, C, k⟩ := h
    refine ⟨_, PSs.nox (pss_cons (ps_set (i := 1) sc_Fit_checks.nd rfl (by first | exact Or.inl rfl | exact Or.inr rfl) (pe_lst pa_nil)) (pss_cons (ps_for PassesOwn.never rfl (pi_list (pe_meth0 (pe_fld (pv 0) rfl) T.c_Node T.m_Node_rows (ok_Node_rows T) (hr.mono (by first | decide | omega)) T.b_Node_rows .nil pass0)) (pg_name (i := 2) sc_Fit_checks.nd rfl (by first | exact Or.inl rfl | exact Or.inr rfl)) (pss_one (ps_if (PW.pt (pw_or (pt_cmpR op_eq (pe_ix ix_tup (pe_um0 (p := fun _ => True) (fun d _ => me_told T d) (pv 2) (hr.mono (by first | decide | omega)) pass0) pe_int (fun _ _ => rfl)) pe_str (by rfl)) (pw_or1 (pt_val (pe_um0 (p := fun _ => True) (fun d _ => me_is_call T d) (pv 2) (hr.mono (by first | decide | omega)) pass0))))) (pss_one (ps_expr (pe_bm PySem.F.plainAttrs_list PySem.F.slot_list_append PySem.F.type_list_append mt_append (pv 1) (pa_cons (pe_um0 (p := fun _ => True) (fun d _ => me_names T d) (pv 2) (hr.mono (by first | decide | omega)) pass0) pa_nil)))) pss_nil))) (pss_one (ps_ret (pv 1))))), ?_⟩
    have ok := C.ok
    refine ⟨Nat.zero_le _, fun F hF => ?_⟩
    have s1 : Same H (upd H F (.lst [])) := Same.new hF
    have C1 := C.mono s1
    obtain ⟨dy, ki, ko, kr, te, rs0, u1, u2, u3⟩ := id C1.nd
    refine ⟨_, rfl, a, _, dx, _, _, rfl, s1 _ _ h1, T.c_Fit, T.n_Fit_ground, rfl, nd, dy, _, rfl, u1, rfl, nd, ndAt pd j, rfl, C1.nd, fun l rs H1 s2 hl e2 eq2 => ?_⟩
    refine ⟨l, rfl, ⟨_, SqL.of hl⟩, ?_⟩
    have hf1 := s2 _ _ (upd_same (H := H) (a := F) (o := .lst []))
    have hlF : l ≠ F := fun e => by
      subst e
      rw [hf1] at hl
      have := HO.lst.inj (Option.some.inj hl)
      have hr : rs = [] := List.map_eq_nil_iff.mp this.symm
      subst hr
      have h0 : (ndAt pd j).rows = [] := e2.symm
      have := ok.outT
      unfold ND.tells at this
      rw [h0] at this
      cases this
    have sF : SameX F H H1 := SameX.trans SameX.upd2 (Same.x s2)
    have hrl := rs_len e2 ok
    refine for_map (wm_list rs fun p => V.ref p.1) (fun pre σ H2 => SameX F H1 H2 ∧ (∃ x2, σ = [some (.ref a), some (.ref F), x2]) ∧ ∃ ls : List PS1, H2 F = some (.lst (ls.map fun p => .ref p.1)) ∧ (∀ p, p ∈ ls → H2 p.1 = some (.lst [.str p.2]) ∧ p.2 ∈ (ndAt pd j).names) ∧ ls.length ≤ pre.length)
      ⟨SameX.refl _ _, ⟨_, rfl⟩, [], hf1, (fun _ h => by cases h), Nat.le_refl _⟩ (fun pre σ H2 q => SqL.of (q.1 _ _ hlF hl)) (fun pre p post σ H2 e q => ?_) (fun σ H2 q => ?_)
    · obtain ⟨q1, ⟨x2, rfl⟩, ls, g2, g3, g4⟩ := q
      have hp : p ∈ rs := by
        rw [e]
        simp
      have hrow := rs_in e2 hp
      have hok := ok.rws _ hrow
      have o2 : EqO K H2 p.1 p.2 := (eq2 p hp).monoN (SameX.nL q1 hf1)
      refine ⟨p.2, trivial, _, rfl, p.1, rfl, o2, p.1, rfl, o2, fun dd hd => ?_⟩
      obtain ⟨more, hmr⟩ := rw_tup hd
      refine ⟨dd, _, 0, _, rfl, rfl, hmr, at0, rfl, false, by rw [word_same], iteF ?_⟩
      refine ⟨p.2, trivial, _, rfl, p.1, rfl, o2, p.1, rfl, o2, _, rfl, ?_⟩
      cases hcall : p.2.isCall with
      | false =>
        refine iteF ⟨q1, ⟨_, rfl⟩, ls, g2, g3, ?_⟩
        rw [List.length_append]
        omega
      | true =>
        refine iteT ?_
        refine ⟨_, rfl, .inl ⟨rfl, _, SqL.of g2⟩, p.2, trivial, _, rfl, p.1, rfl, o2, p.1, rfl, o2, hok, fun l4 H4 s4 hl4 => ?_⟩
        obtain ⟨x, cn, b, kk, hpc⟩ : ∃ x cn b kk, p.2 = .call x cn b kk := by
          cases hq2 : p.2 with
          | bef x v b => rw [hq2] at hcall; cases hcall
          | call x c b k => exact ⟨_, _, _, _, rfl⟩
          | pln x t => rw [hq2] at hcall; cases hcall
        have hb : b ∈ (ndAt pd j).names := ok.ment _ hrow b (by rw [hpc]; exact List.mem_cons_self ..)
        have hl4 : H4 l4 = some (.lst [.str b]) := by
          rw [hpc] at hl4
          exact hl4
        have g5 := s4 _ _ g2
        have n4 : ∀ q : PS1, q ∈ ls ++ [(l4, b)] → q.1 ≠ F := fun q hq z => by
          have hq4 : H4 q.1 = some (.lst [.str q.2]) := by
            rcases List.mem_append.mp hq with hq | hq
            · exact s4 _ _ (g3 q hq).1
            · rcases List.mem_singleton.mp hq with rfl
              exact hl4
          rw [z, g5] at hq4
          have := HO.lst.inj (Option.some.inj hq4)
          cases ls with
          | nil => cases this
          | cons y r =>
            injection this with h5 h6
            cases h5
        refine ⟨F, _, _, rfl, rfl, g5, ?_, SameX.put (SameX.trans q1 (Same.x s4)), ⟨_, rfl⟩, ls ++ [(l4, b)], ?_, fun q hq => ?_, ?_⟩
        · rw [List.length_map]
          rw [e] at hrl
          simp at hrl
          exact szl (by omega)
        · rw [upd_same, List.map_append]
          rfl
        · rw [upd_ne (n4 q hq)]
          rcases List.mem_append.mp hq with hq | hq
          · exact ⟨s4 _ _ (g3 q hq).1, (g3 q hq).2⟩
          · rcases List.mem_singleton.mp hq with rfl
            exact ⟨hl4, hb⟩
        · rw [List.length_append, List.length_append]
          simp
          omega
    · obtain ⟨q1, ⟨x2, rfl⟩, ls, g2, g3, g4⟩ := q
      exact ⟨_, rfl, k F ls H2 (SameX.of (SameX.trans sF q1) hF) g2 g3 (by omega)⟩
end
end K99
/-! K26 -/
namespace K99
open PySem PySem.Spec PyProof.Rows L2
theorem nd_len : ∀ {xs ys : List Str}, xs.Nodup → (∀ x, x ∈ xs → x ∈ ys) → xs.length ≤ ys.length
  | [], _, _, _ => Nat.zero_le _
  | x :: r, ys, h, hs => by
    rw [List.nodup_cons] at h
    have hx := hs x (List.mem_cons_self ..)
    have := nd_len (xs := r) (ys := ys.erase x) h.2 fun z hz => (List.mem_erase_of_ne (fun e => h.1 (by rw [← e]; exact hz))).mpr (hs z (List.mem_cons_of_mem _ hz))
    rw [List.length_erase_of_mem hx] at this
    have hp : 0 < ys.length := List.length_pos_of_mem hx
    rw [List.length_cons]
    omega
theorem atI_nat {α : Type} {xs : List α} {n : Nat} {v : α} (h : xs[n]? = some v) : atI xs (n : Int) = some v := by
  have hl := (List.getElem?_eq_some_iff.mp h).1
  unfold atI ixN
  rw [if_pos (by omega), if_pos (by omega)]
  exact h
/-- a step: a name, its clock, whence -/
def ST (K : PySem.W.Frag) (H : Hp) (t : Addr) (x : Str) : Prop := ∃ e v, SqT K H t [.str x, .ref e, v] ∧ SqT K H e []
theorem ST.monoN {K : PySem.W.Frag} {H H' : Hp} {t : Addr} {x : Str} (s : SameN H H') (h : ST K H t x) : ST K H' t x := by
  obtain ⟨e, v, h1, h2⟩ := h
  exact ⟨e, v, SameN.sqt s h1, SameN.sqt s h2⟩
structure StL (K : PySem.W.Frag) (H : Hp) (l : Addr) (sts : List PS1) (acc : List Str) : Prop where
  l : H l = some (.lst (sts.map fun t => .ref t.1))
  e : sts.map (·.2) = acc
  t : ∀ t, t ∈ sts → ST K H t.1 t.2
structure ClD (K : PySem.W.Frag) (H : Hp) (d : Addr) (cs : List PS1) (acc : List Str) : Prop where
  d : H d = some (.dK (cs.map fun c => ((Sum.inr c.2 : Key), V.ref c.1)))
  e : cs.map (·.2) = acc
  c : ∀ c, c ∈ cs → SqT K H c.1 []
theorem StL.mono {K : PySem.W.Frag} {H H' : Hp} {l : Addr} {sts : List PS1} {acc : List Str} (s : Same H H') (h : StL K H l sts acc) : StL K H' l sts acc := ⟨s _ _ h.l, h.e, fun t ht => (h.t t ht).monoN (Same.n s)⟩
theorem ClD.mono {K : PySem.W.Frag} {H H' : Hp} {d : Addr} {cs : List PS1} {acc : List Str} (s : Same H H') (h : ClD K H d cs acc) : ClD K H' d cs acc := ⟨s _ _ h.d, h.e, fun c hc => Same.sqt s (h.c c hc)⟩
theorem ClD.get {K : PySem.W.Frag} {H : Hp} {d : Addr} {cs : List PS1} {acc : List Str} (h : ClD K H d cs acc) (nd : acc.Nodup) {x : Str} (hx : x ∈ acc) : ∃ c, valV (cs.map fun c => ((Sum.inr c.2 : Key), V.ref c.1)) (.inr x) = some (.ref c) ∧ SqT K H c [] := by
  rw [← h.e] at hx nd
  obtain ⟨c, hc, rfl⟩ := List.mem_map.mp hx
  exact ⟨c.1, valV_at (f := fun c : PS1 => c.2) (g := fun c => V.ref c.1) nd hc, h.c c hc⟩
theorem ClD.no {K : PySem.W.Frag} {H : Hp} {d : Addr} {cs : List PS1} {acc : List Str} (h : ClD K H d cs acc) {x : Str} (hx : x ∉ acc) : valV (cs.map fun c => ((Sum.inr c.2 : Key), V.ref c.1)) (.inr x) = none := valV_no (f := fun c : PS1 => c.2) (g := fun c => V.ref c.1) (by rw [h.e]; exact hx)
theorem paired_st {as : List Str} {xs : List V} {R : Addr → Str → Prop} (h : Paired (fun a v => ∃ t, v = .ref t ∧ R t a) as xs) : ∃ sts : List PS1, xs = sts.map (fun t => .ref t.1) ∧ sts.map (·.2) = as ∧ ∀ t, t ∈ sts → R t.1 t.2 := by
  induction h with
  | nil => exact ⟨[], rfl, rfl, fun _ h => by cases h⟩
  | cons q r ih =>
    obtain ⟨g, rfl, o⟩ := q
    obtain ⟨gs, rfl, e2, e3⟩ := ih
    rename_i d _
    refine ⟨(g, d) :: gs, rfl, by simp [e2], fun p hp => ?_⟩
    rcases List.mem_cons.mp hp with rfl | hp
    · exact o
    · exact e3 p hp
theorem gift_names {n : ND} (ok : n.oks) {p : Str × Str} (h : p ∈ n.gifts) : p.1 ∈ n.names ∧ p.2 ∈ n.names := by
  obtain ⟨r, hr, hp⟩ := List.mem_flatMap.mp h
  have ht : r.tell ∈ n.names := List.mem_append_right _ (List.mem_map_of_mem hr)
  have hm := ok.ment r hr
  cases r with
  | bef x v b =>
    rcases List.mem_singleton.mp hp with rfl
    exact ⟨ht, hm b (List.mem_cons_self ..)⟩
  | call x c b k =>
    rcases List.mem_singleton.mp hp with rfl
    exact ⟨ht, hm b (List.mem_cons_self ..)⟩
  | pln x t =>
    obtain ⟨z, hz, rfl⟩ := List.mem_map.mp hp
    exact ⟨ht, hm z hz⟩
/-- all names follow from the first input, and the inputs -/
theorem follow_all {n : ND} {s : Sh} (hs : s.ok n) {acc : List Str} (hi : ∀ x, x ∈ n.ins → x ∈ acc) (hc : ∀ p, p ∈ n.gifts → p.2 ∈ acc → p.1 ∈ acc) : ∀ x, x ∈ n.names → x ∈ acc := by
  intro x hx
  have h0 : s.in0 ∈ acc := hi _ (by rw [hs.ins]; exact List.mem_cons_self ..)
  have hg : ∀ r, r ∈ n.rows → ∀ p, p ∈ giftOf r → p ∈ n.gifts := fun r hr p hp => List.mem_flatMap.mpr ⟨r, hr, hp⟩
  have hk : s.kept ∈ acc := hc (s.kept, s.in0) (hg _ (by rw [hs.rows]; exact List.mem_cons_self ..) _ (List.mem_cons_self ..)) h0
  rcases List.mem_append.mp hx with hx | hx
  · exact hi x hx
  · obtain ⟨r, hr, rfl⟩ := List.mem_map.mp hx
    have hr' := hr
    rw [hs.rows] at hr
    rcases List.mem_cons.mp hr with rfl | hr
    · exact hk
    · rcases List.mem_append.mp hr with hr | hr
      · obtain ⟨z, hz, rfl⟩ := List.mem_map.mp hr
        exact hc (z, s.in0) (hg _ hr' _ (List.mem_cons_self ..)) h0
      · rcases List.mem_singleton.mp hr with rfl
        exact hc (n.out, s.kept) (hg _ hr' _ (List.mem_map_of_mem hs.kt)) hk
theorem paired_cs {K : PySem.W.Frag} {H : Hp} : ∀ {sts : List PS1}, (∀ t, t ∈ sts → ∃ e, SqT K H t.1 [.str t.2, .ref e] ∧ SqT K H e []) → ∃ cs : List PS1, cs.map (·.2) = sts.map (·.2) ∧ Paired (fun p (kv : Key × V) => SqT K H p [kV kv.1, kv.2]) (sts.map (·.1)) (cs.map fun c => ((Sum.inr c.2 : Key), V.ref c.1)) ∧ ∀ c, c ∈ cs → SqT K H c.1 []
  | [], _ => ⟨[], rfl, .nil, fun _ h => by cases h⟩
  | t :: r, h => by
    obtain ⟨e, h1, h2⟩ := h t (List.mem_cons_self ..)
    obtain ⟨cs, c1, c2, c3⟩ := paired_cs (sts := r) fun q hq => h q (List.mem_cons_of_mem _ hq)
    refine ⟨(e, t.2) :: cs, by simp [c1], .cons h1 c2, fun q hq => ?_⟩
    rcases List.mem_cons.mp hq with rfl | hq
    · exact h2
    · exact c3 q hq
section
variable {P : Program} {w : World} {K : PySem.W.Frag} {mg : Str → Option Value} {base : Heap}
def spSteps (K : PySem.W.Frag) : Sp := fun vs H Q _ => ∃ (a dx nd kn c r : Addr) (s : V) (pd : List ND) (ss : List Sh) (j : Nat), vs = [V.ref a] ∧ H a = some (.ins (A_Fit K) dx (ff nd kn c r .non s)) ∧ Cur K H a dx nd kn pd ss j ∧ (∃ H0, H0 a = none ∧ Same H0 H ∧ Cur K H0 a dx nd kn pd ss j) ∧
  ∀ l sts gl gs acc H', SameX a H H' → H' a = some (.ins (A_Fit K) dx (ff nd kn c r (.ref gl) s)) → GL K H' gl gs (ndAt pd j).gifts → StL K H' l sts acc → acc.Nodup → (∀ x, x ∈ acc ↔ x ∈ (ndAt pd j).names) → Q (.ref l) H'
theorem ok_Fit_steps (T : Txt K mg) : FnOk P w K mg base CX0 10 (f_Fit_steps K) (fdAt K (f_Fit_steps K)) P_Fit_steps (spSteps K) := by
  refine FunD.ok T.F_Fit_steps sc_Fit_steps (fun vs H Q E h => ?_) (fun cdv A outer s H vs Q E hr h => ?_)
  · obtain ⟨a, dx, nd, kn, c, r, s, pd, ss, j, rfl, _⟩ := h
    rfl
  · obtain ⟨a, dx, nd, kn, c, r, s, pd, ss, j, rfl, h1, C, ⟨H0, h0, s0, C0⟩, k⟩ := h
    refine ⟨_, PSs.nox (pss_cons (ps_set (i := 1) sc_Fit_steps.nd rfl (by first | exact Or.inl rfl | exact Or.inr rfl) (pe_meth0 (pv 0) T.c_Fit T.m_Fit_gifts (ok_gifts0 T) (hr.mono (by first | decide | omega)) T.b_Fit_gifts .nil pass0)) (pss_cons (ps_setLc (i := 2) (own := [("name", 6)]) (by rfl) sc_Fit_steps.nd rfl rfl (by rfl) (pi_list (pe_meth0 (pe_fld (pv 0) rfl) T.c_Node T.m_Node_inputs (ok_Node_inputs T) (hr.mono (by first | decide | omega)) T.b_Node_inputs .nil pass0)) (blkOk_by (N := N_Fit_steps) (sc := defScope s_Fit_steps) (by decide +kernel)) (fun _ _ _ _ _ => (pg_name (i := 6) sc_Fit_steps.nd rfl (by first | exact Or.inl rfl | exact Or.inr rfl))) (fun _ _ _ _ _ => pts_nil) (fun _ _ _ _ _ => (pe_tup (pa_cons (pv 6) (pa_cons (pe_tup pa_nil) (pa_cons pe_non pa_nil)))))) (pss_cons (ps_set (i := 3) sc_Fit_steps.nd rfl (by first | exact Or.inl rfl | exact Or.inr rfl) (pe_callTy (call_dictP (by rfl)) (by rfl) T.z_dict boot_dict (pa_cons (pe_lc (own := [("name", 6)]) (by rfl) sc_Fit_steps.nd (pi_list (pe_meth0 (pe_fld (pv 0) rfl) T.c_Node T.m_Node_inputs (ok_Node_inputs T) (hr.mono (by first | decide | omega)) T.b_Node_inputs .nil pass0)) (blkOk_by (N := N_Fit_steps) (sc := defScope s_Fit_steps) (by decide +kernel)) (fun _ _ _ _ _ => (pg_name (i := 6) sc_Fit_steps.nd rfl (by first | exact Or.inl rfl | exact Or.inr rfl))) (fun _ _ _ _ _ => pts_nil) (fun _ _ _ _ _ => (pe_tup (pa_cons (pv 6) (pa_cons (pe_tup pa_nil) pa_nil))))) pa_nil))) (pss_cons (ps_set (i := 4) sc_Fit_steps.nd rfl (by first | exact Or.inl rfl | exact Or.inr rfl) pe_int) (pss_cons (ps_while PassesOwn.never (pt_cmpR op_lt (pv 4) (pe_callB call_len_seq (by rfl) T.z_len PySem.boot_len (pa_cons (pv 2) pa_nil)) (by rfl)) (pss_cons (ps_set (i := 5) sc_Fit_steps.nd rfl (by first | exact Or.inl rfl | exact Or.inr rfl) (pe_ix ix_tup (pe_ix ix_list (pv 2) (pv 4) (fun _ _ => rfl)) pe_int (fun _ _ => rfl))) (pss_cons (ps_aug (i := 4) sc_Fit_steps.nd rfl (by first | exact Or.inl rfl | exact Or.inr rfl) pe_int ip_add) (pss_one (ps_for PassesOwn.never rfl (pi_list (pv 1)) (pg_tup rfl (pgs_cons (pg_name (i := 6) sc_Fit_steps.nd rfl (by first | exact Or.inl rfl | exact Or.inr rfl)) (pgs_cons (pg_name (i := 7) sc_Fit_steps.nd rfl (by first | exact Or.inl rfl | exact Or.inr rfl)) (pgs_cons (pg_name (i := 8) sc_Fit_steps.nd rfl (by first | exact Or.inl rfl | exact Or.inr rfl)) (pgs_cons (pg_name (i := 9) sc_Fit_steps.nd rfl (by first | exact Or.inl rfl | exact Or.inr rfl)) pgs_nil))))) (pss_one (ps_if (pt_cmpR op_eq (pv 7) (pv 5) (by rfl)) (pss_cons (ps_set (i := 10) sc_Fit_steps.nd rfl (by first | exact Or.inl rfl | exact Or.inr rfl) (pe_call (ok_clock_by T) (hr.mono (by first | decide | omega)) (by rfl) T.g_clock_by T.F_clock_by.kp T.b_clock_by .nil pass0 (pa_cons (pe_dget (hu_of hr) (pv 3) (pv 5) (fun _ _ => rfl)) (pa_cons (pv 8) (pa_cons (pv 9) pa_nil))))) (pss_cons (ps_if (pt_cmp (pc_isN (pv 10))) pB pss_nil) (pss_one (ps_if (pt_cmp (pc_dnotin (hu_of hr) (pv 6) (pv 3))) (pss_cons (ps_dput (hu_of hr) (pv 3) (pv 6) (pv 10) rfl) (pss_one (ps_expr (pe_bm PySem.F.plainAttrs_list PySem.F.slot_list_append PySem.F.type_list_append mt_append (pv 2) (pa_cons (pe_tup (pa_cons (pv 6) (pa_cons (pv 10) (pa_cons (pv 5) pa_nil)))) pa_nil))))) (pss_one (ps_if (pt_cmpR (op_neD hr.units) (pe_dget (hu_of hr) (pv 3) (pv 6) (fun _ _ => rfl)) (pv 10) (by rfl)) pB pss_nil)))))) pss_nil))))))) (pss_one (ps_ret (pv 2)))))))), ?_⟩
    have ok := C.ok
    obtain ⟨hm1, hm2⟩ := ndAt_mem C.lt
    have shp := C.sh _ _ hm1
    refine ⟨_, rfl, a, dx, _, rfl, h1, rfl, a, dx, nd, kn, c, r, s, pd, ss, j, rfl, h1, C, fun gl gs H1 x1 f1 G1 => ?_⟩
    have t1 : Same H0 H1 := SameX.of (SameX.trans (Same.x s0) x1) h0
    have C1 := C0.mono t1
    obtain ⟨dy, ki, ko, kr, te, rs0, u1, u2, u3⟩ := id C1.nd
    refine ⟨_, rfl, a, _, dx, _, _, rfl, f1, T.c_Fit, T.n_Fit_ground, rfl, nd, dy, _, rfl, u1, rfl, nd, ndAt pd j, rfl, C1.nd, fun l2 H2 s2 hl2 => ?_⟩
    refine ⟨l2, rfl, ⟨_, SqL.of hl2⟩, fun S hS => ?_⟩
    refine lc_new (wm_list (ndAt pd j).ins V.str) (fun H z v => ∃ t, v = .ref t ∧ ST K H t z) (fun H H' z v s' ⟨g, e1, o⟩ => ⟨g, e1, o.monoN s'⟩) hS (Nat.le_trans ok.insL (by decide)) (fun H' s' => SqL.of (s' _ _ hl2)) (fun _ => rfl) (fun z H3 hz s3 Q' q' => ?_) (fun H3 xs s3 h3 pr => ?_) (fun _ _ _ q => q)
    · refine ⟨_, rfl, Nat.zero_le _, fun e he => ?_⟩
      have s4 : Same H3 (upd H3 e (.tup [])) := Same.new he
      refine ⟨sz (n := 3) (by decide), fun t ht => q' _ _ (s4.trans (Same.new ht)) ⟨t, rfl, e, _, SqT.of upd_same, Same.sqt (Same.new ht) (SqT.of upd_same)⟩⟩
    obtain ⟨sts0, rfl, e3, g3⟩ := paired_st (R := fun t z => ST K H3 t z) pr
    have s23 := s2.trans s3
    refine ⟨_, rfl, a, _, dx, _, _, rfl, s23 _ _ f1, T.c_Fit, T.n_Fit_ground, rfl, nd, dy, _, rfl, s23 _ _ u1, rfl, nd, ndAt pd j, rfl, C1.nd.mono s23, fun l4 H4 s4 hl4 => ?_⟩
    refine ⟨l4, rfl, ⟨_, SqL.of hl4⟩, fun D hD => ?_⟩
    refine lc_new (wm_list (ndAt pd j).ins V.str) (fun H z v => ∃ t, v = .ref t ∧ ∃ e, SqT K H t [.str z, .ref e] ∧ SqT K H e []) (fun H H' z v s' ⟨g, e1, e, o1, o2⟩ => ⟨g, e1, e, SameN.sqt s' o1, SameN.sqt s' o2⟩) hD (Nat.le_trans ok.insL (by decide)) (fun H' s' => SqL.of (s' _ _ hl4)) (fun _ => rfl) (fun z H5 hz s5 Q' q' => ?_) (fun H5 xs s5 h5 pr5 => ?_) (fun _ _ _ q => q)
    · refine ⟨_, rfl, Nat.zero_le _, fun e he => ?_⟩
      have s6 : Same H5 (upd H5 e (.tup [])) := Same.new he
      refine ⟨sz (n := 2) (by decide), fun t ht => q' _ _ (s6.trans (Same.new ht)) ⟨t, rfl, e, SqT.of upd_same, Same.sqt (Same.new ht) (SqT.of upd_same)⟩⟩
    obtain ⟨sts5, rfl, e5, g5⟩ := paired_st (R := fun t z => ∃ e, SqT K H5 t [.str z, .ref e] ∧ SqT K H5 e []) pr5
    obtain ⟨cs, c1, c2, c3⟩ := paired_cs g5
    have hins : (ndAt pd j).ins.Nodup := by
      have := ok.nd
      unfold ND.names at this
      exact (List.nodup_append.mp this).1
    refine ⟨D, sts5.map (fun t : PS1 => t.1), (cs.map fun c : PS1 => ((Sum.inr c.2 : Key), V.ref c.1)), rfl, SqL.of (by rw [h5, List.map_map]; rfl), c2, fun Cl hCl => ?_⟩
    rw [merge_self (by rw [List.map_map]; show (cs.map ((Sum.inr : Str → Key) ∘ fun c : PS1 => c.2)).Nodup; rw [← List.map_map, c1, e5]; exact inr_nodup hins)]
    have s6 : Same H5 (upd H5 Cl (.dK (cs.map fun c => ((Sum.inr c.2 : Key), V.ref c.1)))) := Same.new hCl
    have cd6 : ClD K (upd H5 Cl (.dK (cs.map fun c => ((Sum.inr c.2 : Key), V.ref c.1)))) Cl cs (ndAt pd j).ins := ⟨upd_same, by rw [c1, e5], fun c hc => Same.sqt s6 (c3 c hc)⟩
    have s36 : Same H3 (upd H5 Cl (.dK (cs.map fun c => ((Sum.inr c.2 : Key), V.ref c.1)))) := s4.trans (s5.trans s6)
    have st6 : StL K (upd H5 Cl (.dK (cs.map fun c => ((Sum.inr c.2 : Key), V.ref c.1)))) S sts0 (ndAt pd j).ins := StL.mono s36 ⟨h3, e3, g3⟩
    have s16 := s23.trans s36
    generalize upd H5 Cl (.dK (cs.map fun c => ((Sum.inr c.2 : Key), V.ref c.1))) = H6 at s6 cd6 s36 st6 s16 ⊢
    have nS1 : H1 S = none := s2.free hS
    have nC1 : H1 Cl = none := (s23.trans (s4.trans s5)).free hCl
    have nSC : S ≠ Cl := fun e => by
      subst e
      have := st6.l
      rw [cd6.d] at this
      cases this
    have G6 := G1.mono s16
    have hsub : ∀ x, x ∈ (ndAt pd j).ins → x ∈ (ndAt pd j).names := fun x hx => List.mem_append_left _ hx
    have hnl : (ndAt pd j).names.length ≤ 1100 := by
      unfold ND.names ND.tells
      rw [List.length_append, List.length_map]
      have := ok.insL
      have := ok.rowL
      omega
    refine ⟨fun m σ H' => ∃ (at_ : Nat) (acc : List Str) (sts cs : List PS1), (∃ x5 x6 x7 x8 x9 x10, σ = [some (.ref a), some (.ref gl), some (.ref S), some (.ref Cl), some (.int (at_ : Int)), x5, x6, x7, x8, x9, x10]) ∧ Same H1 H' ∧ StL K H' S sts acc ∧ ClD K H' Cl cs acc ∧ acc.Nodup ∧ (∀ x, x ∈ acc → x ∈ (ndAt pd j).names) ∧ (∀ x, x ∈ (ndAt pd j).ins → x ∈ acc) ∧
        (∀ i o, i < at_ → acc[i]? = some o → ∀ p, p ∈ (ndAt pd j).gifts → p.2 = o → p.1 ∈ acc) ∧ at_ ≤ acc.length ∧ m = (ndAt pd j).names.length - at_,
      ⟨_, 0, (ndAt pd j).ins, sts0, cs, ⟨_, _, _, _, _, _, rfl⟩, s16, st6, cd6, hins, hsub, fun x hx => hx, (fun i o hi => absurd hi (Nat.not_lt_zero _)), Nat.zero_le _, rfl⟩, fun m σ H7 q => ?_⟩
    obtain ⟨at_, acc, sts, cs7, ⟨x5, x6, x7, x8, x9, x10, rfl⟩, t7, st7, cd7, nd7, sub7, ins7, clo7, le7, rfl⟩ := q
    have hal : acc.length ≤ (ndAt pd j).names.length := nd_len nd7 sub7
    have hsl : (sts.map fun t => V.ref t.1).length = acc.length := by
      have := congrArg List.length st7.e
      rw [List.length_map] at this ⊢
      exact this
    refine ⟨_, rfl, _, rfl, S, _, rfl, .inl (SqL.of st7.l), ?_⟩
    rw [hsl]
    refine ⟨_, _, rfl, rfl, decide ((at_ : Int) < (acc.length : Int)), rfl, ?_⟩
    rcases Nat.lt_or_ge at_ acc.length with hlt | hge
    · rw [decide_eq_true (by omega)]
      refine iteT ?_
      obtain ⟨pm, hpm⟩ : ∃ pm, acc[at_]? = some pm := ⟨acc[at_], List.getElem?_eq_getElem hlt⟩
      have hst : ∃ t, sts[at_]? = some t ∧ t.2 = pm := by
        have := hpm
        rw [← st7.e, List.getElem?_map] at this
        cases hq : sts[at_]? with
        | none => rw [hq] at this; cases this
        | some t => rw [hq] at this; exact ⟨t, rfl, Option.some.inj this⟩
      obtain ⟨t, ht, htp⟩ := hst
      obtain ⟨e7, v7, p1, p2⟩ := st7.t t (List.mem_of_getElem? ht)
      rw [htp] at p1
      have hpa : pm ∈ acc := List.mem_of_getElem? hpm
      refine ⟨fun σ' H' => ∃ m', m' < (ndAt pd j).names.length - at_ ∧ ∃ (at_ : Nat) (acc : List Str) (sts cs : List PS1), (∃ x5 x6 x7 x8 x9 x10, σ' = [some (.ref a), some (.ref gl), some (.ref S), some (.ref Cl), some (.int (at_ : Int)), x5, x6, x7, x8, x9, x10]) ∧ Same H1 H' ∧ StL K H' S sts acc ∧ ClD K H' Cl cs acc ∧ acc.Nodup ∧ (∀ x, x ∈ acc → x ∈ (ndAt pd j).names) ∧ (∀ x, x ∈ (ndAt pd j).ins → x ∈ acc) ∧
        (∀ i o, i < at_ → acc[i]? = some o → ∀ p, p ∈ (ndAt pd j).gifts → p.2 = o → p.1 ∈ acc) ∧ at_ ≤ acc.length ∧ m' = (ndAt pd j).names.length - at_, fun σ' H' q => q, ?_⟩
      refine ⟨_, rfl, _, rfl, S, _, (at_ : Int), _, rfl, rfl, SqL.of st7.l, atI_nat (n := at_) (v := .ref t.1) (by rw [List.getElem?_map, ht]; rfl), t.1, _, 0, _, rfl, rfl, p1, rfl, ?_⟩
      refine ⟨_, rfl, _, 1, rfl, rfl, ?_⟩
      have G7 := G1.mono t7
      refine ⟨_, rfl, gl, rfl, ⟨_, SqL.of G7.l⟩, ?_⟩
      have nglS : gl ≠ S := fun e => by
        subst e
        rw [G1.l] at nS1
        cases nS1
      have nglC : gl ≠ Cl := fun e => by
        subst e
        rw [G1.l] at nC1
        cases nC1
      refine for_map (wm_list gs fun g => V.ref g.1) (fun pre σ H8 => (∃ x6 x7 x8 x9 x10, σ = [some (.ref a), some (.ref gl), some (.ref S), some (.ref Cl), some (.int ((at_ : Int) + 1)), some (.str pm), x6, x7, x8, x9, x10]) ∧ Same H1 H8 ∧ ∃ (acc8 : List Str) (sts8 cs8 : List PS1), (∃ more, acc8 = acc ++ more) ∧ StL K H8 S sts8 acc8 ∧ ClD K H8 Cl cs8 acc8 ∧ acc8.Nodup ∧ (∀ x, x ∈ acc8 → x ∈ (ndAt pd j).names) ∧ (∀ p, p ∈ pre.map (·.2) → p.2 = pm → p.1 ∈ acc8))
        ⟨⟨_, _, _, _, _, rfl⟩, t7, acc, sts, cs7, ⟨[], (List.append_nil _).symm⟩, st7, cd7, nd7, sub7, fun _ h => by cases h⟩ (fun pre σ H8 q => SqL.of (q.2.1 _ _ G1.l)) (fun pre g8 post σ H8 e q => ?_) (fun σ H8 q => ?_)
      · obtain ⟨⟨y6, y7, y8, y9, y10, rfl⟩, t8, acc8, sts8, cs8, ⟨more, em⟩, st8, cd8, nd8, sub8, clo8⟩ := q
        have hg8 : g8 ∈ gs := by
          rw [e]
          simp
        obtain ⟨e8, w1, w2⟩ := (G1.mono t8).g g8 hg8
        have hgn : g8.2 ∈ (ndAt pd j).gifts := by
          rw [← G1.e]
          exact List.mem_map_of_mem hg8
        have hnn := (gift_names ok hgn).1
        refine ⟨g8.1, _, rfl, w1, rfl, _, _, rfl, _, _, rfl, _, _, rfl, _, _, rfl, rfl, ?_⟩
        refine ⟨_, rfl, _, rfl, rfl, decide (V.str g8.2.2 = V.str pm), rfl, ?_⟩
        by_cases heq : g8.2.2 = pm
        · rw [decide_eq_true (congrArg V.str heq)]
          refine iteT ?_
          have hp8 : pm ∈ acc8 := by
            rw [em]
            exact List.mem_append_left _ hpa
          obtain ⟨cc, v1, v2⟩ := cd8.get nd8 hp8
          refine ⟨_, rfl, _, rfl, Cl, _, rfl, by rw [← v1]; exact DGet.k (k := .inr pm) cd8.d, _, rfl, _, rfl, cc, e8, rfl, v2, w2, ?_⟩
          refine ⟨_, rfl, false, rfl, iteF ?_⟩
          by_cases hin : g8.2.1 ∈ acc8
          · obtain ⟨cn, v3, v4⟩ := cd8.get nd8 hin
            refine ⟨_, rfl, _, rfl, Cl, _, rfl, DGet.k (k := .inr g8.2.1) cd8.d, false, by rw [v3]; rfl, iteF ?_⟩
            refine ⟨_, rfl, _, rfl, Cl, _, rfl, by rw [← v3]; exact DGet.k (k := .inr g8.2.1) cd8.d, _, rfl, .tuple [], .tuple [], .tup v4 .nil, .tup w2 .nil, rfl, rfl, false, rfl, iteF ?_⟩
            refine ⟨⟨_, _, _, _, _, rfl⟩, t8, acc8, sts8, cs8, ⟨more, em⟩, st8, cd8, nd8, sub8, fun p hp hpm' => ?_⟩
            rw [List.map_append] at hp
            rcases List.mem_append.mp hp with hp | hp
            · exact clo8 p hp hpm'
            · rcases List.mem_singleton.mp hp with rfl
              exact hin
          · have v3 := cd8.no hin
            refine ⟨_, rfl, _, rfl, Cl, _, rfl, DGet.k (k := .inr g8.2.1) cd8.d, true, by rw [v3]; rfl, iteT ?_⟩
            have hcl : cs8.length = acc8.length := by
              have := congrArg List.length cd8.e
              rw [List.length_map] at this
              exact this
            have hsl8 : sts8.length = acc8.length := by
              have := congrArg List.length st8.e
              rw [List.length_map] at this
              exact this
            have hal8 : acc8.length ≤ (ndAt pd j).names.length := nd_len nd8 sub8
            refine ⟨_, rfl, _, rfl, _, rfl, Cl, _, rfl, DPut.k (k := .inr g8.2.1) cd8.d (by rw [List.length_map]; exact szl (by omega)), ?_⟩
            rw [putK_new _ v3]
            have x9 : SameX Cl H8 (upd H8 Cl (.dK ((cs8.map fun c => ((Sum.inr c.2 : Key), V.ref c.1)) ++ [(.inr g8.2.1, .ref e8)]))) := SameX.upd2
            have t9 : Same H1 (upd H8 Cl (.dK ((cs8.map fun c => ((Sum.inr c.2 : Key), V.ref c.1)) ++ [(.inr g8.2.1, .ref e8)]))) := SameX.of (SameX.trans (Same.x t8) x9) nC1
            have n9 := SameX.nD x9 cd8.d
            have st9 : StL K (upd H8 Cl (.dK ((cs8.map fun c => ((Sum.inr c.2 : Key), V.ref c.1)) ++ [(.inr g8.2.1, .ref e8)]))) S sts8 acc8 := ⟨by rw [upd_ne nSC]; exact st8.l, st8.e, fun q hq => (st8.t q hq).monoN n9⟩
            have cd9 : ClD K (upd H8 Cl (.dK ((cs8.map fun c => ((Sum.inr c.2 : Key), V.ref c.1)) ++ [(.inr g8.2.1, .ref e8)]))) Cl (cs8 ++ [(e8, g8.2.1)]) (acc8 ++ [g8.2.1]) := ⟨by rw [upd_same, List.map_append]; rfl, by rw [List.map_append, cd8.e]; rfl, fun c hc => by
              rcases List.mem_append.mp hc with hc | hc
              · exact SameN.sqt n9 (cd8.c c hc)
              · rcases List.mem_singleton.mp hc with rfl
                exact SameN.sqt n9 w2⟩
            have w9 := SameN.sqt n9 w2
            generalize upd H8 Cl (.dK ((cs8.map fun c => ((Sum.inr c.2 : Key), V.ref c.1)) ++ [(.inr g8.2.1, .ref e8)])) = H9 at t9 st9 cd9 w9 ⊢
            refine ⟨_, rfl, .inl ⟨rfl, _, SqL.of st9.l⟩, _, rfl, _, rfl, _, rfl, sz (n := 3) (by decide), fun t10 ht10 => ?_⟩
            have s10 : Same H9 (upd H9 t10 (.tup [.str g8.2.1, .ref e8, .str pm])) := Same.new ht10
            have st10 := st9.mono s10
            have cd10 := cd9.mono s10
            have x11 : SameX S (upd H9 t10 (.tup [.str g8.2.1, .ref e8, .str pm])) (upd (upd H9 t10 (.tup [.str g8.2.1, .ref e8, .str pm])) S (.lst (sts8.map (fun t => V.ref t.1) ++ [.ref t10]))) := SameX.upd2
            have n11 := SameX.nL x11 st10.l
            refine ⟨S, _, _, rfl, rfl, st10.l, by rw [List.length_map]; exact szl (by omega), ⟨_, _, _, _, _, rfl⟩, SameX.of (SameX.trans (Same.x (t9.trans s10)) x11) nS1, acc8 ++ [g8.2.1], sts8 ++ [(t10, g8.2.1)], cs8 ++ [(e8, g8.2.1)], ⟨more ++ [g8.2.1], by rw [em, List.append_assoc]⟩, ?_, ?_, ?_, fun x hx => ?_, fun p hp hpm' => ?_⟩
            · refine ⟨by rw [upd_same, List.map_append]; rfl, by rw [List.map_append, st8.e]; rfl, fun q hq => ?_⟩
              rcases List.mem_append.mp hq with hq | hq
              · exact (st10.t q hq).monoN n11
              · rcases List.mem_singleton.mp hq with rfl
                exact ⟨e8, _, SameN.sqt n11 (SqT.of upd_same), SameN.sqt n11 (Same.sqt s10 w9)⟩
            · exact ⟨by rw [upd_ne nSC.symm]; exact cd10.d, cd10.e, fun c hc => SameN.sqt n11 (cd10.c c hc)⟩
            · rw [List.nodup_append]
              refine ⟨nd8, by simp, fun x hx y hy => ?_⟩
              rcases List.mem_singleton.mp hy with rfl
              exact fun e => hin (e ▸ hx)
            · rcases List.mem_append.mp hx with hx | hx
              · exact sub8 x hx
              · rcases List.mem_singleton.mp hx with rfl
                exact hnn
            · rw [List.map_append] at hp
              rcases List.mem_append.mp hp with hp | hp
              · exact List.mem_append_left _ (clo8 p hp hpm')
              · rcases List.mem_singleton.mp hp with rfl
                exact List.mem_append_right _ (List.mem_cons_self ..)
        · rw [decide_eq_false (fun e => heq (by injection e))]
          refine iteF ⟨⟨_, _, _, _, _, rfl⟩, t8, acc8, sts8, cs8, ⟨more, em⟩, st8, cd8, nd8, sub8, fun p hp hpm' => ?_⟩
          rw [List.map_append] at hp
          rcases List.mem_append.mp hp with hp | hp
          · exact clo8 p hp hpm'
          · rcases List.mem_singleton.mp hp with rfl
            exact absurd hpm' heq
      · obtain ⟨⟨y6, y7, y8, y9, y10, rfl⟩, t8, acc8, sts8, cs8, ⟨more, em⟩, st8, cd8, nd8, sub8, clo8⟩ := q
        refine ⟨(ndAt pd j).names.length - (at_ + 1), by omega, at_ + 1, acc8, sts8, cs8, ⟨_, _, _, _, _, _, rfl⟩, t8, st8, cd8, nd8, sub8, fun x hx => ?_, fun i o hi ho p hp hpo => ?_, ?_, rfl⟩
        · rw [em]
          exact List.mem_append_left _ (ins7 x hx)
        · rcases Nat.lt_or_ge i at_ with hi' | hi'
          · rw [em]
            rw [em, List.getElem?_append_left (by omega)] at ho
            exact List.mem_append_left _ (clo7 i o hi' ho p hp hpo)
          · have : i = at_ := by omega
            subst this
            rw [em, List.getElem?_append_left hlt, hpm] at ho
            have := Option.some.inj ho
            subst this
            rw [← G1.e] at hp
            exact clo8 p hp hpo
        · rw [em, List.length_append]
          omega
    · rw [decide_eq_false (by omega)]
      refine iteF ?_
      have hat : at_ = acc.length := by omega
      have hcl : ∀ p, p ∈ (ndAt pd j).gifts → p.2 ∈ acc → p.1 ∈ acc := fun p hp hpa => by
        obtain ⟨i, hi⟩ := List.getElem?_of_mem hpa
        exact clo7 i p.2 (by have := (List.getElem?_eq_some_iff.mp hi).1; omega) hi p hp rfl
      have hall := follow_all shp ins7 hcl
      refine ⟨_, rfl, k S sts gl gs acc H7 (SameX.trans x1 (Same.x t7)) (t7 _ _ f1) (G1.mono t7) st7 nd7 fun x => ⟨sub7 x, hall x⟩⟩
end
end K99
/-! K27 -/
namespace K99
open PySem PySem.Spec PyProof.Rows L2
/-- what a row's name reads in one beat -/
def rdOf (b : Bool) : Rw → List Str
  | .bef _ _ _ => []
  | .call _ _ a _ => if b = true then [a] else []
  | .pln _ t => t.nms
def ctOf (b : Bool) (rs : List Rw) (x : Str) : List Str := (rs.filter fun r => decide (r.tell = x)).flatMap (rdOf b)
def ND.reads (n : ND) (b : Bool) (x : Str) : List Str := n.names.filter fun o => decide (o ∈ ctOf b n.rows x)
/-- the lists that grow, each its own -/
structure SmD (K : PySem.W.Frag) (Hb H : Hp) (d : Addr) (ls : List PS1) (xs : List Str) (ct : Str → List Str) : Prop where
  d : H d = some (.dK (ls.map fun c => ((Sum.inr c.2 : Key), V.ref c.1)))
  e : ls.map (·.2) = xs
  nd : (ls.map (·.1)).Nodup
  l : ∀ c, c ∈ ls → H c.1 = some (.lst ((ct c.2).map .str)) ∧ Hb c.1 = none
/-- what each name reads, told -/
structure RdD (K : PySem.W.Frag) (H : Hp) (d : Addr) (ls : List PS1) (xs : List Str) (rd : Str → List Str) : Prop where
  d : H d = some (.dK (ls.map fun c => ((Sum.inr c.2 : Key), V.ref c.1)))
  e : ls.map (·.2) = xs
  l : ∀ c, c ∈ ls → H c.1 = some (.lst ((rd c.2).map .str))
theorem RdD.mono {K : PySem.W.Frag} {H H' : Hp} {d : Addr} {ls : List PS1} {xs : List Str} {rd : Str → List Str} (s : Same H H') (h : RdD K H d ls xs rd) : RdD K H' d ls xs rd := ⟨s _ _ h.d, h.e, fun c hc => s _ _ (h.l c hc)⟩
theorem SmD.mono {K : PySem.W.Frag} {Hb H H' : Hp} {d : Addr} {ls : List PS1} {xs : List Str} {ct : Str → List Str} (s : Same H H') (h : SmD K Hb H d ls xs ct) : SmD K Hb H' d ls xs ct := ⟨s _ _ h.d, h.e, h.nd, fun c hc => ⟨s _ _ (h.l c hc).1, (h.l c hc).2⟩⟩
theorem ps_get {ls : List PS1} {xs : List Str} (e : ls.map (·.2) = xs) (nd : xs.Nodup) {x : Str} (hx : x ∈ xs) : ∃ c, c ∈ ls ∧ c.2 = x ∧ valV (ls.map fun c => ((Sum.inr c.2 : Key), V.ref c.1)) (.inr x) = some (.ref c.1) := by
  rw [← e] at hx nd
  obtain ⟨c, hc, rfl⟩ := List.mem_map.mp hx
  exact ⟨c, hc, rfl, valV_at (f := fun c : PS1 => c.2) (g := fun c => V.ref c.1) nd hc⟩
theorem nd_snd {ls : List PS1} (nd : (ls.map (·.1)).Nodup) {c c' : PS1} (h : c ∈ ls) (h' : c' ∈ ls) (e : c.1 = c'.1) : c = c' := by
  induction ls with
  | nil => cases h
  | cons q r ih =>
    rw [List.map_cons, List.nodup_cons] at nd
    rcases List.mem_cons.mp h with h1 | h1
    · rcases List.mem_cons.mp h' with h2 | h2
      · rw [h1, h2]
      · exact absurd (List.mem_map.mpr ⟨c', h2, by rw [← e, h1]⟩) nd.1
    · rcases List.mem_cons.mp h' with h2 | h2
      · exact absurd (List.mem_map.mpr ⟨c, h1, by rw [e, h2]⟩) nd.1
      · exact ih nd.2 h1 h2
/-- one of the lists grows -/
theorem SmD.grow {K : PySem.W.Frag} {Hb H : Hp} {d : Addr} {ls : List PS1} {xs : List Str} {ct : Str → List Str} (h : SmD K Hb H d ls xs ct) (ndx : xs.Nodup) {c : PS1} (hc : c ∈ ls) (more : List Str) :
    SmD K Hb (upd H c.1 (.lst ((ct c.2).map V.str ++ more.map V.str))) d ls xs (fun x => ct x ++ (if c.2 = x then more else [])) := by
  have hcd : d ≠ c.1 := fun e => by
    have := (h.l c hc).1
    rw [← e, h.d] at this
    cases this
  refine ⟨by rw [upd_ne hcd]; exact h.d, h.e, h.nd, fun q hq => ⟨?_, (h.l q hq).2⟩⟩
  by_cases e : q = c
  · subst e
    rw [upd_same, if_pos rfl, List.map_append]
  · have hne : q.1 ≠ c.1 := fun z => e (nd_snd h.nd hq hc z)
    have hne2 : ¬ c.2 = q.2 := fun z => by
      have nd2 : (ls.map (·.2)).Nodup := by rw [h.e]; exact ndx
      obtain ⟨i, hi⟩ := List.getElem?_of_mem hq
      obtain ⟨i', hi'⟩ := List.getElem?_of_mem hc
      have h1 : (ls.map (·.2))[i]? = some q.2 := by rw [List.getElem?_map, hi]; rfl
      have h2 : (ls.map (·.2))[i']? = some q.2 := by rw [List.getElem?_map, hi', ← z]; rfl
      have := (List.getElem?_inj (List.getElem?_eq_some_iff.mp h1).1 nd2).mp (h1.trans h2.symm)
      subst this
      rw [hi] at hi'
      exact e (Option.some.inj hi')
    rw [upd_ne hne, if_neg hne2, List.append_nil]
    exact (h.l q hq).1
theorem ctOf_snoc (b : Bool) (rs : List Rw) (r : Rw) (x : Str) : ctOf b (rs ++ [r]) x = ctOf b rs x ++ (if r.tell = x then rdOf b r else []) := by
  unfold ctOf
  rw [List.filter_append, List.flatMap_append]
  congr 1
  by_cases h : r.tell = x
  · simp [h]
  · simp [h]
theorem SqT.keepK {K : PySem.W.Frag} {H H' : Hp} {c : Addr} {o : Obj} {kvs : List (Key × V)} (g : H c = some (.frz o (.dK kvs))) (s : SameX c H H') {b : Addr} {xs : List V} (q : SqT K H b xs) : SqT K H' b xs := by
  have ne : ∀ {u : HO}, H b = some u → u ≠ .frz o (.dK kvs) → H' b = some u := fun {u} e n => s _ _ (fun z => by
    subst z
    rw [g] at e
    exact n (Option.some.inj e).symm) e
  rcases q with (q | ⟨o', q⟩) | q
  · exact .inl (.inl (ne q fun z => by cases z))
  · exact .inl (.inr ⟨o', ne q fun z => by cases z⟩)
  · exact .inr q
theorem word_plain {r : Rw} (h : r.isCall = false) : V.bl (inV (.str r.word) [.str "plain", .str "when", .str "hold"]) = .bl r.isPln := by
  cases r with
  | bef _ _ _ => exact (by decide : V.bl (inV (.str "before") [.str "plain", .str "when", .str "hold"]) = .bl false)
  | call _ _ _ _ => cases h
  | pln _ _ => exact (by decide : V.bl (inV (.str "plain") [.str "plain", .str "when", .str "hold"]) = .bl true)
theorem rd_bef {b : Bool} {r : Rw} (h : r.isCall = false) (h2 : r.isPln = false) : rdOf b r = [] := by
  cases r with
  | bef _ _ _ => rfl
  | call _ _ _ _ => cases h
  | pln _ _ => cases h2
theorem rd_pln {b : Bool} {r : Rw} (h2 : r.isPln = true) : rdOf b r = r.ments := by
  cases r with
  | bef _ _ _ => cases h2
  | call _ _ _ _ => cases h2
  | pln _ _ => rfl
theorem SmD.eqf {K : PySem.W.Frag} {Hb H : Hp} {d : Addr} {ls : List PS1} {xs : List Str} {ct ct' : Str → List Str} (h : SmD K Hb H d ls xs ct) (e : ∀ x, ct x = ct' x) : SmD K Hb H d ls xs ct' := by
  have : ct = ct' := funext e
  rw [← this]
  exact h
section
variable {P : Program} {w : World} {K : PySem.W.Frag} {mg : Str → Option Value} {base : Heap}
def spReadings (K : PySem.W.Frag) : Sp := fun vs H Q _ => ∃ (a dx nd kn c r : Addr) (g s : V) (pd : List ND) (ss : List Sh) (j : Nat) (cs : List PS1), vs = [V.ref a] ∧ H a = some (.ins (A_Fit K) dx (ff nd kn c r g s)) ∧ Cur K H a dx nd kn pd ss j ∧ ClD K H c cs (ndAt pd j).names ∧
  ∀ d ls H', Same H H' → RdD K H' d ls (ndAt pd j).names ((ndAt pd j).reads (stAt ss (j - 1))) → Q (.ref d) H'
theorem ok_Fit_readings (T : Txt K mg) : FnOk P w K mg base CX0 9 (f_Fit_readings K) (fdAt K (f_Fit_readings K)) P_Fit_readings (spReadings K) := by
  refine FunD.ok T.F_Fit_readings sc_Fit_readings (fun vs H Q E h => ?_) (fun cdv A outer s H vs Q E hr h => ?_)
  · obtain ⟨a, dx, nd, kn, c, r, g, s, pd, ss, j, cs, rfl, _⟩ := h
    rfl
  · obtain ⟨a, dx, nd, kn, c, r, g, s, pd, ss, j, cs, rfl, h1, C, cd, k⟩ := h
    refine ⟨_, PSs.nox (pss_cons (ps_set (i := 1) sc_Fit_readings.nd rfl (by first | exact Or.inl rfl | exact Or.inr rfl) (pe_callTy (call_dictP (by rfl)) (by rfl) T.z_dict boot_dict (pa_cons (pe_lock (pe_lc (own := [("name", 10)]) (by rfl) sc_Fit_readings.nd (pi_keys (pe_fld (pv 0) rfl)) (blkOk_by (N := N_Fit_readings) (sc := defScope s_Fit_readings) (by decide +kernel)) (fun _ _ _ _ _ => (pg_name (i := 10) sc_Fit_readings.nd rfl (by first | exact Or.inl rfl | exact Or.inr rfl))) (fun _ _ _ _ _ => pts_nil) (fun _ _ _ _ _ => (pe_tup (pa_cons (pv 10) (pa_cons (pe_callTy (call_list_ofK (K := K)) (by rfl) T.z_list boot_list (pa_cons (pe_slice (r := rSlA K) sl_tupA (pe_dget (hu_of hr) (pe_fldK (K := K) (pv 0) rfl) (pv 10) (fun _ _ => rfl)) (po_some (pe_un un_neg pe_int)) po_none) pa_nil)) pa_nil)))))) pa_nil))) (pss_cons (ps_for PassesOwn.never rfl (pi_list (pe_meth0 (pe_fld (pv 0) rfl) T.c_Node T.m_Node_rows (ok_Node_rows T) (hr.mono (by first | decide | omega)) T.b_Node_rows .nil pass0)) (pg_name (i := 2) sc_Fit_readings.nd rfl (by first | exact Or.inl rfl | exact Or.inr rfl)) (pss_one (ps_if (pt_val (pe_um0 (p := fun _ => True) (fun d _ => me_is_call T d) (pv 2) (hr.mono (by first | decide | omega)) pass0)) (pss_cons (ps_asg (pe_meth (pv 0) T.c_Fit T.m_Fit_named_outside (ok_Fit_named_outside T) (hr.mono (by first | decide | omega)) T.b_Fit_named_outside .nil pass0 (pa_cons (pv 2) pa_nil)) (pg_tup rfl (pgs_cons (pg_name (i := 3) sc_Fit_readings.nd rfl (by first | exact Or.inl rfl | exact Or.inr rfl)) (pgs_cons (pg_name (i := 4) sc_Fit_readings.nd rfl (by first | exact Or.inl rfl | exact Or.inr rfl)) pgs_nil)))) (pss_one (ps_for PassesOwn.never rfl (pi_tup (pv 4)) (pg_tup rfl (pgs_cons (pg_name (i := 5) sc_Fit_readings.nd rfl (by first | exact Or.inl rfl | exact Or.inr rfl)) (pgs_cons (pg_name (i := 6) sc_Fit_readings.nd rfl (by first | exact Or.inl rfl | exact Or.inr rfl)) (pgs_cons (pg_name (i := 7) sc_Fit_readings.nd rfl (by first | exact Or.inl rfl | exact Or.inr rfl)) (pgs_cons (pg_name (i := 8) sc_Fit_readings.nd rfl (by first | exact Or.inl rfl | exact Or.inr rfl)) pgs_nil))))) (pss_one (ps_expr (pe_bm PySem.F.plainAttrs_list PySem.F.slot_list_extend PySem.F.type_list_extend mt_extend (pe_dget (hu_of hr) (pv 1) (pe_dget (hu_of hr) (pv 3) (pv 5) (fun _ _ => rfl)) (fun _ _ => rfl)) (pa_cons (pe_lc (own := [("other", 11)]) (by rfl) sc_Fit_readings.nd (pi_tup (pv 8)) (blkOk_by (N := N_Fit_readings) (sc := defScope s_Fit_readings) (by decide +kernel)) (fun _ _ _ _ _ => (pg_name (i := 11) sc_Fit_readings.nd rfl (by first | exact Or.inl rfl | exact Or.inr rfl))) (fun _ _ _ _ _ => pts_nil) (fun _ _ _ _ _ => (pe_dget (hu_of hr) (pv 3) (pv 11) (fun _ _ => rfl)))) pa_nil))))))) (pss_one (ps_if (pt_cmpR op_in_seq (pe_ix ix_tup (pe_um0 (p := fun _ => True) (fun d _ => me_told T d) (pv 2) (hr.mono (by first | decide | omega)) pass0) pe_int (fun _ _ => rfl)) (pe_tup (pa_cons pe_str (pa_cons pe_str (pa_cons pe_str pa_nil)))) (by rfl)) (pss_one (ps_expr (pe_bm PySem.F.plainAttrs_list PySem.F.slot_list_extend PySem.F.type_list_extend mt_extend (pe_dget (hu_of hr) (pv 1) (pe_ix ix_list (pe_um0 (p := fun _ => True) (fun d _ => me_tells T d) (pv 2) (hr.mono (by first | decide | omega)) pass0) pe_int (fun _ _ => rfl)) (fun _ _ => rfl)) (pa_cons (pe_um0 (p := fun _ => True) (fun d _ => me_names T d) (pv 2) (hr.mono (by first | decide | omega)) pass0) pa_nil)))) pss_nil))))) (pss_cons (ps_set (i := 9) sc_Fit_readings.nd rfl (by first | exact Or.inl rfl | exact Or.inr rfl) pe_dnewK) (pss_cons (ps_lock (ps_for PassesOwn.never rfl (pi_keys (pe_fld (pv 0) rfl)) (pg_name (i := 10) sc_Fit_readings.nd rfl (by first | exact Or.inl rfl | exact Or.inr rfl)) (pss_one (ps_dput (hu_of hr) (pv 9) (pv 10) (pe_lc (own := [("other", 11)]) (by rfl) sc_Fit_readings.nd (pi_keys (pe_fld (pv 0) rfl)) (blkOk_by (N := N_Fit_readings) (sc := defScope s_Fit_readings) (by decide +kernel)) (fun _ _ _ _ _ => (pg_name (i := 11) sc_Fit_readings.nd rfl (by first | exact Or.inl rfl | exact Or.inr rfl))) (fun _ _ _ _ _ => (pts_one (pt_cmpR (r := rIn K false) op_in_seq (pv 11) (pe_dget (hu_of hr) (pv 1) (pv 10) (fun _ _ => rfl)) (by rfl)))) (fun _ _ _ _ _ => (pv 11))) rfl)))) (pss_one (ps_ret (pv 9))))))), ?_⟩
    have ok := C.ok
    have hnd := ok.nd
    obtain ⟨hm1, hm2⟩ := ndAt_mem C.lt
    have nac : a ≠ c := fun e => by
      subst e
      rw [cd.d] at h1
      cases h1
    have hcl : cs.length ≤ 1100 := by
      have h5 := congrArg List.length cd.e
      rw [List.length_map] at h5
      unfold ND.names ND.tells at h5
      rw [List.length_append, List.length_map] at h5
      have := ok.insL
      have := ok.rowL
      omega
    -- the empty lists
    refine ⟨c, _, cd.d, trivial, fun od => ?_⟩
    have gL : upd H c (.frz od (.dK (cs.map fun c => ((Sum.inr c.2 : Key), V.ref c.1)))) c = some (.frz od (.dK (cs.map fun c => ((Sum.inr c.2 : Key), V.ref c.1)))) := upd_same
    have xL : SameX c H (upd H c (.frz od (.dK (cs.map fun c => ((Sum.inr c.2 : Key), V.ref c.1))))) := SameX.upd2
    generalize hHL : upd H c (.frz od (.dK (cs.map fun c => ((Sum.inr c.2 : Key), V.ref c.1)))) = HL at gL xL ⊢
    refine ⟨_, rfl, a, _, dx, _, _, rfl, xL _ _ nac h1, T.c_Fit, T.n_Fit_clocks, rfl, c, od, rfl, .inl ⟨_, gL, fun D hD => ?_⟩⟩
    have nDc : D ≠ c := fun z => by
      subst z
      rw [hD] at gL
      cases gL
    have nHD : H D = none := by
      rw [← hHL, upd_ne nDc] at hD
      exact hD
    refine lc_map (wm_keys cs (fun q => Sum.inr q.2) fun q => V.ref q.1) (fun pre H2 => Same HL H2 ∧ ∃ (ts : List Addr) (ls : List PS1), H2 D = some (.lst (ts.map .ref)) ∧ ls.map (·.2) = pre.map (·.2) ∧ Paired (fun p (kv : Key × V) => SqT K H2 p [kV kv.1, kv.2]) ts (ls.map fun q => ((Sum.inr q.2 : Key), V.ref q.1)) ∧ (ls.map (·.1)).Nodup ∧ ∀ q, q ∈ ls → H2 q.1 = some (.lst []) ∧ H q.1 = none ∧ q.1 ≠ D)
      ⟨Same.new hD, [], [], upd_same, rfl, .nil, List.nodup_nil, fun _ h => by cases h⟩ (fun pre H2 q => q.1 _ _ gL) (fun pre x post H2 e q => ?_) (fun H2 q => ?_)
    · obtain ⟨s2, ts, ls, q1, q2, q3, q4, q5⟩ := q
      have hx : x ∈ cs := by
        rw [e]
        simp
      have hxn : x.2 ∈ (ndAt pd j).names := by
        rw [← cd.e]
        exact List.mem_map_of_mem hx
      obtain ⟨cc, v1, v2⟩ := cd.get hnd hxn
      have v2L : SqT K H2 cc [] := Same.sqt s2 (SameN.sqt (SameX.nD xL cd.d) v2)
      refine ⟨rfl, ?_⟩
      refine ⟨_, rfl, _, rfl, a, _, dx, _, _, rfl, s2 _ _ (xL _ _ nac h1), T.c_Fit, T.n_Fit_clocks, rfl, _, rfl, c, _, rfl, .inl ⟨_, .inr x.2, .inr ⟨od, s2 _ _ gL⟩, rfl, v1.symm⟩, ?_⟩
      refine ⟨1, rfl, _, rfl, cc, _, rfl, v2L, fun _ => ?_, fun h => absurd ⟨rfl, rfl⟩ h⟩
      refine ⟨cc, _, rfl, .inr v2L, fun l hl => ?_⟩
      refine ⟨sz (n := 2) (by decide), fun t ht => ?_⟩
      have s3 : Same H2 (upd (upd H2 l (.lst [])) t (.tup [kV (Sum.inr x.2), .ref l])) := (Same.new hl).trans (Same.new ht)
      have nlD : l ≠ D := fun z => by
        subst z
        rw [q1] at hl
        cases hl
      have nlt : l ≠ t := fun z => by
        subst z
        rw [upd_same] at ht
        cases ht
      have gl3 : upd (upd H2 l (.lst [])) t (.tup [kV (Sum.inr x.2), .ref l]) l = some (.lst []) := by
        rw [upd_ne nlt]
        exact upd_same
      have gt3 : upd (upd H2 l (.lst [])) t (.tup [kV (Sum.inr x.2), .ref l]) t = some (.tup [kV (Sum.inr x.2), .ref l]) := upd_same
      have nHl : H l = none := by
        cases hq : H l with
        | none => rfl
        | some u =>
          have nlc : l ≠ c := fun z => by
            subst z
            rw [s2 _ _ gL] at hl
            cases hl
          have := s2 _ _ (xL _ _ nlc hq)
          rw [hl] at this
          cases this
      generalize upd (upd H2 l (.lst [])) t (.tup [kV (Sum.inr x.2), .ref l]) = H3 at s3 gl3 gt3 ⊢
      have q13 := s3 _ _ q1
      have n3 : SameN H3 (upd H3 D (.lst (ts.map .ref ++ [.ref t]))) := SameN.lst q13
      refine ⟨_, q13, ?_, Same.mut (s2.trans s3) hD, ts ++ [t], ls ++ [(l, x.2)], ?_, ?_, ?_, ?_, fun q hq => ?_⟩
      · have h7 := q3.length
        have h8 := congrArg List.length q2
        rw [List.length_map] at h7
        rw [List.length_map, List.length_map] at h8
        rw [List.length_map]
        rw [e] at hcl
        simp at hcl
        exact szl (by omega)
      · rw [upd_same, List.map_append]
        rfl
      · rw [List.map_append, List.map_append, q2]
        rfl
      · rw [List.map_append]
        exact (L2.Paired.mapP q3 fun p kv o => SameN.sqt n3 (Same.sqt s3 o)).snoc (SameN.sqt n3 (SqT.of gt3))
      · rw [List.map_append, List.nodup_append]
        refine ⟨q4, by simp, fun y hy z hz => ?_⟩
        obtain ⟨q, hq, rfl⟩ := List.mem_map.mp hy
        have hz' : z = l := by simpa using hz
        subst hz'
        intro ez
        have := (q5 q hq).1
        rw [ez, hl] at this
        cases this
      · rcases List.mem_append.mp hq with hq | hq
        · obtain ⟨w1, w2, w3⟩ := q5 q hq
          exact ⟨by rw [upd_ne w3]; exact s3 _ _ w1, w2, w3⟩
        · rcases List.mem_singleton.mp hq with rfl
          exact ⟨by rw [upd_ne nlD]; exact gl3, nHl, nlD⟩
    obtain ⟨s2, ts, ls, q1, q2, q3, q4, q5⟩ := q
    refine ⟨s2 _ _ gL, ?_⟩
    have sU : Same H (upd H2 c (.dK (cs.map fun c => ((Sum.inr c.2 : Key), V.ref c.1)))) := fun b o hb => by
      by_cases ebd : b = c
      · subst ebd
        rw [cd.d] at hb
        rw [← hb]
        exact upd_same
      · rw [upd_ne ebd]
        exact s2 _ _ (xL _ _ ebd hb)
    have gL2 := s2 _ _ gL
    have xU : SameX c H2 (upd H2 c (.dK (cs.map fun c => ((Sum.inr c.2 : Key), V.ref c.1)))) := SameX.upd2
    have hD2 : upd H2 c (.dK (cs.map fun c => ((Sum.inr c.2 : Key), V.ref c.1))) D = some (.lst (ts.map .ref)) := xU _ _ nDc q1
    have q3' : Paired (fun p (kv : Key × V) => SqT K (upd H2 c (.dK (cs.map fun c => ((Sum.inr c.2 : Key), V.ref c.1)))) p [kV kv.1, kv.2]) ts (ls.map fun q => ((Sum.inr q.2 : Key), V.ref q.1)) := L2.Paired.mapP q3 fun p kv o => SqT.keepK gL2 xU o
    have q5' : ∀ q, q ∈ ls → upd H2 c (.dK (cs.map fun c => ((Sum.inr c.2 : Key), V.ref c.1))) q.1 = some (.lst []) ∧ H q.1 = none := fun q hq => by
      obtain ⟨w1, w2, w3⟩ := q5 q hq
      refine ⟨xU _ _ (fun z => ?_) w1, w2⟩
      rw [z, gL2] at w1
      cases w1
    generalize upd H2 c (.dK (cs.map fun c => ((Sum.inr c.2 : Key), V.ref c.1))) = HU at sU hD2 q3' q5' ⊢
    clear xU q5 q3
    have eN : ls.map (·.2) = (ndAt pd j).names := by rw [q2, cd.e]
    refine ⟨D, ts, (ls.map fun q : PS1 => ((Sum.inr q.2 : Key), V.ref q.1)), rfl, SqL.of hD2, q3', fun Sd hSd => ?_⟩
    rw [merge_self (by rw [List.map_map]; show (ls.map ((Sum.inr : Str → Key) ∘ fun c : PS1 => c.2)).Nodup; rw [← List.map_map, eN]; exact inr_nodup hnd)]
    have s3 : Same HU (upd HU Sd (.dK (ls.map fun q => ((Sum.inr q.2 : Key), V.ref q.1)))) := Same.new hSd
    have SM : SmD K H (upd HU Sd (.dK (ls.map fun q => ((Sum.inr q.2 : Key), V.ref q.1)))) Sd ls (ndAt pd j).names (ctOf (stAt ss (j - 1)) []) := ⟨upd_same, eN, q4, fun q hq => ⟨s3 _ _ (q5' q hq).1, (q5' q hq).2⟩⟩
    have s03 := sU.trans s3
    have nSd : H Sd = none := sU.free hSd
    generalize upd HU Sd (.dK (ls.map fun q => ((Sum.inr q.2 : Key), V.ref q.1))) = H3 at SM s03 ⊢
    obtain ⟨dy, ki, ko, kr, te, rs0, u1, u2, u3⟩ := id C.nd
    refine ⟨_, rfl, a, _, dx, _, _, rfl, s03 _ _ h1, T.c_Fit, T.n_Fit_ground, rfl, nd, dy, _, rfl, s03 _ _ u1, rfl, nd, ndAt pd j, rfl, C.nd.mono s03, fun l4 rs H4 s4 hl4 e2 eq2 => ?_⟩
    refine ⟨l4, rfl, ⟨_, SqL.of hl4⟩, ?_⟩
    have hrl := rs_len e2 ok
    have SM4 := SM.mono s4
    have s04 := s03.trans s4
    have hcts : ∀ pre post : List Rw, (ndAt pd j).rows = pre ++ post → ∀ x, (ctOf (stAt ss (j - 1)) pre x).length ≤ 5000 := fun pre post e x => by
      have h : ∀ rs : List Rw, (∀ r, r ∈ rs → r.oks) → (ctOf (stAt ss (j - 1)) rs x).length ≤ 5 * rs.length := by
        intro rs
        induction rs with
        | nil => intro _; exact Nat.le_refl _
        | cons r rest ih =>
          intro h
          have e1 : ctOf (stAt ss (j - 1)) (r :: rest) x = (if r.tell = x then rdOf (stAt ss (j - 1)) r else []) ++ ctOf (stAt ss (j - 1)) rest x := by
            unfold ctOf
            by_cases h : r.tell = x <;> simp [h]
          have h1 := ih fun q hq => h q (List.mem_cons_of_mem _ hq)
          have h2 := h r (List.mem_cons_self ..)
          have h3 : (rdOf (stAt ss (j - 1)) r).length ≤ 5 := by
            cases r with
            | bef x v b => exact Nat.zero_le _
            | call x c b k =>
              show (if stAt ss (j - 1) = true then [b] else []).length ≤ 5
              split <;> simp
            | pln x t =>
              show t.nms.length ≤ 5
              rw [Tm.nms_len]
              exact h2.more
          rw [e1, List.length_append, List.length_cons]
          split
          · omega
          · simp; omega
      have h4 := h pre fun r hr => ok.rws r (by rw [e]; exact List.mem_append_left _ hr)
      have h5 : pre.length ≤ (ndAt pd j).rows.length := by
        rw [e, List.length_append]
        omega
      have := ok.rowL
      omega
    have nls : ∀ q, q ∈ ls → q.1 ≠ l4 := fun q hq z => by
      have w := (SM.l q hq).1
      have := s4 _ _ w
      rw [z, hl4] at this
      have := HO.lst.inj (Option.some.inj this)
      have hr : rs = [] := List.map_eq_nil_iff.mp this
      subst hr
      have h0 : (ndAt pd j).rows = [] := e2.symm
      have := ok.outT
      unfold ND.tells at this
      rw [h0] at this
      cases this
    refine for_map (wm_list rs fun p => V.ref p.1) (fun pre σ H5 => Same H H5 ∧ SameN H4 H5 ∧ H5 l4 = some (.lst (rs.map fun p => .ref p.1)) ∧ (∃ x2 x3 x4 x5 x6 x7 x8 x9 x10 x11, σ = [some (.ref a), some (.ref Sd), x2, x3, x4, x5, x6, x7, x8, x9, x10, x11]) ∧ SmD K H H5 Sd ls (ndAt pd j).names (ctOf (stAt ss (j - 1)) (pre.map (·.2))))
      ⟨s04, SameN.refl _, hl4, ⟨_, _, _, _, _, _, _, _, _, _, rfl⟩, SM4⟩ (fun pre σ H5 q => SqL.of q.2.2.1) (fun pre p post σ H5 e q => ?_) (fun σ H5 q => ?_)
    · obtain ⟨s5, n5, gl5, ⟨x2, x3, x4, x5, x6, x7, x8, x9, x10, x11, rfl⟩, SM5⟩ := q
      have hp : p ∈ rs := by
        rw [e]
        simp
      have hrow := rs_in e2 hp
      have hok := ok.rws _ hrow
      have o2 : EqO K H5 p.1 p.2 := (eq2 p hp).monoN n5
      have htell : p.2.tell ∈ (ndAt pd j).names := List.mem_append_right _ (List.mem_map_of_mem hrow)
      have hep : ((pre ++ [p]).map (·.2)) = pre.map (·.2) ++ [p.2] := by simp
      have hct := hcts (pre.map (·.2)) ((p :: post).map (·.2)) (by rw [← e2, e, List.map_append])
      refine ⟨p.2, trivial, _, rfl, p.1, rfl, o2, p.1, rfl, o2, _, rfl, ?_⟩
      obtain ⟨cc, hcc, hcx, hcv⟩ := ps_get SM5.e hnd htell
      -- one list grows
      have fin : ∀ H6 (more : List Str), Same H5 H6 → more = rdOf (stAt ss (j - 1)) p.2 → Same H (upd H6 cc.1 (.lst ((ctOf (stAt ss (j - 1)) (pre.map (·.2)) cc.2).map V.str ++ more.map V.str))) ∧ SameN H4 (upd H6 cc.1 (.lst ((ctOf (stAt ss (j - 1)) (pre.map (·.2)) cc.2).map V.str ++ more.map V.str))) ∧ upd H6 cc.1 (.lst ((ctOf (stAt ss (j - 1)) (pre.map (·.2)) cc.2).map V.str ++ more.map V.str)) l4 = some (.lst (rs.map fun p => .ref p.1)) ∧
          SmD K H (upd H6 cc.1 (.lst ((ctOf (stAt ss (j - 1)) (pre.map (·.2)) cc.2).map V.str ++ more.map V.str))) Sd ls (ndAt pd j).names (ctOf (stAt ss (j - 1)) ((pre ++ [p]).map (·.2))) := fun H6 more s6 em => by
        have SM6 := SM5.mono s6
        refine ⟨SameX.of (SameX.put (Same.x (s5.trans s6))) (SM6.l cc hcc).2, SameN.trans n5 (SameN.trans (Same.n s6) (SameN.lst (SM6.l cc hcc).1)), ?_, ?_⟩
        · rw [upd_ne (nls cc hcc).symm]
          exact s6 _ _ gl5
        · refine (SM6.grow hnd hcc more).eqf fun x => ?_
          rw [hep, ctOf_snoc, hcx, em]
      cases hcall : p.2.isCall with
      | false =>
        refine iteF ?_
        refine ⟨p.2, trivial, _, rfl, p.1, rfl, o2, p.1, rfl, o2, fun dd hd => ?_⟩
        obtain ⟨more, hmr⟩ := rw_tup hd
        refine ⟨dd, _, 0, _, rfl, rfl, hmr, at0, sz (n := 3) (by decide), fun t ht => ⟨t, _, rfl, .inr (SqT.of upd_same), rfl, rfl, p.2.isPln, word_plain hcall, ?_⟩⟩
        have s6 : Same H5 (upd H5 t (.tup [.str "plain", .str "when", .str "hold"])) := Same.new ht
        generalize upd H5 t (.tup [.str "plain", .str "when", .str "hold"]) = H6 at s6 ⊢
        cases hpl : p.2.isPln with
        | false =>
          refine iteF ⟨s5.trans s6, SameN.trans n5 (Same.n s6), s6 _ _ gl5, ⟨_, _, _, _, _, _, _, _, _, _, rfl⟩, (SM5.mono s6).eqf fun x => ?_⟩
          rw [hep, ctOf_snoc, rd_bef hcall hpl]
          simp
        | true =>
          refine iteT ?_
          have o6 := o2.mono s6
          refine ⟨_, rfl, p.2, trivial, _, rfl, p.1, rfl, o6, p.1, rfl, o6, fun l7 H7 s7 hl7 => ?_⟩
          have SM7 := SM5.mono (s6.trans s7)
          refine ⟨l7, _, 0, _, rfl, rfl, SqL.of hl7, rfl, Sd, .ref cc.1, rfl, by rw [← hcv]; exact DGet.k (k := .inr p.2.tell) SM7.d, .inl ⟨rfl, _, SqL.of (SM7.l cc hcc).1⟩, ?_⟩
          have o7 := o6.mono s7
          refine ⟨p.2, trivial, _, rfl, p.1, rfl, o7, p.1, rfl, o7, hok, fun l8 H8 s8 hl8 => ?_⟩
          have SM8 := SM7.mono s8
          have hml := ments_len hok
          have hc5 := hct cc.2
          obtain ⟨f1, f2, f3, f4⟩ := fin H8 p.2.ments (s6.trans (s7.trans s8)) (rd_pln hpl).symm
          exact ⟨cc.1, l8, _, _, rfl, rfl, (SM8.l cc hcc).1, hl8, by rw [List.length_map, List.length_map]; exact sz (by omega), f1, f2, f3, ⟨_, _, _, _, _, _, _, _, _, _, rfl⟩, f4⟩
      | true =>
        refine iteT ?_
        obtain ⟨x, cn, b, kk, hpc⟩ : ∃ x cn b kk, p.2 = .call x cn b kk := by
          cases hq2 : p.2 with
          | bef x v b => rw [hq2] at hcall; cases hcall
          | call x c b k => exact ⟨_, _, _, _, rfl⟩
          | pln x t => rw [hq2] at hcall; cases hcall
        have C5 := C.mono s5
        have o2c := o2
        rw [hpc] at o2c
        have hrc := hrow
        rw [hpc] at hrc
        obtain ⟨hj, hcn, hkk⟩ := C.call hrc
        obtain ⟨hq1, hq2⟩ := ndAt_mem (pd := pd) (j := j - 1) (by have := C.lt; omega)
        have okm := C.ch.oks _ hq2
        have shm := C.sh _ _ hq1
        have hin : (shAt ss (j - 1)).in0 ∈ (ndAt pd (j - 1)).ins := by
          rw [shm.ins]
          exact List.mem_cons_self ..
        have hout : (ndAt pd (j - 1)).out ∉ (ndAt pd (j - 1)).ins := fun h => by
          have := okm.nd
          unfold ND.names at this
          exact (List.nodup_append.mp this).2.2 _ h _ okm.outT rfl
        refine ⟨_, rfl, a, dx, _, rfl, s5 _ _ h1, rfl, _, rfl, a, p.1, dx, nd, kn, c, r, g, s, pd, ss, j, x, cn, b, kk, rfl, s5 _ _ h1, C5, o2c, hrc, fun pp d su H6 s6 hpp hd hsu => ?_⟩
        refine ⟨pp, _, rfl, hpp, rfl, _, _, rfl, _, _, rfl, rfl, ?_⟩
        obtain ⟨t, e', f', h', m1, m2, m3, m4, m5⟩ := hsu
        refine ⟨_, rfl, su, rfl, ⟨_, m1⟩, ?_⟩
        have hx1 : cc.2 = x := by rw [hcx, hpc]; rfl
        have hgrd : rdOf (stAt ss (j - 1)) p.2 = if stAt ss (j - 1) = true then [b] else [] := by
          rw [hpc]
          rfl
        have SM6 := SM5.mono s6
        refine for_map (wm_tup [t] V.ref) (fun pre2 σ H7 => (pre2 = [] → Same H6 H7) ∧ SameN H6 H7 ∧ (∃ x5 x6 x7 x8 x9 x10 x11, σ = [some (.ref a), some (.ref Sd), some (.ref p.1), some (.ref d), some (.ref su), x5, x6, x7, x8, x9, x10, x11]) ∧ (pre2 ≠ [] → Same H H7 ∧ SameN H4 H7 ∧ H7 l4 = some (.lst (rs.map fun p => .ref p.1)) ∧ SmD K H H7 Sd ls (ndAt pd j).names (ctOf (stAt ss (j - 1)) ((pre ++ [p]).map (·.2)))))
          ⟨fun _ => Same.refl _, SameN.refl _, ⟨_, _, _, _, _, _, _, rfl⟩, fun h => absurd rfl h⟩ (fun pre2 σ H7 q => SameN.sqt q.2.1 m1) (fun pre2 y post2 σ H7 e2' q => ?_) (fun σ H7 q => ?_)
        · obtain ⟨z1, zn, ⟨y5, y6, y7, y8, y9, y10, y11, rfl⟩, z2⟩ := q
          have hp2 : pre2 = [] ∧ y = t := by
            cases pre2 with
            | nil =>
              injection e2' with e2' _
              exact ⟨rfl, e2'.symm⟩
            | cons a r => simp at e2'
          obtain ⟨rfl, rfl⟩ := hp2
          have s7 := z1 rfl
          have SM7 := SM6.mono s7
          have hd7 := s7 _ _ hd
          refine ⟨y, _, rfl, Same.sqt s7 m2, rfl, _, _, rfl, _, _, rfl, _, _, rfl, _, _, rfl, rfl, ?_⟩
          refine ⟨_, rfl, ⟨_, rfl, _, rfl, d, _, rfl, by rw [← nmo_out (a := b) (x := x) hout]; exact DGet.k (k := .inr (ndAt pd (j - 1)).out) hd7, Sd, .ref cc.1, rfl, by rw [← hcv, hpc]; exact DGet.k (k := .inr x) SM7.d, .inl ⟨rfl, _, SqL.of (SM7.l cc hcc).1⟩, ?_⟩⟩
          have m7 := Same.sqt s7 m5
          refine ⟨_, rfl, h', rfl, ⟨_, m7⟩, fun D2 hD2 => ?_⟩
          refine lc_flat (wm_tup (if stAt ss (j - 1) = true then [(shAt ss (j - 1)).in0] else []) V.str) (fun _ => true) (fun _ => .str b) hD2 (by split <;> simp) (fun H' s' => Same.sqt s' m7) (fun _ => rfl) (fun a H' hm _ Q' q => q H' (Same.refl _)) (fun z H8 hm _ s8 Q' q => ?_) (fun H8 s8 h8 => ?_)
          · have hz : z = (shAt ss (j - 1)).in0 := by
              split at hm
              · exact List.mem_singleton.mp hm
              · cases hm
            subst hz
            exact ⟨_, rfl, _, rfl, d, _, rfl, by rw [← nmo_in (a := b) (x := x) (out := (ndAt pd (j - 1)).out) hin]; exact DGet.k (k := .inr (shAt ss (j - 1)).in0) (s8 _ _ hd7), q H8 (Same.refl _)⟩
          have h8' : H8 D2 = some (.lst ((if stAt ss (j - 1) = true then [b] else []).map .str)) := by
            rw [h8]
            cases stAt ss (j - 1) <;> rfl
          have SM8 := SM7.mono s8
          have hc5 := hct cc.2
          obtain ⟨f1, f2, f3, f4⟩ := fin H8 (if stAt ss (j - 1) = true then [b] else []) (s6.trans (s7.trans s8)) hgrd.symm
          refine ⟨cc.1, D2, _, _, rfl, rfl, (SM8.l cc hcc).1, h8', ?_, fun h => by simp at h, ?_, ⟨_, _, _, _, _, _, _, rfl⟩, fun _ => ⟨f1, f2, f3, f4⟩⟩
          · rw [List.length_map, List.length_map]
            exact sz (by split <;> simp <;> omega)
          · exact SameN.trans (Same.n (s7.trans s8)) (SameN.lst (SM8.l cc hcc).1)
        · obtain ⟨z1, zn, ⟨y5, y6, y7, y8, y9, y10, y11, rfl⟩, z2⟩ := q
          obtain ⟨f1, f2, f3, f4⟩ := z2 (by simp)
          exact ⟨f1, f2, f3, ⟨_, _, _, _, _, _, _, _, _, _, rfl⟩, f4⟩
    · obtain ⟨s5, n5, gl5, ⟨x2, x3, x4, x5, x6, x7, x8, x9, x10, x11, rfl⟩, SM5⟩ := q
      rw [e2] at SM5
      intro Fd hFd
      have nHF : H Fd = none := s5.free hFd
      have s6 : Same H (upd H5 Fd (.dK [])) := s5.trans (Same.new hFd)
      have SM6 := SM5.mono (Same.new (o := .dK []) hFd)
      have gF6 : upd H5 Fd (.dK []) Fd = some (.dK []) := upd_same
      generalize upd H5 Fd (.dK []) = H6 at s6 SM6 gF6 ⊢
      have nFc : Fd ≠ c := fun z => by
        subst z
        rw [cd.d] at nHF
        cases nHF
      have nSc : Sd ≠ c := fun z => by
        subst z
        rw [cd.d] at nSd
        cases nSd
      have nlc : ∀ q, q ∈ ls → q.1 ≠ c := fun q hq z => by
        have := (SM6.l q hq).2
        rw [z, cd.d] at this
        cases this
      refine ⟨c, _, s6 _ _ cd.d, trivial, fun od2 => ?_⟩
      have gK : upd H6 c (.frz od2 (.dK (cs.map fun c => ((Sum.inr c.2 : Key), V.ref c.1)))) c = some (.frz od2 (.dK (cs.map fun c => ((Sum.inr c.2 : Key), V.ref c.1)))) := upd_same
      have xK : SameX c H (upd H6 c (.frz od2 (.dK (cs.map fun c => ((Sum.inr c.2 : Key), V.ref c.1))))) := SameX.put (Same.x s6)
      have gFK : upd H6 c (.frz od2 (.dK (cs.map fun c => ((Sum.inr c.2 : Key), V.ref c.1)))) Fd = some (.dK []) := by
        rw [upd_ne nFc]
        exact gF6
      have gSK : upd H6 c (.frz od2 (.dK (cs.map fun c => ((Sum.inr c.2 : Key), V.ref c.1)))) Sd = some (.dK (ls.map fun c => ((Sum.inr c.2 : Key), V.ref c.1))) := by
        rw [upd_ne nSc]
        exact SM6.d
      have glK : ∀ q, q ∈ ls → upd H6 c (.frz od2 (.dK (cs.map fun c => ((Sum.inr c.2 : Key), V.ref c.1)))) q.1 = some (.lst ((ctOf (stAt ss (j - 1)) (ndAt pd j).rows q.2).map .str)) := fun q hq => by
        rw [upd_ne (nlc q hq)]
        exact (SM6.l q hq).1
      generalize upd H6 c (.frz od2 (.dK (cs.map fun c => ((Sum.inr c.2 : Key), V.ref c.1)))) = HK at gK xK gFK gSK glK ⊢
      refine ⟨_, rfl, a, _, dx, _, _, rfl, xK _ _ nac h1, T.c_Fit, T.n_Fit_clocks, rfl, c, od2, rfl, .inl ⟨_, gK, ?_⟩⟩
      have nFa : a ≠ Fd := fun z => by
        subst z
        rw [h1] at nHF
        cases nHF
      have nSF : Sd ≠ Fd := fun z => by
        subst z
        rw [gFK] at gSK
        have := HO.dK.inj (Option.some.inj gSK)
        have h0 := congrArg List.length this
        rw [List.length_map] at h0
        have h5 := congrArg List.length SM6.e
        rw [List.length_map] at h5
        have : (ndAt pd j).names ≠ [] := fun z => by
          have := ok.outT
          unfold ND.names at z
          rw [(List.append_eq_nil_iff.mp z).2] at this
          cases this
        have := List.length_pos_iff.mpr this
        simp at h0
        omega
      have nlF : ∀ q, q ∈ ls → q.1 ≠ Fd := fun q hq z => by
        have := glK q hq
        rw [z, gFK] at this
        cases this
      refine for_map (wm_keys cs (fun q => Sum.inr q.2) fun q => V.ref q.1) (fun pre σ H7 => SameX Fd HK H7 ∧ (∃ x10 x11, σ = [some (.ref a), some (.ref Sd), x2, x3, x4, x5, x6, x7, x8, some (.ref Fd), x10, x11]) ∧ ∃ rl : List PS1, H7 Fd = some (.dK (rl.map fun c => ((Sum.inr c.2 : Key), V.ref c.1))) ∧ rl.map (·.2) = pre.map (·.2) ∧ ∀ q, q ∈ rl → H7 q.1 = some (.lst (((ndAt pd j).reads (stAt ss (j - 1)) q.2).map .str)))
        ⟨SameX.refl _ _, ⟨_, _, rfl⟩, [], gFK, rfl, fun _ h => by cases h⟩ (fun pre σ H7 q => q.1 _ _ nFc.symm gK) (fun pre x post σ H7 e q => ?_) (fun σ H7 q => ?_)
      · obtain ⟨x7', ⟨y10, y11, rfl⟩, rl, r1, r2, r3⟩ := q
        have hx : x ∈ cs := by
          rw [e]
          simp
        have hxn : x.2 ∈ (ndAt pd j).names := by
          rw [← cd.e]
          exact List.mem_map_of_mem hx
        obtain ⟨lx, hlx, hlx2, hlv⟩ := ps_get SM6.e hnd hxn
        have gK7 := x7' _ _ nFc.symm gK
        have gS7 := x7' _ _ nSF gSK
        have gl7 := x7' _ _ (nlF lx hlx) (glK lx hlx)
        refine ⟨_, rfl, a, _, dx, _, _, rfl, x7' _ _ nFa (xK _ _ nac h1), T.c_Fit, T.n_Fit_clocks, rfl, c, od2, rfl, .inl ⟨_, gK7, fun D hD => ?_⟩⟩
        refine lc_flat (wm_keys cs (fun q => Sum.inr q.2) fun q => V.ref q.1) (fun q => decide (q.2 ∈ ctOf (stAt ss (j - 1)) (ndAt pd j).rows x.2)) (fun q => .str q.2) hD (Nat.le_trans hcl (by decide)) (fun H' s' => s' _ _ gK7) (fun _ => rfl) (fun q H8 hq s8 Q' k' => ?_) (fun q H8 hq _ s8 Q' k' => ⟨_, rfl, k' H8 (Same.refl _)⟩) (fun H8 s8 h8 => ?_)
        · refine ⟨_, rfl, ⟨_, rfl, _, rfl, Sd, .ref lx.1, rfl, by rw [← hlv]; exact DGet.k (k := .inr x.2) (s8 _ _ gS7), lx.1, _, rfl, .inl (SqL.of (s8 _ _ gl7)), rfl, flat_str, _, ?_, k' H8 (Same.refl _)⟩⟩
          rw [← inV_str, hlx2]
          rfl
        have r18 := s8 _ _ r1
        have hxr : x.2 ∉ rl.map (·.2) := fun h => by
          rw [r2] at h
          have hh := hnd
          rw [← cd.e, e, List.map_append, List.nodup_append] at hh
          exact hh.2.2 _ h x.2 (by simp) rfl
        have hv := valV_no (f := fun q : PS1 => q.2) (g := fun q => V.ref q.1) hxr
        have nDF : D ≠ Fd := fun z => by
          subst z
          rw [r1] at hD
          cases hD
        refine ⟨_, rfl, _, rfl, Fd, _, rfl, DPut.k (k := .inr x.2) r18 ?_, SameX.put (SameX.trans x7' (Same.x s8)), ⟨_, _, rfl⟩, rl ++ [(D, x.2)], ?_, ?_, fun q hq => ?_⟩
        · have h5 := congrArg List.length r2
          rw [List.length_map, List.length_map] at h5
          rw [List.length_map]
          rw [e] at hcl
          simp at hcl
          exact szl (by omega)
        · rw [upd_same, putK_new _ hv, List.map_append]
          rfl
        · rw [List.map_append, List.map_append, r2]
          rfl
        · rcases List.mem_append.mp hq with hq | hq
          · have hqF : q.1 ≠ Fd := fun z => by
              have := r3 q hq
              rw [z, r1] at this
              cases this
            rw [upd_ne hqF]
            exact s8 _ _ (r3 q hq)
          · rcases List.mem_singleton.mp hq with rfl
            rw [upd_ne nDF, h8]
            unfold ND.reads
            rw [← cd.e, List.filter_map, List.map_map]
            rfl
      · obtain ⟨x7', ⟨y10, y11, rfl⟩, rl, r1, r2, r3⟩ := q
        have gK7 := x7' _ _ nFc.symm gK
        refine ⟨gK7, _, rfl, k Fd rl _ (fun b o hb => ?_) ⟨?_, ?_, fun q hq => ?_⟩⟩
        · by_cases ebd : b = c
          · subst ebd
            rw [cd.d] at hb
            rw [← hb]
            exact upd_same
          · rw [upd_ne ebd]
            have hbF : b ≠ Fd := fun z => by
              subst z
              rw [nHF] at hb
              cases hb
            exact x7' _ _ hbF (xK _ _ ebd hb)
        · rw [upd_ne nFc]
          exact r1
        · rw [r2, cd.e]
        · have hqc : q.1 ≠ c := fun z => by
            have := r3 q hq
            rw [z, gK7] at this
            cases this
          rw [upd_ne hqc]
          exact r3 q hq
end
end K99
/-! K28 -/
namespace K99
open PySem PySem.Spec PyProof.Rows L2
section
variable {K : PySem.W.Frag} {H H' : Hp} {a C dx : Addr} {fs : List (Str × V)}
theorem GL.keepI (h : H a = some (.ins C dx fs)) (s : SameX a H H') {l : Addr} {gs : List PG2} {gp : List (Str × Str)} (g : GL K H l gs gp) : GL K H' l gs gp := ⟨lst_keepI h s g.l, g.e, fun q hq => by
  obtain ⟨e, e1, e2⟩ := g.g q hq
  exact ⟨e, SqT.keepI h s e1, SqT.keepI h s e2⟩⟩
theorem ClD.keepI (h : H a = some (.ins C dx fs)) (s : SameX a H H') {d : Addr} {cs : List PS1} {acc : List Str} (g : ClD K H d cs acc) : ClD K H' d cs acc := ⟨dk_keepI h s g.d, g.e, fun q hq => SqT.keepI h s (g.c q hq)⟩
theorem RdD.keepI (h : H a = some (.ins C dx fs)) (s : SameX a H H') {d : Addr} {ls : List PS1} {xs : List Str} {rd : Str → List Str} (g : RdD K H d ls xs rd) : RdD K H' d ls xs rd := ⟨dk_keepI h s g.d, g.e, fun q hq => lst_keepI h s (g.l q hq)⟩
end
section
variable {P : Program} {w : World} {K : PySem.W.Frag} {mg : Str → Option Value} {base : Heap}
def spFitClocks (K : PySem.W.Frag) : Sp := fun vs H Q _ => ∃ (a dx nd kn c r : Addr) (pd : List ND) (ss : List Sh) (j : Nat) (H0 : Hp), vs = [V.ref a] ∧ H a = some (.ins (A_Fit K) dx (ff nd kn c r .non .non)) ∧ H0 a = none ∧ Same H0 H ∧ Cur K H0 a dx nd kn pd ss j ∧
  ∀ c' r' gl gs cs rl H', SameX a H H' → H' a = some (.ins (A_Fit K) dx (ff nd kn c' r' (.ref gl) .non)) → GL K H' gl gs (ndAt pd j).gifts → ClD K H' c' cs (ndAt pd j).names → RdD K H' r' rl (ndAt pd j).names ((ndAt pd j).reads (stAt ss (j - 1))) → Q .non H'
theorem ok_Fit_fit_clocks (T : Txt K mg) : FnOk P w K mg base CX0 12 (f_Fit_fit_clocks K) (fdAt K (f_Fit_fit_clocks K)) P_Fit_fit_clocks (spFitClocks K) := by
  refine FunD.ok T.F_Fit_fit_clocks sc_Fit_fit_clocks (fun vs H Q E h => ?_) (fun cdv A outer s H vs Q E hr h => ?_)
  · obtain ⟨a, dx, nd, kn, c, r, pd, ss, j, H0, rfl, _⟩ := h
    rfl
  · obtain ⟨a, dx, nd, kn, c, r, pd, ss, j, H0, rfl, h1, h0, s0, C0, k⟩ := h
    refine ⟨_, PSs.nox (pss_cons (ps_set (i := 1) sc_Fit_fit_clocks.nd rfl (by first | exact Or.inl rfl | exact Or.inr rfl) (pe_meth0 (pv 0) T.c_Fit T.m_Fit_steps (ok_Fit_steps T) (hr.mono (by first | decide | omega)) T.b_Fit_steps .nil pass0)) (pss_cons (ps_set (i := 2) sc_Fit_fit_clocks.nd rfl (by first | exact Or.inl rfl | exact Or.inr rfl) (pe_callTy (call_dictP (by rfl)) (by rfl) T.z_dict boot_dict (pa_cons (pe_lc (own := [("name", 3), ("clock", 6), ("premise", 7)]) (by rfl) sc_Fit_fit_clocks.nd (pi_list (pv 1)) (blkOk_by (N := N_Fit_fit_clocks) (sc := defScope s_Fit_fit_clocks) (by decide +kernel)) (fun _ _ _ _ _ => (pg_tupK (K := K) (n := 3) rfl (pgs_cons (pg_name (i := 3) sc_Fit_fit_clocks.nd rfl (by first | exact Or.inl rfl | exact Or.inr rfl)) (pgs_cons (pg_name (i := 6) sc_Fit_fit_clocks.nd rfl (by first | exact Or.inl rfl | exact Or.inr rfl)) (pgs_cons (pg_name (i := 7) sc_Fit_fit_clocks.nd rfl (by first | exact Or.inl rfl | exact Or.inr rfl)) pgs_nil))))) (fun _ _ _ _ _ => pts_nil) (fun _ _ _ _ _ => (pe_tup (pa_cons (pv 3) (pa_cons (pv 6) pa_nil))))) pa_nil))) (pss_cons (ps_for PassesOwn.never rfl (pi_list (pe_meth0 (pe_fld (pv 0) rfl) T.c_Node T.m_Node_names (ok_Node_names T) (hr.mono (by first | decide | omega)) T.b_Node_names .nil pass0)) (pg_name (i := 3) sc_Fit_fit_clocks.nd rfl (by first | exact Or.inl rfl | exact Or.inr rfl)) (pss_one (ps_if (pt_cmp (pc_dnotin (hu_of hr) (pv 3) (pv 2))) pB pss_nil))) (pss_cons (ps_for PassesOwn.never rfl (pi_list (pe_meth0 (pv 0) T.c_Fit T.m_Fit_checks (ok_Fit_checks T) (hr.mono (by first | decide | omega)) T.b_Fit_checks .nil pass0)) (pg_name (i := 4) sc_Fit_fit_clocks.nd rfl (by first | exact Or.inl rfl | exact Or.inr rfl)) (pss_one (ps_for PassesOwn.never rfl (pi_list (pv 4)) (pg_name (i := 5) sc_Fit_fit_clocks.nd rfl (by first | exact Or.inl rfl | exact Or.inr rfl)) (pss_one (ps_if (pt_cmpR (op_neD hr.units) (pe_dget (hu_of hr) (pv 2) (pv 5) (fun _ _ => rfl)) (pe_dget (hu_of hr) (pv 2) (pe_ix ix_list (pv 4) pe_int (fun _ _ => rfl)) (fun _ _ => rfl)) (by rfl)) pB pss_nil))))) (pss_cons (ps_fld (pv 0) (pe_callTy (call_dictP (by rfl)) (by rfl) T.z_dict boot_dict (pa_cons (pe_lc (own := [("name", 3)]) (by rfl) sc_Fit_fit_clocks.nd (pi_list (pe_meth0 (pe_fld (pv 0) rfl) T.c_Node T.m_Node_names (ok_Node_names T) (hr.mono (by first | decide | omega)) T.b_Node_names .nil pass0)) (blkOk_by (N := N_Fit_fit_clocks) (sc := defScope s_Fit_fit_clocks) (by decide +kernel)) (fun _ _ _ _ _ => (pg_name (i := 3) sc_Fit_fit_clocks.nd rfl (by first | exact Or.inl rfl | exact Or.inr rfl))) (fun _ _ _ _ _ => pts_nil) (fun _ _ _ _ _ => (pe_tup (pa_cons (pv 3) (pa_cons (pe_dget (hu_of hr) (pv 2) (pv 3) (fun _ _ => rfl)) pa_nil))))) pa_nil)) rfl) (pss_one (ps_fld (pv 0) (pe_meth0 (pv 0) T.c_Fit T.m_Fit_readings (ok_Fit_readings T) (hr.mono (by first | decide | omega)) T.b_Fit_readings .nil pass0) rfl))))))), ?_⟩
    have ok := C0.ok
    have hnd := ok.nd
    refine ⟨_, rfl, a, dx, _, rfl, h1, rfl, a, dx, nd, kn, c, r, _, pd, ss, j, rfl, h1, C0.mono s0, ⟨H0, h0, s0, C0⟩, fun S sts gl gs acc H1 x1 f1 G1 st1 nda hall => ?_⟩
    replace f1 : H1 a = some (.ins (A_Fit K) dx (ff nd kn c r (.ref gl) .non)) := f1
    have t1 : Same H0 H1 := SameX.of (SameX.trans (Same.x s0) x1) h0
    have hal : acc.length ≤ 1100 := by
      have h2 := nd_len nda fun x hx => (hall x).mp hx
      unfold ND.names ND.tells at h2
      rw [List.length_append, List.length_map] at h2
      have := ok.insL
      have := ok.rowL
      omega
    have hsl : sts.length = acc.length := by
      have := congrArg List.length st1.e
      rw [List.length_map] at this
      exact this
    refine ⟨_, rfl, S, rfl, ⟨_, SqL.of st1.l⟩, fun D hD => ?_⟩
    -- a pair for each step
    refine lc_map (wm_list sts fun t => V.ref t.1) (fun pre H2 => Same H1 H2 ∧ ∃ (ts : List Addr) (cs : List PS1), H2 D = some (.lst (ts.map .ref)) ∧ cs.map (·.2) = pre.map (·.2) ∧ Paired (fun p (kv : Key × V) => SqT K H2 p [kV kv.1, kv.2]) ts (cs.map fun q => ((Sum.inr q.2 : Key), V.ref q.1)) ∧ ∀ q, q ∈ cs → SqT K H2 q.1 [])
      ⟨Same.new hD, [], [], upd_same, rfl, .nil, fun _ h => by cases h⟩ (fun pre H2 q => SqL.of (q.1 _ _ st1.l)) (fun pre x post H2 e q => ?_) (fun H2 q => ?_)
    · obtain ⟨s2, ts, cs, q1, q2, q3, q4⟩ := q
      have hx : x ∈ sts := by
        rw [e]
        simp
      obtain ⟨ee, vv, w1, w2⟩ := st1.t x hx
      refine ⟨x.1, _, rfl, Same.sqt s2 w1, rfl, _, _, rfl, _, _, rfl, _, _, rfl, rfl, rfl, ?_⟩
      refine ⟨_, rfl, _, rfl, sz (n := 2) (by decide), fun t ht => ?_⟩
      have s3 : Same H2 (upd H2 t (.tup [.str x.2, .ref ee])) := Same.new ht
      have q13 := s3 _ _ q1
      have n3 : SameN (upd H2 t (.tup [.str x.2, .ref ee])) (upd (upd H2 t (.tup [.str x.2, .ref ee])) D (.lst (ts.map .ref ++ [.ref t]))) := SameN.lst q13
      refine ⟨_, q13, ?_, Same.mut (s2.trans s3) hD, ts ++ [t], cs ++ [(ee, x.2)], ?_, ?_, ?_, fun q hq => ?_⟩
      · have h7 := q3.length
        have h8 := congrArg List.length q2
        rw [List.length_map] at h7
        rw [List.length_map, List.length_map] at h8
        rw [List.length_map]
        rw [e] at hsl
        simp at hsl
        exact szl (by omega)
      · rw [upd_same, List.map_append]
        rfl
      · rw [List.map_append, List.map_append, q2]
        rfl
      · rw [List.map_append]
        exact (L2.Paired.mapP q3 fun p kv o => SameN.sqt n3 (Same.sqt s3 o)).snoc (SameN.sqt n3 (SqT.of upd_same))
      · rcases List.mem_append.mp hq with hq | hq
        · exact SameN.sqt n3 (Same.sqt s3 (q4 q hq))
        · rcases List.mem_singleton.mp hq with rfl
          exact SameN.sqt n3 (Same.sqt (s2.trans s3) w2)
    obtain ⟨s2, ts, cs, q1, q2, q3, q4⟩ := q
    have ea : cs.map (·.2) = acc := by rw [q2, st1.e]
    refine ⟨D, ts, (cs.map fun q : PS1 => ((Sum.inr q.2 : Key), V.ref q.1)), rfl, SqL.of q1, q3, fun Cl hCl => ?_⟩
    rw [merge_self (by rw [List.map_map]; show (cs.map ((Sum.inr : Str → Key) ∘ fun c : PS1 => c.2)).Nodup; rw [← List.map_map, ea]; exact inr_nodup nda)]
    have s3 : Same H2 (upd H2 Cl (.dK (cs.map fun q => ((Sum.inr q.2 : Key), V.ref q.1)))) := Same.new hCl
    have cd3 : ClD K (upd H2 Cl (.dK (cs.map fun q => ((Sum.inr q.2 : Key), V.ref q.1)))) Cl cs acc := ⟨upd_same, ea, fun q hq => Same.sqt s3 (q4 q hq)⟩
    have s13 := s2.trans s3
    generalize upd H2 Cl (.dK (cs.map fun q => ((Sum.inr q.2 : Key), V.ref q.1))) = H3 at s3 cd3 s13 ⊢
    have t3 := t1.trans s13
    have C3 := C0.mono t3
    obtain ⟨dy, ki, ko, kr, te, rs0, u1, u2, u3⟩ := id C0.nd
    refine ⟨_, rfl, a, _, dx, _, _, rfl, s13 _ _ f1, T.c_Fit, T.n_Fit_ground, rfl, nd, dy, _, rfl, t3 _ _ u1, rfl, nd, ndAt pd j, rfl, C3.nd, fun l4 H4 s4 hl4 => ?_⟩
    refine ⟨l4, rfl, ⟨_, SqL.of hl4⟩, ?_⟩
    refine for_map (wm_list (ndAt pd j).names V.str) (fun pre σ H5 => Same H4 H5 ∧ (∃ x3 x4 x5 x6 x7, σ = [some (.ref a), some (.ref S), some (.ref Cl), x3, x4, x5, x6, x7])) ⟨Same.refl _, ⟨_, _, _, _, _, rfl⟩⟩ (fun pre σ H5 q => SqL.of (q.1 _ _ hl4)) (fun pre x post σ H5 e q => ?_) (fun σ H5 q => ?_)
    · obtain ⟨s5, x3, x4, x5, x6, x7, rfl⟩ := q
      have hx : x ∈ (ndAt pd j).names := by
        rw [e]
        simp
      obtain ⟨cc, v1, v2⟩ := cd3.get nda ((hall x).mpr hx)
      exact ⟨_, rfl, _, rfl, Cl, _, rfl, DGet.k (k := .inr x) ((s4.trans s5) _ _ cd3.d), false, by rw [v1]; rfl, iteF ⟨s5, ⟨_, _, _, _, _, rfl⟩⟩⟩
    obtain ⟨s5, x3, x4, x5, x6, x7, rfl⟩ := q
    have s35 := s4.trans s5
    have s15 := s13.trans s35
    refine ⟨_, rfl, a, dx, _, rfl, s15 _ _ f1, rfl, a, dx, nd, kn, c, r, _, _, pd, ss, j, rfl, s15 _ _ f1, C0.mono (t1.trans s15), fun l6 lss H6 s6 hl6 hls hll => ?_⟩
    refine ⟨l6, rfl, ⟨_, SqL.of hl6⟩, ?_⟩
    refine for_map (wm_list lss fun p => V.ref p.1) (fun pre σ H7 => Same H6 H7 ∧ (∃ x3 x4 x5 x6 x7, σ = [some (.ref a), some (.ref S), some (.ref Cl), x3, x4, x5, x6, x7])) ⟨Same.refl _, ⟨_, _, _, _, _, rfl⟩⟩ (fun pre σ H7 q => SqL.of (q.1 _ _ hl6)) (fun pre p post σ H7 e q => ?_) (fun σ H7 q => ?_)
    · obtain ⟨s7, x3, x4, x5, x6, x7, rfl⟩ := q
      have hp : p ∈ lss := by
        rw [e]
        simp
      obtain ⟨p1, p2⟩ := hls p hp
      obtain ⟨cc, v1, v2⟩ := cd3.get nda ((hall p.2).mpr p2)
      refine ⟨_, rfl, p.1, rfl, ⟨_, SqL.of (s7 _ _ p1)⟩, ?_⟩
      refine for_map (wm_list [p.2] V.str) (fun pre2 σ H8 => Same H6 H8 ∧ (∃ x3 x5 x6 x7, σ = [some (.ref a), some (.ref S), some (.ref Cl), x3, some (.ref p.1), x5, x6, x7])) ⟨s7, ⟨_, _, _, _, rfl⟩⟩ (fun pre2 σ H8 q => SqL.of (q.1 _ _ p1)) (fun pre2 y post2 σ H8 e2 q => ?_) (fun σ H8 q => ?_)
      · obtain ⟨s8, y3, y5, y6, y7, rfl⟩ := q
        have hy : y = p.2 := by
          have : y ∈ [p.2] := by
            rw [e2]
            simp
          exact List.mem_singleton.mp this
        subst hy
        have gd := (s35.trans (s6.trans s8)) _ _ cd3.d
        have v3 := Same.sqt (s35.trans (s6.trans s8)) v2
        refine ⟨_, rfl, _, rfl, Cl, .ref cc, rfl, by rw [← v1]; exact DGet.k (k := .inr p.2) gd, ?_⟩
        refine ⟨_, rfl, _, rfl, p.1, _, 0, _, rfl, rfl, SqL.of (s8 _ _ p1), rfl, Cl, .ref cc, rfl, by rw [← v1]; exact DGet.k (k := .inr p.2) gd, ?_⟩
        exact ⟨.tuple [], .tuple [], .tup v3 .nil, .tup v3 .nil, rfl, rfl, false, rfl, iteF ⟨s8, ⟨_, _, _, _, rfl⟩⟩⟩
      · obtain ⟨s8, y3, y5, y6, y7, rfl⟩ := q
        exact ⟨s8, ⟨_, _, _, _, _, rfl⟩⟩
    obtain ⟨s7, x3, x4, x5, x6, x7, rfl⟩ := q
    have s37 := s35.trans (s6.trans s7)
    have s17 := s13.trans s37
    have t7 := t1.trans s17
    have C7 := C0.mono t7
    refine ⟨_, rfl, a, _, dx, _, _, rfl, s17 _ _ f1, T.c_Fit, T.n_Fit_ground, rfl, nd, dy, _, rfl, t7 _ _ u1, rfl, nd, ndAt pd j, rfl, C7.nd, fun l8 H8 s8 hl8 => ?_⟩
    have hnl : (ndAt pd j).names.length ≤ 1100 := by
      unfold ND.names ND.tells
      rw [List.length_append, List.length_map]
      have := ok.insL
      have := ok.rowL
      omega
    refine ⟨l8, rfl, ⟨_, SqL.of hl8⟩, fun D9 hD9 => ?_⟩
    have cd8 := cd3.mono (s37.trans s8)
    refine lc_new (wm_list (ndAt pd j).names V.str) (fun H z v => ∃ t, v = .ref t ∧ ∃ e, SqT K H t [.str z, .ref e] ∧ SqT K H e []) (fun H H' z v s' ⟨g, e1, e, o1, o2⟩ => ⟨g, e1, e, SameN.sqt s' o1, SameN.sqt s' o2⟩) hD9 (Nat.le_trans hnl (by decide)) (fun H' s' => SqL.of (s' _ _ hl8)) (fun _ => rfl) (fun z H9 hz s9 Q' q' => ?_) (fun H9 xs s9 h9 pr9 => ?_) (fun _ _ _ q => q)
    · obtain ⟨cc, v1, v2⟩ := cd8.get nda ((hall z).mpr hz)
      refine ⟨_, rfl, _, rfl, _, rfl, Cl, _, rfl, by rw [← v1]; exact DGet.k (k := .inr z) (s9 _ _ cd8.d), sz (n := 2) (by decide), fun t ht => q' _ _ (Same.new ht) ⟨t, rfl, cc, SqT.of upd_same, Same.sqt (s9.trans (Same.new ht)) v2⟩⟩
    obtain ⟨sts9, rfl, e9, g9⟩ := paired_st (R := fun t z => ∃ e, SqT K H9 t [.str z, .ref e] ∧ SqT K H9 e []) pr9
    obtain ⟨cs9, c1, c2, c3⟩ := paired_cs g9
    refine ⟨D9, sts9.map (fun t : PS1 => t.1), (cs9.map fun c : PS1 => ((Sum.inr c.2 : Key), V.ref c.1)), rfl, SqL.of (by rw [h9, List.map_map]; rfl), c2, fun Cn hCn => ?_⟩
    rw [merge_self (by rw [List.map_map]; show (cs9.map ((Sum.inr : Str → Key) ∘ fun c : PS1 => c.2)).Nodup; rw [← List.map_map, c1, e9]; exact inr_nodup hnd)]
    have s10 : Same H9 (upd H9 Cn (.dK (cs9.map fun c => ((Sum.inr c.2 : Key), V.ref c.1)))) := Same.new hCn
    have cd10 : ClD K (upd H9 Cn (.dK (cs9.map fun c => ((Sum.inr c.2 : Key), V.ref c.1)))) Cn cs9 (ndAt pd j).names := ⟨upd_same, by rw [c1, e9], fun c hc => Same.sqt s10 (c3 c hc)⟩
    have s1x := s17.trans (s8.trans (s9.trans s10))
    generalize upd H9 Cn (.dK (cs9.map fun c => ((Sum.inr c.2 : Key), V.ref c.1))) = HA at s10 cd10 s1x ⊢
    have fA := s1x _ _ f1
    have GA := G1.mono s1x
    refine ⟨_, rfl, a, _, dx, _, rfl, fA, T.c_Fit, T.n_Fit_clocks, (by show 6 < 1000; decide), ?_⟩
    have xB : SameX a HA (upd HA a (.ins (A_Fit K) dx (putF "clocks" (.ref Cn) (ff nd kn c r (.ref gl) .non)))) := SameX.upd2
    have fB : upd HA a (.ins (A_Fit K) dx (putF "clocks" (.ref Cn) (ff nd kn c r (.ref gl) .non))) a = some (.ins (A_Fit K) dx (ff nd kn Cn r (.ref gl) .non)) := upd_same
    have GB : GL K (upd HA a (.ins (A_Fit K) dx (putF "clocks" (.ref Cn) (ff nd kn c r (.ref gl) .non)))) gl gs (ndAt pd j).gifts := GL.keepI fA xB GA
    have cdB : ClD K (upd HA a (.ins (A_Fit K) dx (putF "clocks" (.ref Cn) (ff nd kn c r (.ref gl) .non)))) Cn cs9 (ndAt pd j).names := ClD.keepI fA xB cd10
    have x0B : SameX a H (upd HA a (.ins (A_Fit K) dx (putF "clocks" (.ref Cn) (ff nd kn c r (.ref gl) .non)))) := SameX.put (SameX.trans x1 (Same.x s1x))
    generalize upd HA a (.ins (A_Fit K) dx (putF "clocks" (.ref Cn) (ff nd kn c r (.ref gl) .non))) = HB at fB GB cdB x0B ⊢
    have tB := SameX.of (SameX.trans (Same.x s0) x0B) h0
    refine ⟨_, rfl, a, dx, _, rfl, fB, rfl, a, dx, nd, kn, Cn, r, _, _, pd, ss, j, cs9, rfl, fB, C0.mono tB, cdB, fun rd rl HC sC RC => ?_⟩
    have fC := sC _ _ fB
    refine ⟨_, rfl, a, _, dx, _, rfl, fC, T.c_Fit, T.n_Fit_reads, (by show 6 < 1000; decide), ?_⟩
    have xD : SameX a HC (upd HC a (.ins (A_Fit K) dx (putF "reads" (.ref rd) (ff nd kn Cn r (.ref gl) .non)))) := SameX.upd2
    exact k Cn rd gl gs cs9 rl _ (SameX.put (SameX.trans x0B (Same.x sC))) upd_same (GL.keepI fC xD (GB.mono sC)) (ClD.keepI fC xD (cdB.mono sC)) (RdD.keepI fC xD RC)
end
end K99
/-! K29 -/
namespace K99
open PySem PySem.Spec PyProof.Rows L2
theorem min_rank (rk : Str → Nat) : ∀ {lf : List Str}, lf ≠ [] → ∃ x, x ∈ lf ∧ ∀ y, y ∈ lf → rk x ≤ rk y
  | [], h => absurd rfl h
  | [a], _ => ⟨a, List.mem_cons_self .., fun y hy => by rcases List.mem_singleton.mp hy with rfl; exact Nat.le_refl _⟩
  | a :: b :: r, _ => by
    obtain ⟨x, hx, hm⟩ := min_rank rk (lf := b :: r) (by simp)
    by_cases h : rk a ≤ rk x
    · refine ⟨a, List.mem_cons_self .., fun y hy => ?_⟩
      rcases List.mem_cons.mp hy with rfl | hy
      · exact Nat.le_refl _
      · exact Nat.le_trans h (hm y hy)
    · refine ⟨x, List.mem_cons_of_mem _ hx, fun y hy => ?_⟩
      rcases List.mem_cons.mp hy with rfl | hy
      · omega
      · exact hm y hy
def fsK (fs : List (Str × Int)) : List (Key × V) := fs.map fun p => ((Sum.inr p.1 : Key), V.int p.2)
theorem fs_some {fs : List (Str × Int)} {x : Str} : (valV (fsK fs) (.inr x)).isSome = decide (x ∈ fs.map (·.1)) := by
  by_cases h : x ∈ fs.map (·.1)
  · rw [decide_eq_true h]
    refine valV_mem ?_
    unfold fsK
    rw [List.map_map]
    obtain ⟨p, hp, rfl⟩ := List.mem_map.mp h
    exact List.mem_map.mpr ⟨p, hp, rfl⟩
  · rw [decide_eq_false h, valV_none]
    · rfl
    · intro e
      unfold fsK at e
      rw [List.map_map] at e
      obtain ⟨p, hp, e⟩ := List.mem_map.mp e
      injection e with e
      exact h (e ▸ List.mem_map_of_mem hp)
theorem fs_none {fs : List (Str × Int)} {x : Str} (h : x ∉ fs.map (·.1)) : valV (fsK fs) (.inr x) = none := by
  have := fs_some (fs := fs) (x := x)
  rw [decide_eq_false h] at this
  cases hq : valV (fsK fs) (.inr x) with
  | none => rfl
  | some u => rw [hq] at this; cases this
section
variable {P : Program} {w : World} {K : PySem.W.Frag} {mg : Str → Option Value} {base : Heap}
def spRanked (K : PySem.W.Frag) : Sp := fun vs H Q _ => ∃ (d : Addr) (rl : List PS1) (xs : List Str) (rd : Str → List Str) (rk : Str → Nat), vs = [V.ref d] ∧ RdD K H d rl xs rd ∧ xs.Nodup ∧ xs.length ≤ 1100 ∧ (∀ x, x ∈ xs → x.cps.all (· < 0x110000) = true) ∧
  (∀ x, x ∈ xs → (rd x).length ≤ 1100 ∧ ∀ o, o ∈ rd x → o ∈ xs ∧ rk o < rk x) ∧ ∀ F (fs : List (Str × Int)) H', Same H H' → H' F = some (.dK (fs.map fun p => ((Sum.inr p.1 : Key), V.int p.2))) → Q (.ref F) H'
theorem ok_ranked (T : Txt K mg) : FnOk P w K mg base CX0 1 (f_ranked K) (fdAt K (f_ranked K)) P_ranked (spRanked K) := by
  refine FunD.ok T.F_ranked sc_ranked (fun vs H Q E h => ?_) (fun cdv A outer s H vs Q E hr h => ?_)
  · obtain ⟨d, rl, xs, rd, rk, rfl, _⟩ := h
    rfl
  · obtain ⟨d, rl, xs, rd, rk, rfl, R, hnd, hl, hsok, hrk, k⟩ := h
    refine ⟨_, PSs.nox (pss_cons (ps_set (i := 1) sc_ranked.nd rfl (by first | exact Or.inl rfl | exact Or.inr rfl) pe_dnewK) (pss_cons (ps_set (i := 2) sc_ranked.nd rfl (by first | exact Or.inl rfl | exact Or.inr rfl) (pe_callTy (call_listD (by rfl)) (by rfl) T.z_list boot_list (pa_cons (pv 0) pa_nil))) (pss_cons (ps_set (i := 3) sc_ranked.nd rfl (by first | exact Or.inl rfl | exact Or.inr rfl) pe_int) (pss_cons (ps_while PassesOwn.never (pt_cmpR (op_neD hr.units) (pv 2) (pe_lst pa_nil) (by rfl)) (pss_cons (ps_setLc (i := 4) (own := [("name", 5)]) (by rfl) sc_ranked.nd rfl rfl (by rfl) (pi_list (pv 2)) (blkOk_by (N := N_ranked) (sc := defScope s_ranked) (by decide +kernel)) (fun _ _ _ _ _ => (pg_name (i := 5) sc_ranked.nd rfl (by first | exact Or.inl rfl | exact Or.inr rfl))) (fun _ _ _ _ _ => (pts_one (pt_val (pe_callB (r := rAll K) (cr_all (by rfl)) (by rfl) T.z_all (by decide +kernel) (pa_cons (pe_lc (own := [("other", 6)]) (by rfl) sc_ranked.nd (pi_listK (K := K) (pe_dget (hu_of hr) (pv 0) (pv 5) (fun _ _ => rfl))) (blkOk_by (N := N_ranked) (sc := ⟨.function, [(".0", .local), ("name", .local), ("all", .globalImplicit), ("found", .cell), ("reads", .cell)], false, false, []⟩) (by decide +kernel)) (fun _ _ _ _ _ => (pg_name (i := 6) sc_ranked.nd rfl (by first | exact Or.inl rfl | exact Or.inr rfl))) (fun _ _ _ _ _ => pts_nil) (fun _ _ _ _ _ => (pe_cmp (pc_din (hu_of hr) (pv 6) (pv 1))))) pa_nil))))) (fun _ _ _ _ _ => (pv 5))) (pss_cons (ps_if (pt_cmpR (op_eqD hr.units) (pv 4) (pe_lst pa_nil) (by rfl)) pB pss_nil) (pss_cons (ps_for PassesOwn.never rfl (pi_list (pv 4)) (pg_name (i := 5) sc_ranked.nd rfl (by first | exact Or.inl rfl | exact Or.inr rfl)) (pss_one (ps_dput (hu_of hr) (pv 1) (pv 5) (pv 3) rfl))) (pss_cons (ps_setLc (i := 2) (own := [("name", 5)]) (by rfl) sc_ranked.nd rfl rfl (by rfl) (pi_list (pv 2)) (blkOk_by (N := N_ranked) (sc := defScope s_ranked) (by decide +kernel)) (fun _ _ _ _ _ => (pg_name (i := 5) sc_ranked.nd rfl (by first | exact Or.inl rfl | exact Or.inr rfl))) (fun _ _ _ _ _ => (pts_one (pt_cmp (pc_dnotin (hu_of hr) (pv 5) (pv 1))))) (fun _ _ _ _ _ => (pv 5))) (pss_one (ps_aug (i := 3) sc_ranked.nd rfl (by first | exact Or.inl rfl | exact Or.inr rfl) pe_int ip_add))))))) (pss_one (ps_ret (pv 1))))))), ?_⟩
    intro F hF
    have s1 : Same H (upd H F (.dK [])) := Same.new hF
    have R1 := R.mono s1
    refine ⟨_, rfl, d, _, rfl, .inl R1.d, fun L0 hL0 => ?_⟩
    have eK : (rl.map fun c => ((Sum.inr c.2 : Key), V.ref c.1)).map (fun kv => kV kv.1) = xs.map .str := by
      rw [← R.e, List.map_map, List.map_map]
      rfl
    rw [eK]
    have s2 : Same (upd H F (.dK [])) (upd (upd H F (.dK [])) L0 (.lst (xs.map .str))) := Same.new hL0
    have gF : upd (upd H F (.dK [])) L0 (.lst (xs.map .str)) F = some (.dK (fsK [])) := s2 _ _ upd_same
    have gL : upd (upd H F (.dK [])) L0 (.lst (xs.map .str)) L0 = some (.lst (xs.map .str)) := upd_same
    have s02 := s1.trans s2
    generalize upd (upd H F (.dK [])) L0 (.lst (xs.map .str)) = H2 at gF gL s02 ⊢
    refine ⟨fun m σ H' => ∃ (fs : List (Str × Int)) (lf : List Str) (Lf : Addr) (rank : Int), (∃ x4 x5 x6, σ = [some (.ref d), some (.ref F), some (.ref Lf), some (.int rank), x4, x5, x6]) ∧ Same H H' ∧ H' F = some (.dK (fsK fs)) ∧ H' Lf = some (.lst (lf.map .str)) ∧ lf.Nodup ∧ (∀ x, x ∈ lf → x ∈ xs) ∧ (∀ x, x ∈ xs → x ∈ lf ∨ x ∈ fs.map (·.1)) ∧ (fs.map (·.1)).Nodup ∧ (∀ x, x ∈ fs.map (·.1) → x ∈ xs) ∧ (∀ x, x ∈ lf → x ∉ fs.map (·.1)) ∧ m = lf.length,
      ⟨_, [], xs, L0, 0, ⟨_, _, _, rfl⟩, s02, gF, gL, hnd, fun x hx => hx, fun x hx => .inl hx, List.nodup_nil, (fun x hx => by cases hx), (fun x _ hx => by cases hx), rfl⟩, fun m σ H3 q => ?_⟩
    obtain ⟨fs, lf, Lf, rank, ⟨x4, x5, x6, rfl⟩, s3, gF3, gL3, nd3, sub3, cov3, ndf3, subf3, dis3, rfl⟩ := q
    have hlf : lf.length ≤ 1100 := Nat.le_trans (nd_len nd3 sub3) hl
    refine ⟨_, rfl, Nat.zero_le _, fun e he => ?_⟩
    have s4 : Same H3 (upd H3 e (.lst [])) := Same.new he
    refine ⟨_, .list [], .lst (SqL.of (s4 _ _ gL3)) (rep_dp _), .lst (SqL.of upd_same) .nil, ?_, rfl, !lf.isEmpty, ?_, ?_⟩
    · simp only [SeqAt.shaped, PyData.canLay0, soks_can (fun x hx => hsok x (sub3 x hx)), PyData.depth, reps_dep]
      rfl
    · cases lf <;> rfl
    have gF4 := s4 _ _ gF3
    have gL4 := s4 _ _ gL3
    have s04 := s3.trans s4
    cases hlf0 : lf with
    | nil =>
      refine iteF ⟨_, rfl, k F fs _ s04 gF4⟩
    | cons l0 lr =>
      refine iteT ?_
      rw [← hlf0]
      generalize upd H3 e (.lst []) = H4 at s4 gF4 gL4 s04 ⊢
      refine ⟨fun σ' H' => ∃ m', m' < lf.length ∧ ∃ (fs : List (Str × Int)) (lf : List Str) (Lf : Addr) (rank : Int), (∃ x4 x5 x6, σ' = [some (.ref d), some (.ref F), some (.ref Lf), some (.int rank), x4, x5, x6]) ∧ Same H H' ∧ H' F = some (.dK (fsK fs)) ∧ H' Lf = some (.lst (lf.map .str)) ∧ lf.Nodup ∧ (∀ x, x ∈ lf → x ∈ xs) ∧ (∀ x, x ∈ xs → x ∈ lf ∨ x ∈ fs.map (·.1)) ∧ (fs.map (·.1)).Nodup ∧ (∀ x, x ∈ fs.map (·.1) → x ∈ xs) ∧ (∀ x, x ∈ lf → x ∉ fs.map (·.1)) ∧ m' = lf.length, fun σ' H' q => q, ?_⟩
      refine ⟨_, rfl, Lf, rfl, ⟨_, SqL.of gL4⟩, fun D hD => ?_⟩
      refine lc_flat (wm_list lf V.str) (fun x => (rd x).all fun o => decide (o ∈ fs.map (·.1))) V.str hD (Nat.le_trans hlf (by decide)) (fun H' s' => SqL.of (s' _ _ gL4)) (fun _ => rfl) (fun x H5 hx s5 Q' k' => ?_) (fun x H5 hx _ s5 Q' k' => ⟨_, rfl, k' H5 (Same.refl _)⟩) (fun H5 s5 h5 => ?_)
      · obtain ⟨c, hc, hcx, hcv⟩ := ps_get R.e hnd (sub3 x hx)
        have R5 := R.mono (s04.trans s5)
        refine ⟨_, rfl, _, rfl, d, .ref c.1, rfl, by rw [← hcv]; exact DGet.k (k := .inr x) R5.d, c.1, rfl, ⟨_, SqL.of (R5.l c hc)⟩, fun D2 hD2 => ?_⟩
        refine lc_flat (wm_list (rd c.2) V.str) (fun _ => true) (fun o => .bl (decide (o ∈ fs.map (·.1)))) hD2 (by rw [hcx]; exact Nat.le_trans (hrk x (sub3 x hx)).1 (by decide)) (fun H' s' => SqL.of (s' _ _ (R5.l c hc))) (fun _ => rfl) (fun a H' _ _ Q' q => q H' (Same.refl _)) (fun o H6 ho _ s6 Q2 k2 => ?_) (fun H6 s6 h6 => ?_)
        · refine ⟨_, rfl, _, rfl, F, _, rfl, DGet.k (k := .inr o) ((s5.trans s6) _ _ gF4), ?_⟩
          rw [fs_some]
          exact k2 H6 (Same.refl _)
        · refine ⟨D2, (rd c.2).map fun o => decide (o ∈ fs.map (·.1)), rfl, SqL.of ?_, _, rfl, ?_⟩
          · rw [h6, filter_all (fun _ _ => rfl)]
            rw [List.map_map]
            rfl
          · rw [List.all_map]
            have := k' H6 s6
            rw [hcx]
            exact this
      -- some are ready
      have hne : (lf.filter fun x => (rd x).all fun o => decide (o ∈ fs.map (·.1))) ≠ [] := by
        obtain ⟨x, hx, hm⟩ := min_rank rk (lf := lf) (by rw [hlf0]; simp)
        intro hnil
        have : x ∈ lf.filter fun x => (rd x).all fun o => decide (o ∈ fs.map (·.1)) := by
          rw [List.mem_filter]
          refine ⟨hx, List.all_eq_true.mpr fun o ho => decide_eq_true ?_⟩
          obtain ⟨h1, h2⟩ := (hrk x (sub3 x hx)).2 o ho
          rcases cov3 o h1 with h | h
          · have := hm o h
            omega
          · exact h
        rw [hnil] at this
        cases this
      generalize hrdy : (lf.filter fun x => (rd x).all fun o => decide (o ∈ fs.map (·.1))) = rdy at h5 hne ⊢
      have hrl : ∀ x, x ∈ rdy → x ∈ lf := fun x hx => by
        rw [← hrdy] at hx
        exact (List.mem_filter.mp hx).1
      have ndr : rdy.Nodup := by
        rw [← hrdy]
        exact nd3.sublist List.filter_sublist
      have hrlen : rdy.length ≤ lf.length := nd_len ndr hrl
      have s05 := s04.trans s5
      refine ⟨_, rfl, Nat.zero_le _, fun e2 he2 => ?_⟩
      have s6 : Same H5 (upd H5 e2 (.lst [])) := Same.new he2
      refine ⟨_, .list [], .lst (SqL.of (s6 _ _ h5)) (rep_dp _), .lst (SqL.of upd_same) .nil, ?_, rfl, false, ?_, ?_⟩
      · simp only [SeqAt.shaped, PyData.canLay0, soks_can (fun x hx => hsok x (sub3 x (hrl x hx))), PyData.depth, reps_dep]
        rfl
      · cases rdy with
        | nil => exact absurd rfl hne
        | cons y r => rfl
      refine iteF ?_
      have h6 := s6 _ _ h5
      have gF6 := (s5.trans s6) _ _ gF4
      have gL6 := (s5.trans s6) _ _ gL4
      have s06 := s05.trans s6
      generalize upd H5 e2 (.lst []) = H6 at s6 h6 gF6 gL6 s06 ⊢
      have nDF : D ≠ F := fun z => by
        subst z
        rw [h6] at gF6
        cases gF6
      have nLF : Lf ≠ F := fun z => by
        subst z
        rw [gL6] at gF6
        cases gF6
      refine ⟨_, rfl, D, rfl, ⟨_, SqL.of h6⟩, ?_⟩
      refine for_map (wm_list rdy V.str) (fun pre σ H7 => SameX F H6 H7 ∧ (∃ x5 x6, σ = [some (.ref d), some (.ref F), some (.ref Lf), some (.int rank), some (.ref D), x5, x6]) ∧ H7 F = some (.dK (fsK (fs ++ pre.map fun x => (x, rank))))) ⟨SameX.refl _ _, ⟨_, _, rfl⟩, by rw [List.map_nil, List.append_nil]; exact gF6⟩ (fun pre σ H7 q => SqL.of (q.1 _ _ nDF h6)) (fun pre x post σ H7 e' q => ?_) (fun σ H7 q => ?_)
      · obtain ⟨x7, ⟨y5, y6, rfl⟩, gF7⟩ := q
        have hx : x ∈ rdy := by
          rw [e']
          simp
        have hnew : x ∉ (fs ++ pre.map fun x => (x, rank)).map (·.1) := fun h => by
          rw [List.map_append, List.map_map] at h
          rcases List.mem_append.mp h with h | h
          · exact dis3 x (hrl x hx) h
          · have h : x ∈ pre := by
              obtain ⟨y, hy, rfl⟩ := List.mem_map.mp h
              exact hy
            rw [e', List.nodup_append] at ndr
            exact ndr.2.2 x h x (List.mem_cons_self ..) rfl
        have hfl : fs.length ≤ xs.length := by
          have := nd_len ndf3 subf3
          rw [List.length_map] at this
          exact this
        refine ⟨_, rfl, _, rfl, _, rfl, F, _, rfl, DPut.k (k := .inr x) gF7 ?_, SameX.put x7, ⟨_, _, rfl⟩, ?_⟩
        · unfold fsK
          rw [List.length_map, List.length_append, List.length_map]
          rw [e'] at hrlen
          simp at hrlen
          exact szl (by omega)
        · rw [upd_same, putK_new _ (fs_none hnew)]
          unfold fsK
          simp
      · obtain ⟨x7, ⟨y5, y6, rfl⟩, gF7⟩ := q
        have s07 : Same H H7 := SameX.of (SameX.trans (Same.x s06) x7) hF
        have gL7 := x7 _ _ nLF gL6
        refine ⟨_, rfl, Lf, rfl, ⟨_, SqL.of gL7⟩, fun D8 hD8 => ?_⟩
        refine lc_flat (wm_list lf V.str) (fun x => !decide (x ∈ (fs ++ rdy.map fun x => (x, rank)).map (·.1))) V.str hD8 (Nat.le_trans hlf (by decide)) (fun H' s' => SqL.of (s' _ _ gL7)) (fun _ => rfl) (fun x H8 hx s8 Q' k' => ?_) (fun x H8 hx _ s8 Q' k' => ⟨_, rfl, k' H8 (Same.refl _)⟩) (fun H8 s8 h8 => ?_)
        · refine ⟨_, rfl, _, rfl, F, _, rfl, DGet.k (k := .inr x) (s8 _ _ gF7), _, ?_, k' H8 (Same.refl _)⟩
          rw [fs_some]
        have ek : (fs ++ rdy.map fun x => (x, rank)).map (·.1) = fs.map (·.1) ++ rdy := by
          rw [List.map_append, List.map_map]
          congr 1
          exact List.map_id _
        rw [ek] at h8
        refine ⟨_, rfl, _, 1, rfl, rfl, ?_⟩
        have ndu : (fs.map (·.1) ++ rdy).Nodup := by
          rw [List.nodup_append]
          exact ⟨ndf3, ndr, fun x hx y hy e' => dis3 y (hrl y hy) (e' ▸ hx)⟩
        refine ⟨_, ?_, fs ++ rdy.map (fun x => (x, rank)), _, D8, rank + 1, ⟨_, _, _, rfl⟩, s07.trans s8, s8 _ _ gF7, h8, ?_, fun x hx => ?_, fun x hx => ?_, by rw [ek]; exact ndu, fun x hx => ?_, fun x hx => ?_, rfl⟩
        · -- fewer are left
          obtain ⟨y, hy⟩ := List.exists_mem_of_ne_nil rdy hne
          have h1 : (lf.filter fun x => !decide (x ∈ fs.map (·.1) ++ rdy)).length ≤ (lf.erase y).length := nd_len (nd3.sublist List.filter_sublist) fun x hx => by
            obtain ⟨h2, h3⟩ := List.mem_filter.mp hx
            have hxy : x ≠ y := fun e' => by
              subst e'
              simp [hy] at h3
            exact (List.mem_erase_of_ne hxy).mpr h2
          rw [List.length_erase_of_mem (hrl y hy)] at h1
          have := List.length_pos_of_mem (hrl y hy)
          omega
        · exact nd3.sublist List.filter_sublist
        · exact sub3 x (List.mem_filter.mp hx).1
        · rw [ek]
          by_cases hin : x ∈ fs.map (·.1) ++ rdy
          · exact .inr hin
          · rcases cov3 x hx with h | h
            · exact .inl (List.mem_filter.mpr ⟨h, by simpa using hin⟩)
            · exact .inr (List.mem_append_left _ h)
        · rw [ek] at hx
          rcases List.mem_append.mp hx with h | h
          · exact subf3 x h
          · exact sub3 x (hrl x h)
        · rw [ek]
          have := (List.mem_filter.mp hx).2
          simpa using this
end
end K99
/-! K30 -/
namespace K99
open PySem PySem.Spec PyProof.Rows L2
theorem wm_range (n : Nat) : Walk (Itr 0 n) (List.range n).length (fun _ => True) (YMap (List.range n) fun i => V.int (i : Int)) := by
  rw [List.length_range]
  exact walk_range.mono (fun _ h => h) fun i H x H' hi _ y => ⟨y.1, i, List.getElem?_range hi, by rw [y.2]; show V.int (0 + (i : Int)) = _; rw [Int.zero_add]⟩
/-! ### what follows from what, and what is read, in a chain's node -/
theorem ct_mem {b : Bool} {rs : List Rw} {x o : Str} : o ∈ ctOf b rs x ↔ ∃ r, r ∈ rs ∧ r.tell = x ∧ o ∈ rdOf b r := by
  unfold ctOf
  rw [List.mem_flatMap]
  constructor
  · rintro ⟨r, h1, h2⟩
    obtain ⟨h3, h4⟩ := List.mem_filter.mp h1
    exact ⟨r, h3, of_decide_eq_true h4, h2⟩
  · rintro ⟨r, h1, h2, h3⟩
    exact ⟨r, List.mem_filter.mpr ⟨h1, decide_eq_true h2⟩, h3⟩
structure ShN (n : ND) (s : Sh) : Prop where
  ok : s.ok n
  oks : n.oks
section
variable {n : ND} {s : Sh}
theorem ShN.tells (h : ShN n s) : n.tells = s.kept :: (s.xs ++ [n.out]) := by
  unfold ND.tells
  rw [h.ok.rows, List.map_cons, List.map_append, List.map_map, List.map_cons, List.map_nil]
  congr 2
  exact List.map_id _
theorem ShN.nd (h : ShN n s) : (s.in0 :: s.more ++ s.kept :: (s.xs ++ [n.out])).Nodup := by
  have := h.oks.nd
  unfold ND.names at this
  rw [h.tells, h.ok.ins] at this
  exact this
theorem ShN.in0_out (h : ShN n s) : s.in0 ≠ n.out := fun e => by
  have := (List.nodup_append.mp h.nd).2.2 s.in0 (List.mem_cons_self ..) n.out (by simp)
  exact this e
theorem ShN.in0_kept (h : ShN n s) : s.in0 ≠ s.kept := (List.nodup_append.mp h.nd).2.2 s.in0 (List.mem_cons_self ..) s.kept (List.mem_cons_self ..)
theorem ShN.in0_xs (h : ShN n s) : s.in0 ∉ s.xs := fun e => (List.nodup_append.mp h.nd).2.2 s.in0 (List.mem_cons_self ..) s.in0 (by simp [e]) rfl
theorem ShN.kept_out (h : ShN n s) : s.kept ≠ n.out := fun e => by
  have := (List.nodup_cons.mp (List.nodup_append.mp h.nd).2.1).1
  exact this (by rw [e]; simp)
theorem ShN.kept_xs (h : ShN n s) : s.kept ∉ s.xs := fun e => (List.nodup_cons.mp (List.nodup_append.mp h.nd).2.1).1 (List.mem_append_left _ e)
theorem ShN.out_xs (h : ShN n s) : n.out ∉ s.xs := fun e => by
  have := (List.nodup_append.mp (List.nodup_cons.mp (List.nodup_append.mp h.nd).2.1).2).2.2 n.out e n.out (by simp)
  exact this rfl
theorem ShN.more_ne (h : ShN n s) {x : Str} (hx : x ∈ s.more) : x ≠ s.in0 ∧ x ≠ s.kept ∧ x ∉ s.xs ∧ x ≠ n.out := by
  have h1 := List.nodup_append.mp h.nd
  have h2 := List.nodup_cons.mp h1.1
  refine ⟨fun e => h2.1 (e ▸ hx), fun e => ?_, fun e => ?_, fun e => ?_⟩
  · exact h1.2.2 x (List.mem_cons_of_mem _ hx) s.kept (List.mem_cons_self ..) e
  · exact h1.2.2 x (List.mem_cons_of_mem _ hx) x (by simp [e]) rfl
  · exact h1.2.2 x (List.mem_cons_of_mem _ hx) n.out (by simp) e
/-- the ways that a name reads another one -/
theorem ShN.reads (h : ShN n s) {b : Bool} {x o : Str} (hr : o ∈ n.reads b x) : o ∈ n.names ∧ ((x ∈ s.xs ∧ o = s.in0 ∧ b = true) ∨ (x = n.out ∧ o ∈ s.t.nms)) := by
  obtain ⟨h1, h2⟩ := List.mem_filter.mp hr
  obtain ⟨r, h3, h4, h5⟩ := ct_mem.mp (of_decide_eq_true h2)
  refine ⟨h1, ?_⟩
  rw [h.ok.rows] at h3
  rcases List.mem_cons.mp h3 with rfl | h3
  · cases h5
  · rcases List.mem_append.mp h3 with h3 | h3
    · obtain ⟨z, hz, rfl⟩ := List.mem_map.mp h3
      refine .inl ⟨h4 ▸ hz, ?_⟩
      cases b with
      | true => exact ⟨List.mem_singleton.mp h5, rfl⟩
      | false => cases h5
    · rcases List.mem_singleton.mp h3 with rfl
      exact .inr ⟨h4.symm, h5⟩
theorem ShN.names (h : ShN n s) : n.names = s.in0 :: s.more ++ s.kept :: (s.xs ++ [n.out]) := by
  unfold ND.names
  rw [h.tells, h.ok.ins]
theorem ShN.reads_out (h : ShN n s) {b : Bool} {o : Str} (ho : o ∈ s.t.nms) : o ∈ n.reads b n.out := by
  refine List.mem_filter.mpr ⟨?_, decide_eq_true (ct_mem.mpr ⟨.pln n.out s.t, ?_, rfl, ho⟩)⟩
  · rw [h.names]
    rcases h.ok.sub o ho with rfl | e | rfl
    · simp
    · simp [e]
    · simp
  · rw [h.ok.rows]
    simp
theorem ShN.reads_x (h : ShN n s) {x : Str} (hx : x ∈ s.xs) : s.in0 ∈ n.reads true x := by
  refine List.mem_filter.mpr ⟨?_, decide_eq_true (ct_mem.mpr ⟨.call x s.c s.in0 s.k, ?_, rfl, List.mem_cons_self ..⟩)⟩
  · rw [h.names]
    simp
  · rw [h.ok.rows]
    simp [hx]
/-- a rank by which what is read comes ahead -/
def rkOf (n : ND) (s : Sh) (x : Str) : Nat := if x = n.out then 2 else if x ∈ s.xs then 1 else 0
theorem ShN.rank (h : ShN n s) {b : Bool} {x o : Str} (hr : o ∈ n.reads b x) : o ∈ n.names ∧ rkOf n s o < rkOf n s x := by
  obtain ⟨h1, h2⟩ := h.reads hr
  refine ⟨h1, ?_⟩
  unfold rkOf
  rcases h2 with ⟨h3, h4, _⟩ | ⟨h3, h4⟩
  · subst h4
    rw [if_neg h.in0_out, if_neg h.in0_xs, if_neg (fun e : x = n.out => h.out_xs (e ▸ h3)), if_pos h3]
    decide
  · rw [if_pos h3]
    have : o ≠ n.out := fun e => by
      subst e
      rcases h.ok.sub _ h4 with e | e | e
      · exact h.kept_out e.symm
      · exact h.out_xs e
      · exact h.in0_out e.symm
    rw [if_neg this]
    split <;> decide
theorem ShN.gifts (h : ShN n s) {p : Str × Str} (hp : p ∈ n.gifts) : p.2 = s.in0 ∨ p.2 = s.kept ∨ p.2 ∈ s.xs := by
  obtain ⟨r, hr, hp⟩ := List.mem_flatMap.mp hp
  rw [h.ok.rows] at hr
  rcases List.mem_cons.mp hr with rfl | hr
  · rcases List.mem_singleton.mp hp with rfl
    exact .inl rfl
  · rcases List.mem_append.mp hr with hr | hr
    · obtain ⟨z, hz, rfl⟩ := List.mem_map.mp hr
      rcases List.mem_singleton.mp hp with rfl
      exact .inl rfl
    · rcases List.mem_singleton.mp hr with rfl
      obtain ⟨z, hz, rfl⟩ := List.mem_map.mp hp
      rcases h.ok.sub z hz with e | e | e
      · exact .inr (.inl e)
      · exact .inr (.inr e)
      · exact .inl e
theorem ShN.out_follows (h : ShN n s) {acc : List Str} (h0 : s.in0 ∈ acc) (hc : ∀ p, p ∈ n.gifts → p.2 ∈ acc → p.1 ∈ acc) : n.out ∈ acc := by
  have hg : ∀ r, r ∈ n.rows → ∀ p, p ∈ giftOf r → p ∈ n.gifts := fun r hr p hp => List.mem_flatMap.mpr ⟨r, hr, hp⟩
  have hk : s.kept ∈ acc := hc (s.kept, s.in0) (hg _ (by rw [h.ok.rows]; exact List.mem_cons_self ..) _ (List.mem_cons_self ..)) h0
  exact hc (n.out, s.kept) (hg (.pln n.out s.t) (by rw [h.ok.rows]; simp) _ (List.mem_map_of_mem h.ok.kt)) hk
/-- whether the first input is reached from the out -/
theorem ShN.reach (h : ShN n s) {b : Bool} {acc : List Str} (h0 : n.out ∈ acc) (hc : ∀ x o, x ∈ acc → o ∈ n.reads b x → o ∈ acc) (hS : ∀ S : Str → Prop, S n.out → (∀ x o, S x → o ∈ n.reads b x → S o) → ∀ x, x ∈ acc → S x) :
    (s.in0 ∈ acc ↔ (decide (s.in0 ∈ s.t.nms) || ((s.xs.any fun x => decide (x ∈ s.t.nms)) && b)) = true) ∧ ∀ x, x ∈ s.more → x ∉ acc := by
  constructor
  · constructor
    · intro hin
      by_cases hst : (decide (s.in0 ∈ s.t.nms) || ((s.xs.any fun x => decide (x ∈ s.t.nms)) && b)) = true
      · exact hst
      · exfalso
        rw [Bool.not_eq_true, Bool.or_eq_false_iff, Bool.and_eq_false_iff] at hst
        obtain ⟨h1, h2⟩ := hst
        have h1 := of_decide_eq_false h1
        have := hS (fun x => x = n.out ∨ x = s.kept ∨ (x ∈ s.xs ∧ b = false)) (.inl rfl) (fun x o hx ho => ?_) s.in0 hin
        · rcases this with e | e | e
          · exact h.in0_out e
          · exact h.in0_kept e
          · exact h.in0_xs e.1
        · obtain ⟨_, hr⟩ := h.reads ho
          rcases hr with ⟨hx1, _, hb⟩ | ⟨hx1, ho1⟩
          · rcases hx with e | e | e
            · exact absurd (e ▸ hx1) h.out_xs
            · exact absurd (e ▸ hx1) h.kept_xs
            · rw [hb] at e
              cases e.2
          · rcases h.ok.sub o ho1 with e | e | e
            · exact .inr (.inl e)
            · refine .inr (.inr ⟨e, ?_⟩)
              rcases h2 with h2 | h2
              · rw [List.any_eq_false] at h2
                exact absurd (decide_eq_true ho1) (h2 o e)
              · exact h2
            · exact absurd (e ▸ ho1) h1
    · intro hst
      rw [Bool.or_eq_true, Bool.and_eq_true] at hst
      rcases hst with h1 | ⟨h1, h2⟩
      · exact hc n.out _ h0 (h.reads_out (of_decide_eq_true h1))
      · obtain ⟨x, hx, hx2⟩ := List.any_eq_true.mp h1
        have := hc n.out x h0 (h.reads_out (of_decide_eq_true hx2))
        rw [h2] at hc
        exact hc x _ this (h.reads_x hx)
  · intro x hx hin
    obtain ⟨e1, e2, e3, e4⟩ := h.more_ne hx
    have := hS (fun x => x = n.out ∨ x = s.kept ∨ x ∈ s.xs ∨ x = s.in0) (.inl rfl) (fun x o hx ho => ?_) x hin
    · rcases this with e | e | e | e
      · exact e4 e
      · exact e2 e
      · exact e3 e
      · exact e1 e
    · obtain ⟨_, hr⟩ := h.reads ho
      rcases hr with ⟨_, e, _⟩ | ⟨_, ho1⟩
      · exact .inr (.inr (.inr e))
      · rcases h.ok.sub o ho1 with e | e | e
        · exact .inr (.inl e)
        · exact .inr (.inr (.inl e))
        · exact .inr (.inr (.inr e))
end
theorem Cur.shn {K : PySem.W.Frag} {H : Hp} {a dx nd kn : Addr} {pd : List ND} {ss : List Sh} {j : Nat} (C : Cur K H a dx nd kn pd ss j) : ShN (ndAt pd j) (shAt ss j) := ⟨C.sh _ _ (ndAt_mem C.lt).1, C.ok⟩
theorem stAt_at {K : PySem.W.Frag} {H : Hp} {a dx nd kn : Addr} {pd : List ND} {ss : List Sh} {j : Nat} (C : Cur K H a dx nd kn pd ss j) : stAt ss j = (decide ((shAt ss j).in0 ∈ (shAt ss j).t.nms) || (((shAt ss j).xs.any fun x => decide (x ∈ (shAt ss j).t.nms)) && stAt ss (j - 1))) := by
  cases j with
  | succ i => rfl
  | zero =>
    have hx : (shAt ss 0).xs = [] := by
      cases hq : (shAt ss 0).xs with
      | nil => rfl
      | cons x r =>
        have := (C.call (x := x) (c := (shAt ss 0).c) (b := (shAt ss 0).in0) (k := (shAt ss 0).k) (by rw [C.shn.ok.rows, hq]; simp)).1
        omega
    rw [hx]
    show decide _ = _
    simp
section
variable {P : Program} {w : World} {K : PySem.W.Frag} {mg : Str → Option Value} {base : Heap}
theorem sok_names {pd : List ND} {j : Nat} (c : Ch pd) (h : j < pd.length) : ∀ x, x ∈ (ndAt pd j).names → x.cps.all (· < 0x110000) = true := fun x hx => nm_sok (c.nms _ (ndAt_mem h).2 x hx)
def spOrder (K : PySem.W.Frag) : Sp := fun vs H Q _ => ∃ (a dx nd kn c r : Addr) (g s : V) (pd : List ND) (ss : List Sh) (j : Nat) (rl : List PS1), vs = [V.ref a] ∧ H a = some (.ins (A_Fit K) dx (ff nd kn c r g s)) ∧ Cur K H a dx nd kn pd ss j ∧ RdD K H r rl (ndAt pd j).names ((ndAt pd j).reads (stAt ss (j - 1))) ∧ ∀ v H', Same H H' → Q v H'
theorem ok_Fit_order (T : Txt K mg) : FnOk P w K mg base CX0 3 (f_Fit_order K) (fdAt K (f_Fit_order K)) P_Fit_order (spOrder K) := by
  refine FunD.ok T.F_Fit_order sc_Fit_order (fun vs H Q E h => ?_) (fun cdv A outer s H vs Q E hr h => ?_)
  · obtain ⟨a, dx, nd, kn, c, r, g, s, pd, ss, j, rl, rfl, _⟩ := h
    rfl
  · obtain ⟨a, dx, nd, kn, c, r, g, s, pd, ss, j, rl, rfl, h1, C, R, k⟩ := h
    refine ⟨_, PSs.nox (pss_one (ps_ret (pe_callTy (call_listD (by rfl)) (by rfl) T.z_list boot_list (pa_cons (pe_call (ok_ranked T) (hr.mono (by first | decide | omega)) (by rfl) T.g_ranked T.F_ranked.kp T.b_ranked .nil pass0 (pa_cons (pe_fld (pv 0) rfl) pa_nil)) pa_nil)))), ?_⟩
    have ok := C.ok
    have hnl : (ndAt pd j).names.length ≤ 1100 := by
      unfold ND.names ND.tells
      rw [List.length_append, List.length_map]
      have := ok.insL
      have := ok.rowL
      omega
    refine ⟨_, rfl, a, _, dx, _, _, rfl, h1, T.c_Fit, T.n_Fit_reads, rfl, r, rl, _, _, rkOf (ndAt pd j) (shAt ss j), rfl, R, ok.nd, hnl, sok_names C.ch C.lt, fun x hx => ⟨?_, fun o ho => C.shn.rank ho⟩, fun F fs H1 s1 g1 => ?_⟩
    · exact Nat.le_trans (List.length_filter_le _ _) hnl
    · exact ⟨F, _, rfl, .inl g1, fun l hl => k _ _ (s1.trans (Same.new hl))⟩
end
end K99
/-! K31 -/
namespace K99
open PySem PySem.Spec PyProof.Rows L2
theorem names_len {n : ND} (ok : n.oks) : n.names.length ≤ 1100 := by
  unfold ND.names ND.tells
  rw [List.length_append, List.length_map]
  have := ok.insL
  have := ok.rowL
  omega
section
variable {P : Program} {w : World} {K : PySem.W.Frag} {mg : Str → Option Value} {base : Heap}
def spLed (K : PySem.W.Frag) : Sp := fun vs H Q _ => ∃ (a dx nd kn c r gl : Addr) (s : V) (gs : List PG2) (pd : List ND) (ss : List Sh) (j : Nat) (cs : List PS1) (x : Str), vs = [V.ref a, .str x] ∧ H a = some (.ins (A_Fit K) dx (ff nd kn c r (.ref gl) s)) ∧ Cur K H a dx nd kn pd ss j ∧ GL K H gl gs (ndAt pd j).gifts ∧ ClD K H c cs (ndAt pd j).names ∧ x ∈ (ndAt pd j).names ∧
  ∀ (l : Addr) (acc : List Str) (H' : Hp), Same H H' → H' l = some (.lst (acc.map .str)) → x ∈ acc → (∀ p, p ∈ (ndAt pd j).gifts → p.2 ∈ acc → p.1 ∈ acc) → (∀ S : Str → Prop, S x → (∀ p, p ∈ (ndAt pd j).gifts → S p.2 → S p.1) → ∀ y, y ∈ acc → S y) → Q (.ref l) H'
theorem ok_Fit_led_from (T : Txt K mg) : FnOk P w K mg base CX0 3 (f_Fit_led_from K) (fdAt K (f_Fit_led_from K)) P_Fit_led_from (spLed K) := by
  refine FunD.ok T.F_Fit_led_from sc_Fit_led_from (fun vs H Q E h => ?_) (fun cdv A outer s H vs Q E hr h => ?_)
  · obtain ⟨a, dx, nd, kn, c, r, gl, s, gs, pd, ss, j, cs, x, rfl, _⟩ := h
    rfl
  · obtain ⟨a, dx, nd, kn, c, r, gl, s, gs, pd, ss, j, cs, x, rfl, h1, C, G, cd, hx, k⟩ := h
    refine ⟨_, PSs.nox (pss_cons (ps_set (i := 2) sc_Fit_led_from.nd rfl (by first | exact Or.inl rfl | exact Or.inr rfl) (pe_meth0 (pv 0) T.c_Fit T.m_Fit_gifts (ok_giftsD T) (hr.mono (by first | decide | omega)) T.b_Fit_gifts .nil pass0)) (pss_cons (ps_set (i := 3) sc_Fit_led_from.nd rfl (by first | exact Or.inl rfl | exact Or.inr rfl) (pe_lst (pa_cons (pv 1) pa_nil))) (pss_cons (ps_for PassesOwn.never rfl (pi_range1 (by rfl) T.z_range (pa_cons (pe_callB call_lenD (by rfl) T.z_len PySem.boot_len (pa_cons (pe_fld (pv 0) rfl) pa_nil)) pa_nil)) (pg_name (i := 4) sc_Fit_led_from.nd rfl (by first | exact Or.inl rfl | exact Or.inr rfl)) (pss_one (ps_if (pt_cmpR op_lt (pv 4) (pe_callB call_len_seq (by rfl) T.z_len PySem.boot_len (pa_cons (pv 3) pa_nil)) (by rfl)) (pss_one (ps_for PassesOwn.never rfl (pi_list (pv 2)) (pg_tup rfl (pgs_cons (pg_name (i := 5) sc_Fit_led_from.nd rfl (by first | exact Or.inl rfl | exact Or.inr rfl)) (pgs_cons (pg_name (i := 6) sc_Fit_led_from.nd rfl (by first | exact Or.inl rfl | exact Or.inr rfl)) (pgs_cons (pg_name (i := 7) sc_Fit_led_from.nd rfl (by first | exact Or.inl rfl | exact Or.inr rfl)) (pgs_cons (pg_name (i := 8) sc_Fit_led_from.nd rfl (by first | exact Or.inl rfl | exact Or.inr rfl)) pgs_nil))))) (pss_one (ps_if (PW.pt (pw_and (pt_cmpR op_eq (pv 6) (pe_ix ix_list (pv 3) (pv 4) (fun _ _ => rfl)) (by rfl)) (pw_and1 (pt_cmpR op_notIn_seq (pv 5) (pv 3) (by rfl))))) (pss_one (ps_expr (pe_bm PySem.F.plainAttrs_list PySem.F.slot_list_append PySem.F.type_list_append mt_append (pv 3) (pa_cons (pv 5) pa_nil)))) pss_nil)))) pss_nil))) (pss_one (ps_ret (pv 3)))))), ?_⟩
    have ok := C.ok
    have hnl := names_len ok
    refine ⟨_, rfl, a, dx, _, rfl, h1, rfl, a, dx, nd, kn, c, r, gl, s, rfl, h1, ?_⟩
    refine ⟨_, rfl, sz (n := 1) (by decide), fun F hF => ?_⟩
    have s1 : Same H (upd H F (.lst [.str x])) := Same.new hF
    have g1 : upd H F (.lst [.str x]) F = some (.lst ([x].map .str)) := upd_same
    generalize upd H F (.lst [.str x]) = H1 at s1 g1 ⊢
    have hcl : (cs.map fun c => ((Sum.inr c.2 : Key), V.ref c.1)).length = (ndAt pd j).names.length := by
      have := congrArg List.length cd.e
      rw [List.length_map] at this ⊢
      exact this
    refine ⟨_, rfl, a, _, dx, _, _, rfl, s1 _ _ h1, T.c_Fit, T.n_Fit_clocks, rfl, c, _, rfl, s1 _ _ cd.d, ?_⟩
    rw [hcl]
    refine ⟨_, rfl, by omega, by omega, ?_⟩
    rw [Int.toNat_natCast]
    have ngF : gl ≠ F := fun z => by
      subst z
      rw [G.l] at hF
      cases hF
    refine for_map (wm_range (ndAt pd j).names.length) (fun pre σ H2 => Same H H2 ∧ (∃ x4 x5 x6 x7 x8, σ = [some (.ref a), some (.str x), some (.ref gl), some (.ref F), x4, x5, x6, x7, x8]) ∧ ∃ acc : List Str, H2 F = some (.lst (acc.map .str)) ∧ acc.Nodup ∧ (∀ y, y ∈ acc → y ∈ (ndAt pd j).names) ∧ x ∈ acc ∧
        (∀ i o, i < pre.length → acc[i]? = some o → ∀ p, p ∈ (ndAt pd j).gifts → p.2 = o → p.1 ∈ acc) ∧ (∀ S : Str → Prop, S x → (∀ p, p ∈ (ndAt pd j).gifts → S p.2 → S p.1) → ∀ y, y ∈ acc → S y))
      ⟨s1, ⟨_, _, _, _, _, rfl⟩, [x], g1, by simp, fun y hy => by rw [List.mem_singleton.mp hy]; exact hx, List.mem_cons_self .., (fun i o hi => absurd hi (Nat.not_lt_zero _)), fun S h0 _ y hy => by rw [List.mem_singleton.mp hy]; exact h0⟩ (fun _ _ _ _ => trivial) (fun pre at_ post σ H2 e q => ?_) (fun σ H2 q => ?_)
    · obtain ⟨s2, ⟨x4, x5, x6, x7, x8, rfl⟩, acc, q1, q2, q3, q4, q5, q6⟩ := q
      obtain ⟨hat, _, _⟩ := range_pre e
      subst hat
      refine ⟨_, rfl, _, rfl, F, _, rfl, .inl (SqL.of q1), ?_⟩
      rw [List.length_map]
      refine ⟨_, _, rfl, rfl, decide (((pre.length : Nat) : Int) < (acc.length : Int)), rfl, ?_⟩
      rcases Nat.lt_or_ge pre.length acc.length with hlt | hge
      · rw [decide_eq_true (by omega)]
        refine iteT ?_
        obtain ⟨pm, hpm⟩ : ∃ pm, acc[pre.length]? = some pm := ⟨acc[pre.length], List.getElem?_eq_getElem hlt⟩
        have G2 := G.mono s2
        refine ⟨_, rfl, gl, rfl, ⟨_, SqL.of G2.l⟩, ?_⟩
        refine for_map (wm_list gs fun g => V.ref g.1) (fun pre2 σ H3 => Same H H3 ∧ (∃ x5 x6 x7 x8, σ = [some (.ref a), some (.str x), some (.ref gl), some (.ref F), some (.int ((pre.length : Nat) : Int)), x5, x6, x7, x8]) ∧ ∃ acc3 more : List Str, acc3 = acc ++ more ∧ H3 F = some (.lst (acc3.map .str)) ∧ acc3.Nodup ∧ (∀ y, y ∈ acc3 → y ∈ (ndAt pd j).names) ∧
            (∀ p, p ∈ pre2.map (·.2) → p.2 = pm → p.1 ∈ acc3) ∧ (∀ S : Str → Prop, S x → (∀ p, p ∈ (ndAt pd j).gifts → S p.2 → S p.1) → ∀ y, y ∈ acc3 → S y))
          ⟨s2, ⟨_, _, _, _, rfl⟩, acc, [], (List.append_nil _).symm, q1, q2, q3, (fun p hp => by cases hp), q6⟩ (fun pre2 σ H3 q => SqL.of (q.1 _ _ G.l)) (fun pre2 g8 post2 σ H3 e' q => ?_) (fun σ H3 q => ?_)
        · obtain ⟨s3, ⟨y5, y6, y7, y8, rfl⟩, acc3, more, em, r1, r2, r3, r4, r5⟩ := q
          have hg8 : g8 ∈ gs := by
            rw [e']
            simp
          obtain ⟨e8, w1, w2⟩ := (G.mono s3).g g8 hg8
          have hgn : g8.2 ∈ (ndAt pd j).gifts := by
            rw [← G.e]
            exact List.mem_map_of_mem hg8
          have hnn := (gift_names ok hgn).1
          have hpm3 : acc3[pre.length]? = some pm := by
            rw [em, List.getElem?_append_left hlt]
            exact hpm
          have hal3 : acc3.length ≤ (ndAt pd j).names.length := nd_len r2 r3
          refine ⟨g8.1, _, rfl, w1, rfl, _, _, rfl, _, _, rfl, _, _, rfl, _, _, rfl, rfl, ?_⟩
          refine ⟨_, rfl, _, rfl, _, rfl, F, _, ((pre.length : Nat) : Int), _, rfl, rfl, SqL.of r1, atI_nat (n := pre.length) (v := .str pm) (by rw [List.getElem?_map, hpm3]; rfl), rfl, decide (V.str g8.2.2 = V.str pm), rfl, ?_⟩
          have fin0 : ¬ (g8.2.2 = pm ∧ g8.2.1 ∉ acc3) → Same H H3 ∧ (∃ x5 x6 x7 x8, [some (V.ref a), some (.str x), some (.ref gl), some (.ref F), some (.int ((pre.length : Nat) : Int)), some (.str g8.2.1), some (.str g8.2.2), some (.bl false), some (.ref e8)] = [some (V.ref a), some (.str x), some (.ref gl), some (.ref F), some (.int ((pre.length : Nat) : Int)), x5, x6, x7, x8]) ∧ ∃ acc3 more : List Str, acc3 = acc ++ more ∧ H3 F = some (.lst (acc3.map .str)) ∧ acc3.Nodup ∧ (∀ y, y ∈ acc3 → y ∈ (ndAt pd j).names) ∧
            (∀ p, p ∈ (pre2 ++ [g8]).map (·.2) → p.2 = pm → p.1 ∈ acc3) ∧ (∀ S : Str → Prop, S x → (∀ p, p ∈ (ndAt pd j).gifts → S p.2 → S p.1) → ∀ y, y ∈ acc3 → S y) := fun hn => by
            refine ⟨s3, ⟨_, _, _, _, rfl⟩, acc3, more, em, r1, r2, r3, fun p hp hpe => ?_, r5⟩
            rw [List.map_append] at hp
            rcases List.mem_append.mp hp with hp | hp
            · exact r4 p hp hpe
            · rcases List.mem_singleton.mp hp with rfl
              by_cases hin : g8.2.1 ∈ acc3
              · exact hin
              · exact absurd ⟨hpe, hin⟩ hn
          by_cases heq : g8.2.2 = pm
          · rw [decide_eq_true (congrArg V.str heq)]
            refine iteT ⟨_, rfl, _, rfl, F, _, rfl, .inl (SqL.of r1), rfl, flat_str, !decide (g8.2.1 ∈ acc3), by rw [← inV_str]; rfl, ?_⟩
            by_cases hin : g8.2.1 ∈ acc3
            · rw [decide_eq_true hin]
              exact iteF (fin0 fun h => h.2 hin)
            · rw [decide_eq_false hin]
              refine iteT ?_
              refine ⟨_, rfl, .inl ⟨rfl, _, SqL.of r1⟩, _, rfl, F, _, _, rfl, rfl, r1, by rw [List.length_map]; exact szl (by omega), SameX.of (SameX.put (Same.x s3)) hF, ⟨_, _, _, _, rfl⟩, acc3 ++ [g8.2.1], more ++ [g8.2.1], by rw [em, List.append_assoc], by rw [upd_same, List.map_append]; rfl, ?_, fun y hy => ?_, fun p hp hpe => ?_, fun S h0 hS y hy => ?_⟩
              · rw [List.nodup_append]
                refine ⟨r2, by simp, fun y hy z hz => ?_⟩
                rcases List.mem_singleton.mp hz with rfl
                exact fun e => hin (e ▸ hy)
              · rcases List.mem_append.mp hy with hy | hy
                · exact r3 y hy
                · rcases List.mem_singleton.mp hy with rfl
                  exact hnn
              · rw [List.map_append] at hp
                rcases List.mem_append.mp hp with hp | hp
                · exact List.mem_append_left _ (r4 p hp hpe)
                · rcases List.mem_singleton.mp hp with rfl
                  exact List.mem_append_right _ (List.mem_cons_self ..)
              · rcases List.mem_append.mp hy with hy | hy
                · exact r5 S h0 hS y hy
                · rcases List.mem_singleton.mp hy with rfl
                  refine hS g8.2 hgn ?_
                  rw [heq]
                  exact r5 S h0 hS pm (List.mem_of_getElem? hpm3)
          · rw [decide_eq_false (fun e => heq (by injection e))]
            exact iteF (iteF (fin0 fun h => heq h.1))
        · obtain ⟨s3, ⟨y5, y6, y7, y8, rfl⟩, acc3, more, em, r1, r2, r3, r4, r5⟩ := q
          refine ⟨s3, ⟨_, _, _, _, _, rfl⟩, acc3, r1, r2, r3, by rw [em]; exact List.mem_append_left _ q4, fun i o hi ho p hp hpo => ?_, r5⟩
          rw [List.length_append, List.length_singleton] at hi
          rcases Nat.lt_or_ge i pre.length with hi' | hi'
          · rw [em, List.getElem?_append_left (by omega)] at ho
            rw [em]
            exact List.mem_append_left _ (q5 i o hi' ho p hp hpo)
          · have : i = pre.length := by omega
            subst this
            rw [em, List.getElem?_append_left hlt, hpm] at ho
            have := Option.some.inj ho
            subst this
            rw [← G.e] at hp
            exact r4 p hp hpo
      · rw [decide_eq_false (by omega)]
        refine iteF ⟨s2, ⟨_, _, _, _, _, rfl⟩, acc, q1, q2, q3, q4, fun i o hi ho p hp hpo => ?_, q6⟩
        have := (List.getElem?_eq_some_iff.mp ho).1
        exact q5 i o (by omega) ho p hp hpo
    · obtain ⟨s2, ⟨x4, x5, x6, x7, x8, rfl⟩, acc, q1, q2, q3, q4, q5, q6⟩ := q
      refine ⟨_, rfl, k F acc H2 s2 q1 q4 (fun p hp hpa => ?_) q6⟩
      obtain ⟨i, hi⟩ := List.getElem?_of_mem hpa
      have h8 := (List.getElem?_eq_some_iff.mp hi).1
      have h9 := nd_len q2 q3
      exact q5 i p.2 (by rw [List.length_range]; omega) hi p hp rfl
/-! ### reached from a name -/
def spStepsFrom (K : PySem.W.Frag) : Sp := fun vs H Q _ => ∃ (d : Addr) (rl : List PS1) (xs : List Str) (rd : Str → List Str) (x : Str), vs = [V.ref d, .str x] ∧ RdD K H d rl xs rd ∧ xs.Nodup ∧ xs.length ≤ 1100 ∧ x ∈ xs ∧ (∀ y, y ∈ xs → ∀ o, o ∈ rd y → o ∈ xs) ∧
  ∀ F (ks : List (Key × V)) (acc : List Str) H', Same H H' → H' F = some (.dK ks) → ks.map (·.1) = acc.map Sum.inr → x ∈ acc → (∀ y o, y ∈ acc → o ∈ rd y → o ∈ acc) → (∀ S : Str → Prop, S x → (∀ y o, S y → o ∈ rd y → S o) → ∀ y, y ∈ acc → S y) → Q (.ref F) H'
theorem keys_some {ks : List (Key × V)} {acc : List Str} (e : ks.map (·.1) = acc.map Sum.inr) (x : Str) : (valV ks (.inr x)).isSome = decide (x ∈ acc) := by
  by_cases h : x ∈ acc
  · rw [decide_eq_true h]
    refine valV_mem ?_
    rw [e]
    exact List.mem_map_of_mem h
  · rw [decide_eq_false h, valV_none]
    · rfl
    · rw [e]
      exact fun hm => h (inr_mem hm)
end
end K99
/-! K32 -/
namespace K99
open PySem PySem.Spec PyProof.Rows L2
section
variable {P : Program} {w : World} {K : PySem.W.Frag} {mg : Str → Option Value} {base : Heap}
theorem ok_steps_from (T : Txt K mg) : FnOk P w K mg base CX0 1 (f_steps_from K) (fdAt K (f_steps_from K)) P_steps_from (spStepsFrom K) := by
  refine FunD.ok T.F_steps_from sc_steps_from (fun vs H Q E h => ?_) (fun cdv A outer s H vs Q E hr h => ?_)
  · obtain ⟨d, rl, xs, rd, x, rfl, _⟩ := h
    rfl
  · obtain ⟨d, rl, xs, rd, x, rfl, R, hnd, hnl, hx, hsub, k⟩ := h
    refine ⟨_, PSs.nox (pss_cons (ps_set (i := 2) sc_steps_from.nd rfl (by first | exact Or.inl rfl | exact Or.inr rfl) (pe_disp (pps_cons (pv 1) pe_non pps_nil) rfl rfl (fun h => by cases h) (by decide))) (pss_cons (ps_set (i := 3) sc_steps_from.nd rfl (by first | exact Or.inl rfl | exact Or.inr rfl) (pe_lst (pa_cons (pv 1) pa_nil))) (pss_cons (ps_for PassesOwn.never rfl (pi_range1 (by rfl) T.z_range (pa_cons (pe_callB call_lenD (by rfl) T.z_len PySem.boot_len (pa_cons (pv 0) pa_nil)) pa_nil)) (pg_name (i := 4) sc_steps_from.nd rfl (by first | exact Or.inl rfl | exact Or.inr rfl)) (pss_one (ps_if (pt_cmpR op_lt (pv 4) (pe_callB call_len_seq (by rfl) T.z_len PySem.boot_len (pa_cons (pv 3) pa_nil)) (by rfl)) (pss_one (ps_for PassesOwn.never rfl (pi_list (pe_dget (hu_of hr) (pv 0) (pe_ix ix_list (pv 3) (pv 4) (fun _ _ => rfl)) (fun _ _ => rfl))) (pg_name (i := 5) sc_steps_from.nd rfl (by first | exact Or.inl rfl | exact Or.inr rfl)) (pss_one (ps_if (pt_cmp (pc_dnotin (hu_of hr) (pv 5) (pv 2))) (pss_cons (ps_dput (hu_of hr) (pv 2) (pv 5) (pe_ix ix_list (pv 3) (pv 4) (fun _ _ => rfl)) rfl) (pss_one (ps_expr (pe_bm PySem.F.plainAttrs_list PySem.F.slot_list_append PySem.F.type_list_append mt_append (pv 3) (pa_cons (pv 5) pa_nil))))) pss_nil)))) pss_nil))) (pss_one (ps_ret (pv 2)))))), ?_⟩
    intro F hF
    refine ⟨_, rfl, upd_same, [(.inr x, .non)], rfl, (by show 1 ≤ 15; decide), ?_⟩
    have s1 : Same H (upd (upd H F (.dK [])) F (.dK (mergeK [] [(.inr x, .non)]))) := fun b o hb => by
      have hbF : b ≠ F := fun z => by
        subst z
        rw [hF] at hb
        cases hb
      rw [upd_ne hbF, upd_ne hbF]
      exact hb
    have gF : upd (upd H F (.dK [])) F (.dK (mergeK [] [(.inr x, .non)])) F = some (.dK [(.inr x, .non)]) := upd_same
    generalize upd (upd H F (.dK [])) F (.dK (mergeK [] [(.inr x, .non)])) = H1 at s1 gF ⊢
    refine ⟨_, rfl, sz (n := 1) (by decide), fun L hL => ?_⟩
    have s2 : Same H (upd H1 L (.lst [.str x])) := s1.trans (Same.new hL)
    have nHL : H L = none := s1.free hL
    have gL : upd H1 L (.lst [.str x]) L = some (.lst ([x].map .str)) := upd_same
    have nFL : F ≠ L := fun z => by
      subst z
      rw [gF] at hL
      cases hL
    have gF2 : upd H1 L (.lst [.str x]) F = some (.dK [(.inr x, .non)]) := by
      rw [upd_ne nFL]
      exact gF
    generalize upd H1 L (.lst [.str x]) = H2 at s2 gL gF2 ⊢
    have hcl : (rl.map fun c => ((Sum.inr c.2 : Key), V.ref c.1)).length = xs.length := by
      have := congrArg List.length R.e
      rw [List.length_map] at this ⊢
      exact this
    refine ⟨_, rfl, d, _, rfl, s2 _ _ R.d, ?_⟩
    rw [hcl]
    refine ⟨_, rfl, by omega, by omega, ?_⟩
    rw [Int.toNat_natCast]
    refine for_map (wm_range xs.length) (fun pre σ H3 => Same H H3 ∧ (∃ x4 x5, σ = [some (.ref d), some (.str x), some (.ref F), some (.ref L), x4, x5]) ∧ ∃ (acc : List Str) (ks : List (Key × V)), H3 L = some (.lst (acc.map .str)) ∧ H3 F = some (.dK ks) ∧ ks.map (·.1) = acc.map Sum.inr ∧ acc.Nodup ∧ (∀ y, y ∈ acc → y ∈ xs) ∧ x ∈ acc ∧
        (∀ i o, i < pre.length → acc[i]? = some o → ∀ z, z ∈ rd o → z ∈ acc) ∧ (∀ S : Str → Prop, S x → (∀ y o, S y → o ∈ rd y → S o) → ∀ y, y ∈ acc → S y))
      ⟨s2, ⟨_, _, rfl⟩, [x], _, gL, gF2, rfl, by simp, fun y hy => by rw [List.mem_singleton.mp hy]; exact hx, List.mem_cons_self .., (fun i o hi => absurd hi (Nat.not_lt_zero _)), fun S h0 _ y hy => by rw [List.mem_singleton.mp hy]; exact h0⟩ (fun _ _ _ _ => trivial) (fun pre at_ post σ H3 e q => ?_) (fun σ H3 q => ?_)
    · obtain ⟨s3, ⟨x4, x5, rfl⟩, acc, ks, q1, q0, qk, q2, q3, q4, q5, q6⟩ := q
      obtain ⟨hat, _, _⟩ := range_pre e
      subst hat
      refine ⟨_, rfl, _, rfl, L, _, rfl, .inl (SqL.of q1), ?_⟩
      rw [List.length_map]
      refine ⟨_, _, rfl, rfl, decide (((pre.length : Nat) : Int) < (acc.length : Int)), rfl, ?_⟩
      rcases Nat.lt_or_ge pre.length acc.length with hlt | hge
      · rw [decide_eq_true (by omega)]
        refine iteT ?_
        obtain ⟨pm, hpm⟩ : ∃ pm, acc[pre.length]? = some pm := ⟨acc[pre.length], List.getElem?_eq_getElem hlt⟩
        have hpx : pm ∈ xs := q3 pm (List.mem_of_getElem? hpm)
        obtain ⟨cc, hcc, hcx, hcv⟩ := ps_get R.e hnd hpx
        have R3 := R.mono s3
        refine ⟨_, rfl, _, rfl, _, rfl, L, _, ((pre.length : Nat) : Int), _, rfl, rfl, SqL.of q1, atI_nat (n := pre.length) (v := .str pm) (by rw [List.getElem?_map, hpm]; rfl), d, .ref cc.1, rfl, by rw [← hcv]; exact DGet.k (k := .inr pm) R3.d, ?_⟩
        refine ⟨cc.1, rfl, ⟨_, SqL.of (R3.l cc hcc)⟩, ?_⟩
        refine for_map (wm_list (rd cc.2) V.str) (fun pre2 σ H4 => Same H H4 ∧ (∃ x5, σ = [some (.ref d), some (.str x), some (.ref F), some (.ref L), some (.int ((pre.length : Nat) : Int)), x5]) ∧ ∃ (acc3 more : List Str) (ks : List (Key × V)), acc3 = acc ++ more ∧ H4 L = some (.lst (acc3.map .str)) ∧ H4 F = some (.dK ks) ∧ ks.map (·.1) = acc3.map Sum.inr ∧ acc3.Nodup ∧ (∀ y, y ∈ acc3 → y ∈ xs) ∧
            (∀ z, z ∈ pre2 → z ∈ acc3) ∧ (∀ S : Str → Prop, S x → (∀ y o, S y → o ∈ rd y → S o) → ∀ y, y ∈ acc3 → S y))
          ⟨s3, ⟨_, rfl⟩, acc, [], ks, (List.append_nil _).symm, q1, q0, qk, q2, q3, (fun p hp => by cases hp), q6⟩ (fun pre2 σ H4 q => SqL.of (q.1 _ _ (R.l cc hcc))) (fun pre2 o post2 σ H4 e' q => ?_) (fun σ H4 q => ?_)
        · obtain ⟨s4, ⟨y5, rfl⟩, acc3, more, ks3, em, r1, r0, rk, r2, r3, r4, r5⟩ := q
          have ho : o ∈ rd pm := by
            rw [← hcx, e']
            simp
          have hox := hsub pm hpx o ho
          have hpm3 : acc3[pre.length]? = some pm := by
            rw [em, List.getElem?_append_left hlt]
            exact hpm
          have hal3 : acc3.length ≤ xs.length := nd_len r2 r3
          have hkl : ks3.length = acc3.length := by
            have := congrArg List.length rk
            rw [List.length_map, List.length_map] at this
            exact this
          refine ⟨_, rfl, _, rfl, F, _, rfl, DGet.k (k := .inr o) r0, !decide (o ∈ acc3), by rw [keys_some rk], ?_⟩
          by_cases hin : o ∈ acc3
          · rw [decide_eq_true hin]
            refine iteF ⟨s4, ⟨_, rfl⟩, acc3, more, ks3, em, r1, r0, rk, r2, r3, fun z hz => ?_, r5⟩
            rcases List.mem_append.mp hz with hz | hz
            · exact r4 z hz
            · rcases List.mem_singleton.mp hz with rfl
              exact hin
          · rw [decide_eq_false hin]
            refine iteT ?_
            have hv : valV ks3 (.inr o) = none := valV_none fun h => by
              rw [rk] at h
              exact hin (inr_mem h)
            refine ⟨_, rfl, _, rfl, L, _, ((pre.length : Nat) : Int), _, rfl, rfl, SqL.of r1, atI_nat (n := pre.length) (v := .str pm) (by rw [List.getElem?_map, hpm3]; rfl), _, rfl, _, rfl, F, _, rfl, DPut.k (k := .inr o) r0 (szl (by omega)), ?_⟩
            rw [putK_new _ hv]
            have gL5 : upd H4 F (.dK (ks3 ++ [(.inr o, .str pm)])) L = some (.lst (acc3.map .str)) := by
              rw [upd_ne nFL.symm]
              exact r1
            have gF5 : upd H4 F (.dK (ks3 ++ [(.inr o, .str pm)])) F = some (.dK (ks3 ++ [(.inr o, .str pm)])) := upd_same
            have s5 : Same H (upd H4 F (.dK (ks3 ++ [(.inr o, .str pm)]))) := SameX.of (SameX.put (Same.x s4)) hF
            generalize upd H4 F (.dK (ks3 ++ [(.inr o, .str pm)])) = H5 at gL5 gF5 s5 ⊢
            refine ⟨_, rfl, .inl ⟨rfl, _, SqL.of gL5⟩, _, rfl, L, _, _, rfl, rfl, gL5, by rw [List.length_map]; exact szl (by omega), SameX.of (SameX.put (Same.x s5)) nHL, ⟨_, rfl⟩, acc3 ++ [o], more ++ [o], ks3 ++ [(.inr o, .str pm)], by rw [em, List.append_assoc], by rw [upd_same, List.map_append]; rfl, by rw [upd_ne nFL]; exact gF5, by rw [List.map_append, List.map_append, rk]; rfl, ?_, fun y hy => ?_, fun z hz => ?_, fun S h0 hS y hy => ?_⟩
            · rw [List.nodup_append]
              refine ⟨r2, by simp, fun y hy z hz => ?_⟩
              rcases List.mem_singleton.mp hz with rfl
              exact fun e => hin (e ▸ hy)
            · rcases List.mem_append.mp hy with hy | hy
              · exact r3 y hy
              · rcases List.mem_singleton.mp hy with rfl
                exact hox
            · rcases List.mem_append.mp hz with hz | hz
              · exact List.mem_append_left _ (r4 z hz)
              · rcases List.mem_singleton.mp hz with rfl
                exact List.mem_append_right _ (List.mem_cons_self ..)
            · rcases List.mem_append.mp hy with hy | hy
              · exact r5 S h0 hS y hy
              · rcases List.mem_singleton.mp hy with rfl
                exact hS pm y (r5 S h0 hS pm (List.mem_of_getElem? hpm3)) ho
        · obtain ⟨s4, ⟨y5, rfl⟩, acc3, more, ks3, em, r1, r0, rk, r2, r3, r4, r5⟩ := q
          refine ⟨s4, ⟨_, _, rfl⟩, acc3, ks3, r1, r0, rk, r2, r3, by rw [em]; exact List.mem_append_left _ q4, fun i o hi ho z hz => ?_, r5⟩
          rw [List.length_append, List.length_singleton] at hi
          rcases Nat.lt_or_ge i pre.length with hi' | hi'
          · rw [em, List.getElem?_append_left (by omega)] at ho
            rw [em]
            exact List.mem_append_left _ (q5 i o hi' ho z hz)
          · have : i = pre.length := by omega
            subst this
            rw [em, List.getElem?_append_left hlt, hpm] at ho
            have := Option.some.inj ho
            subst this
            rw [hcx] at r4
            exact r4 z hz
      · rw [decide_eq_false (by omega)]
        refine iteF ⟨s3, ⟨_, _, rfl⟩, acc, ks, q1, q0, qk, q2, q3, q4, fun i o hi ho z hz => ?_, q6⟩
        have := (List.getElem?_eq_some_iff.mp ho).1
        exact q5 i o (by omega) ho z hz
    · obtain ⟨s3, ⟨x4, x5, rfl⟩, acc, ks, q1, q0, qk, q2, q3, q4, q5, q6⟩ := q
      refine ⟨_, rfl, k F ks acc H3 s3 q0 qk q4 (fun y o hy ho => ?_) q6⟩
      obtain ⟨i, hi⟩ := List.getElem?_of_mem hy
      have h8 := (List.getElem?_eq_some_iff.mp hi).1
      have h9 := nd_len q2 q3
      exact q5 i y (by rw [List.length_range]; omega) hi o ho
end
end K99
/-! K33 -/
namespace K99
open PySem PySem.Spec PyProof.Rows L2
section
variable {P : Program} {w : World} {K : PySem.W.Frag} {mg : Str → Option Value} {base : Heap}
def spSumR (K : PySem.W.Frag) : Sp := fun vs H Q _ => ∃ (a dx nd kn c r gl : Addr) (s : V) (gs : List PG2) (pd : List ND) (ss : List Sh) (j : Nat) (cs rl : List PS1), vs = [V.ref a] ∧ H a = some (.ins (A_Fit K) dx (ff nd kn c r (.ref gl) s)) ∧ Cur K H a dx nd kn pd ss j ∧ GL K H gl gs (ndAt pd j).gifts ∧ ClD K H c cs (ndAt pd j).names ∧ RdD K H r rl (ndAt pd j).names ((ndAt pd j).reads (stAt ss (j - 1))) ∧
  ∀ su H', Same H H' → SumT K H' su (ndAt pd j).out (shAt ss j).in0 (stAt ss j) → Q (.ref su) H'
theorem ok_Fit_summary_reckoned (T : Txt K mg) : FnOk P w K mg base CX0 5 (f_Fit_summary_reckoned K) (fdAt K (f_Fit_summary_reckoned K)) P_Fit_summary_reckoned (spSumR K) := by
  refine FunD.ok T.F_Fit_summary_reckoned sc_Fit_summary_reckoned (fun vs H Q E h => ?_) (fun cdv A outer s H vs Q E hr h => ?_)
  · obtain ⟨a, dx, nd, kn, c, r, gl, s, gs, pd, ss, j, cs, rl, rfl, _⟩ := h
    rfl
  · obtain ⟨a, dx, nd, kn, c, r, gl, s, gs, pd, ss, j, cs, rl, rfl, h1, C, G, cd, R, k⟩ := h
    refine ⟨_, PSs.nox (pss_cons (ps_set (i := 1) sc_Fit_summary_reckoned.nd rfl (by first | exact Or.inl rfl | exact Or.inr rfl) (pe_meth0 (pe_fld (pv 0) rfl) T.c_Node T.m_Node_inputs (ok_Node_inputs T) (hr.mono (by first | decide | omega)) T.b_Node_inputs .nil pass0)) (pss_cons (ps_set (i := 2) sc_Fit_summary_reckoned.nd rfl (by first | exact Or.inl rfl | exact Or.inr rfl) (pe_meth0 (pe_fld (pv 0) rfl) T.c_Node T.m_Node_outs (ok_Node_outs T) (hr.mono (by first | decide | omega)) T.b_Node_outs .nil pass0)) (pss_cons (ps_for PassesOwn.never rfl (pi_list (pv 2)) (pg_name (i := 3) sc_Fit_summary_reckoned.nd rfl (by first | exact Or.inl rfl | exact Or.inr rfl)) (pss_one (ps_for PassesOwn.never rfl (pi_tup (pe_dget (hu_of hr) (pe_fld (pv 0) rfl) (pv 3) (fun _ _ => rfl))) (pg_name (i := 4) sc_Fit_summary_reckoned.nd rfl (by first | exact Or.inl rfl | exact Or.inr rfl)) (pss_one (ps_if (pt_cmpR op_notIn_seq (pv 4) (pe_op op_cat (pv 1) (pv 2)) (by rfl)) pB pss_nil))))) (pss_cons (ps_set (i := 5) sc_Fit_summary_reckoned.nd rfl (by first | exact Or.inl rfl | exact Or.inr rfl) (pe_callTy (call_dictP (by rfl)) (by rfl) T.z_dict boot_dict (pa_cons (pe_lc (own := [("name", 9)]) (by rfl) sc_Fit_summary_reckoned.nd (pi_list (pv 1)) (blkOk_by (N := N_Fit_summary_reckoned) (sc := defScope s_Fit_summary_reckoned) (by decide +kernel)) (fun _ _ _ _ _ => (pg_name (i := 9) sc_Fit_summary_reckoned.nd rfl (by first | exact Or.inl rfl | exact Or.inr rfl))) (fun _ _ _ _ _ => pts_nil) (fun _ _ _ _ _ => (pe_tup (pa_cons (pv 9) (pa_cons (pe_meth (pv 0) T.c_Fit T.m_Fit_led_from (ok_Fit_led_from T) (hr.mono (by first | decide | omega)) T.b_Fit_led_from .nil pass0 (pa_cons (pv 9) pa_nil)) pa_nil))))) pa_nil))) (pss_cons (ps_set (i := 6) sc_Fit_summary_reckoned.nd rfl (by first | exact Or.inl rfl | exact Or.inr rfl) (pe_lst pa_nil)) (pss_cons (ps_for PassesOwn.never rfl (pi_list (pv 2)) (pg_name (i := 3) sc_Fit_summary_reckoned.nd rfl (by first | exact Or.inl rfl | exact Or.inr rfl)) (pss_cons (ps_set (i := 7) sc_Fit_summary_reckoned.nd rfl (by first | exact Or.inl rfl | exact Or.inr rfl) (pe_call (ok_steps_from T) (hr.mono (by first | decide | omega)) (by rfl) T.g_steps_from T.F_steps_from.kp T.b_steps_from .nil pass0 (pa_cons (pe_fld (pv 0) rfl) (pa_cons (pv 3) pa_nil)))) (pss_cons (ps_set (i := 8) sc_Fit_summary_reckoned.nd rfl (by first | exact Or.inl rfl | exact Or.inr rfl) (pe_callTy call_tuple_of (by rfl) T.z_tuple boot_tuple (pa_cons (pe_lc (own := [("name", 9)]) (by rfl) sc_Fit_summary_reckoned.nd (pi_list (pv 1)) (blkOk_by (N := N_Fit_summary_reckoned) (sc := defScope s_Fit_summary_reckoned) (by decide +kernel)) (fun _ _ _ _ _ => (pg_name (i := 9) sc_Fit_summary_reckoned.nd rfl (by first | exact Or.inl rfl | exact Or.inr rfl))) (fun _ _ _ _ _ => (pts_one (pt_cmpR (r := rIn K false) op_in_seq (pv 3) (pe_dget (hu_of hr) (pv 5) (pv 9) (fun _ _ => rfl)) (by rfl)))) (fun _ _ _ _ _ => (pv 9))) pa_nil))) (pss_one (ps_expr (pe_bm PySem.F.plainAttrs_list PySem.F.slot_list_append PySem.F.type_list_append mt_append (pv 6) (pa_cons (pe_tup (pa_cons (pv 3) (pa_cons (pe_dget (hu_of hr) (pe_fld (pv 0) rfl) (pv 3) (fun _ _ => rfl)) (pa_cons (pv 8) (pa_cons (pe_callTy call_tuple_of (by rfl) T.z_tuple boot_tuple (pa_cons (pe_lc (own := [("name", 9)]) (by rfl) sc_Fit_summary_reckoned.nd (pi_list (pv 1)) (blkOk_by (N := N_Fit_summary_reckoned) (sc := defScope s_Fit_summary_reckoned) (by decide +kernel)) (fun _ _ _ _ _ => (pg_name (i := 9) sc_Fit_summary_reckoned.nd rfl (by first | exact Or.inl rfl | exact Or.inr rfl))) (fun _ _ _ _ _ => (pts_one (pt_cmp (pc_din (hu_of hr) (pv 9) (pv 7))))) (fun _ _ _ _ _ => (pv 9))) pa_nil)) pa_nil))))) pa_nil))))))) (pss_one (ps_ret (pe_callTy call_tuple_of (by rfl) T.z_tuple boot_tuple (pa_cons (pv 6) pa_nil)))))))))), ?_⟩
    have ok := C.ok
    have sn := C.shn
    have hnl := names_len ok
    have hnd := ok.nd
    have hout : (ndAt pd j).out ∈ (ndAt pd j).names := List.mem_append_right _ ok.outT
    have hins : (ndAt pd j).ins.Nodup := by
      unfold ND.names at hnd
      exact (List.nodup_append.mp hnd).1
    obtain ⟨dy, ki, ko, kr, te, rs0, u1, u2, u3⟩ := id C.nd
    refine ⟨_, rfl, a, _, dx, _, _, rfl, h1, T.c_Fit, T.n_Fit_ground, rfl, nd, dy, _, rfl, u1, rfl, nd, ndAt pd j, rfl, C.nd, fun l1 H1 s1 hl1 => ?_⟩
    refine ⟨_, rfl, a, _, dx, _, _, rfl, s1 _ _ h1, T.c_Fit, T.n_Fit_ground, rfl, nd, dy, _, rfl, s1 _ _ u1, rfl, nd, ndAt pd j, rfl, C.nd.mono s1, fun l2 H2 s2 hl2 => ?_⟩
    have s02 := s1.trans s2
    have hl12 := s2 _ _ hl1
    obtain ⟨cc, v1, v2⟩ := cd.get hnd hout
    refine ⟨_, rfl, l2, rfl, ⟨_, SqL.of hl2⟩, ?_⟩
    -- no labels
    refine for_map (wm_list [(ndAt pd j).out] V.str) (fun pre σ H3 => Same H2 H3 ∧ ∃ x3 x4 x5 x6 x7 x8 x9, σ = [some (.ref a), some (.ref l1), some (.ref l2), x3, x4, x5, x6, x7, x8, x9]) ⟨Same.refl _, _, _, _, _, _, _, _, rfl⟩ (fun pre σ H3 q => SqL.of (q.1 _ _ hl2)) (fun pre x post σ H3 e q => ?_) (fun σ H3 q => ?_)
    · obtain ⟨s3, x3, x4, x5, x6, x7, x8, x9, rfl⟩ := q
      have hx : x = (ndAt pd j).out := by
        have : x ∈ [(ndAt pd j).out] := by
          rw [e]
          simp
        exact List.mem_singleton.mp this
      subst hx
      have s03 := s02.trans s3
      refine ⟨_, rfl, a, _, dx, _, _, rfl, s03 _ _ h1, T.c_Fit, T.n_Fit_clocks, rfl, _, rfl, c, .ref cc, rfl, by rw [← v1]; exact DGet.k (k := .inr (ndAt pd j).out) (s03 _ _ cd.d), cc, rfl, ⟨_, Same.sqt s03 v2⟩, ?_⟩
      exact for_map (wm_tup ([] : List Str) V.str) (fun _ σ H4 => Same H2 H4 ∧ ∃ x3 x4 x5 x6 x7 x8 x9, σ = [some (.ref a), some (.ref l1), some (.ref l2), x3, x4, x5, x6, x7, x8, x9]) ⟨s3, _, _, _, _, _, _, _, rfl⟩ (fun _ σ H4 q => Same.sqt (s02.trans q.1) v2) (fun pre2 y post2 σ H4 e2 q => by cases pre2 <;> cases e2) (fun σ H4 q => q)
    obtain ⟨s3, x3, x4, x5, x6, x7, x8, x9, rfl⟩ := q
    have s03 := s02.trans s3
    have hl13 := s3 _ _ hl12
    -- what each input leads to
    refine ⟨_, rfl, l1, rfl, ⟨_, SqL.of hl13⟩, fun D hD => ?_⟩
    refine lc_map (wm_list (ndAt pd j).ins V.str) (fun pre H4 => Same H3 H4 ∧ ∃ (ts : List Addr) (ll : List PS1), H4 D = some (.lst (ts.map .ref)) ∧ ll.map (·.2) = pre ∧ Paired (fun p (kv : Key × V) => SqT K H4 p [kV kv.1, kv.2]) ts (ll.map fun q => ((Sum.inr q.2 : Key), V.ref q.1)) ∧ ∀ q, q ∈ ll → q.1 ≠ D ∧ ∃ acc : List Str, H4 q.1 = some (.lst (acc.map .str)) ∧ ((ndAt pd j).out ∈ acc ↔ q.2 = (shAt ss j).in0))
      ⟨Same.new hD, [], [], upd_same, rfl, .nil, fun _ h => by cases h⟩ (fun pre H4 q => SqL.of (q.1 _ _ hl13)) (fun pre x post H4 e q => ?_) (fun H4 q => ?_)
    · obtain ⟨s4, ts, ll, q1, q2, q3, q4⟩ := q
      have hx : x ∈ (ndAt pd j).ins := by
        rw [e]
        simp
      have s04 := s03.trans s4
      refine ⟨rfl, ?_⟩
      refine ⟨_, rfl, _, rfl, a, dx, _, rfl, s04 _ _ h1, rfl, _, rfl, a, dx, nd, kn, c, r, gl, s, gs, pd, ss, j, cs, x, rfl, s04 _ _ h1, C.mono s04, G.mono s04, cd.mono s04, List.mem_append_left _ hx, fun l acc H5 s5 hl5 hxa hclo hS => ?_⟩
      refine ⟨sz (n := 2) (by decide), fun t ht => ?_⟩
      have q15 := s5 _ _ q1
      have hlD : l ≠ D := fun z => by
        rw [z, q15] at hl5
        have := HO.lst.inj (Option.some.inj hl5)
        cases acc with
        | nil => cases hxa
        | cons y r =>
          cases ts with
          | nil => cases this
          | cons t r => injection this with h6 _; cases h6
      have s6 : Same H5 (upd H5 t (.tup [.str x, .ref l])) := Same.new ht
      have q16 := s6 _ _ q15
      have n7 : SameN (upd H5 t (.tup [.str x, .ref l])) (upd (upd H5 t (.tup [.str x, .ref l])) D (.lst (ts.map .ref ++ [.ref t]))) := SameN.lst q16
      have hprop : (ndAt pd j).out ∈ acc ↔ x = (shAt ss j).in0 := by
        constructor
        · intro ho
          rw [sn.ok.ins] at hx
          rcases List.mem_cons.mp hx with hx | hx
          · exact hx
          · obtain ⟨e1, e2, e3, e4⟩ := sn.more_ne hx
            have := hS (fun y => y = x) rfl (fun p hp hpx => by
              rcases sn.gifts hp with h | h | h
              · exact absurd (hpx.symm.trans h) e1
              · exact absurd (hpx.symm.trans h) e2
              · exact absurd (hpx ▸ h) e3) _ ho
            exact absurd this.symm e4
        · intro hx0
          subst hx0
          exact sn.out_follows hxa hclo
      refine ⟨_, q16, ?_, Same.mut (s4.trans (s5.trans s6)) hD, ts ++ [t], ll ++ [(l, x)], ?_, ?_, ?_, fun q hq => ?_⟩
      · have h7 := q3.length
        have h8 := congrArg List.length q2
        rw [List.length_map] at h7
        rw [List.length_map] at h8
        rw [List.length_map]
        have := ok.insL
        rw [e] at this
        simp at this
        exact szl (by omega)
      · rw [upd_same, List.map_append]
        rfl
      · rw [List.map_append, q2]
        rfl
      · rw [List.map_append]
        exact (L2.Paired.mapP q3 fun p kv o => SameN.sqt n7 (Same.sqt (s5.trans s6) o)).snoc (SameN.sqt n7 (SqT.of upd_same))
      · rcases List.mem_append.mp hq with hq | hq
        · obtain ⟨w1, acc', w2, w3⟩ := q4 q hq
          exact ⟨w1, acc', by rw [upd_ne w1]; exact (s5.trans s6) _ _ w2, w3⟩
        · rcases List.mem_singleton.mp hq with rfl
          exact ⟨hlD, acc, by rw [upd_ne hlD]; exact s6 _ _ hl5, hprop⟩
    obtain ⟨s4, ts, ll, q1, q2, q3, q4⟩ := q
    refine ⟨D, ts, (ll.map fun q : PS1 => ((Sum.inr q.2 : Key), V.ref q.1)), rfl, SqL.of q1, q3, fun Ld hLd => ?_⟩
    rw [merge_self (by rw [List.map_map]; show (ll.map ((Sum.inr : Str → Key) ∘ fun c : PS1 => c.2)).Nodup; rw [← List.map_map, q2]; exact inr_nodup hins)]
    have s5 : Same H4 (upd H4 Ld (.dK (ll.map fun q => ((Sum.inr q.2 : Key), V.ref q.1)))) := Same.new hLd
    have gLd : upd H4 Ld (.dK (ll.map fun q => ((Sum.inr q.2 : Key), V.ref q.1))) Ld = some (.dK (ll.map fun q => ((Sum.inr q.2 : Key), V.ref q.1))) := upd_same
    have q5 : ∀ q, q ∈ ll → ∃ acc : List Str, upd H4 Ld (.dK (ll.map fun q => ((Sum.inr q.2 : Key), V.ref q.1))) q.1 = some (.lst (acc.map .str)) ∧ ((ndAt pd j).out ∈ acc ↔ q.2 = (shAt ss j).in0) := fun q hq => by
      obtain ⟨w1, acc, w2, w3⟩ := q4 q hq
      exact ⟨acc, s5 _ _ w2, w3⟩
    have s05 := s03.trans (s4.trans s5)
    have hl15 := (s4.trans s5) _ _ hl13
    have hl25 := (s3.trans (s4.trans s5)) _ _ hl2
    generalize upd H4 Ld (.dK (ll.map fun q => ((Sum.inr q.2 : Key), V.ref q.1))) = H5 at s5 gLd q5 s05 hl15 hl25 ⊢
    refine ⟨Nat.zero_le _, fun F hF => ?_⟩
    have s56 : Same H5 (upd H5 F (.lst [])) := Same.new hF
    have s06 := s05.trans s56
    have gF : upd H5 F (.lst []) F = some (.lst []) := upd_same
    have hl16 := s56 _ _ hl15
    have hl26 := s56 _ _ hl25
    have gLd6 := s56 _ _ gLd
    have q6 : ∀ q, q ∈ ll → ∃ acc : List Str, upd H5 F (.lst []) q.1 = some (.lst (acc.map .str)) ∧ ((ndAt pd j).out ∈ acc ↔ q.2 = (shAt ss j).in0) := fun q hq => by
      obtain ⟨acc, w2, w3⟩ := q5 q hq
      exact ⟨acc, s56 _ _ w2, w3⟩
    have nHF : H F = none := s05.free hF
    generalize upd H5 F (.lst []) = H6 at s56 s06 gF hl16 hl26 gLd6 q6 ⊢
    have n2F : l2 ≠ F := fun z => by
      rw [z, gF] at hl26
      cases hl26
    refine ⟨_, rfl, l2, rfl, ⟨_, SqL.of hl26⟩, ?_⟩
    refine for_map (wm_list [(ndAt pd j).out] V.str) (fun pre σ H7 => SameX F H6 H7 ∧ (∃ x3 x4 x7 x8 x9, σ = [some (.ref a), some (.ref l1), some (.ref l2), x3, x4, some (.ref Ld), some (.ref F), x7, x8, x9]) ∧ (pre = [] → Same H6 H7) ∧ (pre ≠ [] → ∃ t e f h, H7 F = some (.lst [.ref t]) ∧ SqT K H7 t [.str (ndAt pd j).out, .ref e, .ref f, .ref h] ∧ SqT K H7 e [] ∧ SqT K H7 f [.str (shAt ss j).in0] ∧ SqT K H7 h ((if stAt ss j = true then [(shAt ss j).in0] else []).map .str)))
      ⟨SameX.refl _ _, ⟨_, _, _, _, _, rfl⟩, fun _ => Same.refl _, fun h => absurd rfl h⟩ (fun pre σ H7 q => SqL.of (q.1 _ _ n2F hl26)) (fun pre x post σ H7 e q => ?_) (fun σ H7 q => ?_)
    · obtain ⟨x7, ⟨y3, y4, y7, y8, y9, rfl⟩, z1, z2⟩ := q
      have hp2 : pre = [] ∧ x = (ndAt pd j).out := by
        cases pre with
        | nil =>
          injection e with e _
          exact ⟨rfl, e.symm⟩
        | cons a r => simp at e
      obtain ⟨rfl, rfl⟩ := hp2
      have s7 := z1 rfl
      have s07 := s06.trans s7
      refine ⟨_, rfl, a, _, dx, _, _, rfl, s07 _ _ h1, T.c_Fit, T.n_Fit_reads, rfl, _, rfl, r, rl, _, _, (ndAt pd j).out, rfl, R.mono s07, hnd, hnl, hout, fun y hy o ho => (sn.reads ho).1, fun Rc ks acc H8 s8 gRc hks hoa hclo hS => ?_⟩
      have hreach := sn.reach (b := stAt ss (j - 1)) hoa hclo hS
      rw [← stAt_at C] at hreach
      have s78 := s7.trans s8
      -- follows
      refine ⟨_, rfl, l1, rfl, ⟨_, SqL.of (s78 _ _ hl16)⟩, fun D9 hD9 => ?_⟩
      refine lc_flat (wm_list (ndAt pd j).ins V.str) (fun x => decide (x = (shAt ss j).in0)) V.str hD9 (Nat.le_trans ok.insL (by decide)) (fun H' s' => SqL.of (s' _ _ (s78 _ _ hl16))) (fun _ => rfl) (fun x H9 hx s9 Q' k' => ?_) (fun x H9 hx _ s9 Q' k' => ⟨_, rfl, k' H9 (Same.refl _)⟩) (fun H9 s9 h9 => ?_)
      · obtain ⟨q, hq, hqx, hqv⟩ := ps_get q2 hins hx
        obtain ⟨acc', w2, w3⟩ := q6 q hq
        refine ⟨_, rfl, ⟨_, rfl, _, rfl, Ld, .ref q.1, rfl, by rw [← hqv]; exact DGet.k (k := .inr x) ((s78.trans s9) _ _ gLd6), q.1, _, rfl, .inl (SqL.of ((s78.trans s9) _ _ w2)), rfl, flat_str, _, ?_, k' H9 (Same.refl _)⟩⟩
        show V.bl (inV (.str (ndAt pd j).out) (acc'.map .str)) = _
        rw [inV_str, ← hqx]
        congr 1
        exact decide_eq_decide.mpr w3
      have ef : ((ndAt pd j).ins.filter fun x => decide (x = (shAt ss j).in0)) = [(shAt ss j).in0] := by
        rw [sn.ok.ins, List.filter_cons_of_pos (by simp), List.filter_eq_nil_iff.mpr fun x hx => by simpa using (sn.more_ne hx).1]
      rw [ef] at h9
      refine ⟨D9, _, rfl, .inl ⟨SqL.of h9, fun fl hfl => ?_⟩⟩
      have s10 : Same H9 (upd H9 fl (.tup ([(shAt ss j).in0].map V.str))) := Same.new hfl
      have gfl : SqT K (upd H9 fl (.tup ([(shAt ss j).in0].map V.str))) fl [.str (shAt ss j).in0] := SqT.of upd_same
      generalize upd H9 fl (.tup ([(shAt ss j).in0].map V.str)) = H10 at s10 gfl ⊢
      have s7x := s78.trans (s9.trans s10)
      have s0x := s06.trans s7x
      refine ⟨_, rfl, .inl ⟨rfl, _, SqL.of (s7x _ _ gF)⟩, ?_⟩
      refine ⟨_, rfl, _, rfl, a, _, dx, _, _, rfl, s0x _ _ h1, T.c_Fit, T.n_Fit_clocks, rfl, _, rfl, c, .ref cc, rfl, by rw [← v1]; exact DGet.k (k := .inr (ndAt pd j).out) (s0x _ _ cd.d), _, rfl, ?_⟩
      -- hangs
      refine ⟨_, rfl, l1, rfl, ⟨_, SqL.of (s7x _ _ hl16)⟩, fun D11 hD11 => ?_⟩
      refine lc_flat (wm_list (ndAt pd j).ins V.str) (fun x => decide (x ∈ acc)) V.str hD11 (Nat.le_trans ok.insL (by decide)) (fun H' s' => SqL.of (s' _ _ (s7x _ _ hl16))) (fun _ => rfl) (fun x H11 hx s11 Q' k' => ?_) (fun x H11 hx _ s11 Q' k' => ⟨_, rfl, k' H11 (Same.refl _)⟩) (fun H11 s11 h11 => ?_)
      · refine ⟨_, rfl, _, rfl, Rc, _, rfl, DGet.k (k := .inr x) ((s9.trans (s10.trans s11)) _ _ gRc), _, ?_, k' H11 (Same.refl _)⟩
        rw [keys_some hks]
      have eh : ((ndAt pd j).ins.filter fun x => decide (x ∈ acc)) = if stAt ss j = true then [(shAt ss j).in0] else [] := by
        have em : ((shAt ss j).more.filter fun x => decide (x ∈ acc)) = [] := List.filter_eq_nil_iff.mpr fun x hx => by simpa using hreach.2 x hx
        rw [sn.ok.ins, List.filter_cons]
        by_cases hst : stAt ss j = true
        · rw [if_pos (decide_eq_true (hreach.1.mpr hst)), if_pos hst, em]
        · rw [if_neg (fun h => hst (hreach.1.mp (of_decide_eq_true h))), if_neg hst, em]
      rw [eh] at h11
      refine ⟨D11, _, rfl, .inl ⟨SqL.of h11, fun hg hhg => ?_⟩⟩
      have s12 : Same H11 (upd H11 hg (.tup ((if stAt ss j = true then [(shAt ss j).in0] else []).map V.str))) := Same.new hhg
      have ghg : SqT K (upd H11 hg (.tup ((if stAt ss j = true then [(shAt ss j).in0] else []).map V.str))) hg ((if stAt ss j = true then [(shAt ss j).in0] else []).map V.str) := SqT.of upd_same
      generalize upd H11 hg (.tup ((if stAt ss j = true then [(shAt ss j).in0] else []).map V.str)) = H12 at s12 ghg ⊢
      refine ⟨sz (n := 4) (by decide), fun t ht => ?_⟩
      have s13 : Same H12 (upd H12 t (.tup [.str (ndAt pd j).out, .ref cc, .ref fl, .ref hg])) := Same.new ht
      have s6x := s7x.trans (s11.trans (s12.trans s13))
      have gF13 := s6x _ _ gF
      have n14 : SameN (upd H12 t (.tup [.str (ndAt pd j).out, .ref cc, .ref fl, .ref hg])) (upd (upd H12 t (.tup [.str (ndAt pd j).out, .ref cc, .ref fl, .ref hg])) F (.lst ([] ++ [.ref t]))) := SameN.lst gF13
      refine ⟨F, _, _, rfl, rfl, gF13, szl (Nat.zero_le _), SameX.put (Same.x s6x), ⟨_, _, _, _, _, rfl⟩, fun h => by simp at h, fun _ => ⟨t, cc, fl, hg, upd_same, SameN.sqt n14 (SqT.of upd_same), SameN.sqt n14 (Same.sqt (s06.trans s6x) v2), SameN.sqt n14 (Same.sqt (s11.trans (s12.trans s13)) gfl), SameN.sqt n14 (Same.sqt s13 ghg)⟩⟩
    · obtain ⟨x7, ⟨y3, y4, y7, y8, y9, rfl⟩, z1, z2⟩ := q
      obtain ⟨t, e, f, h, w1, w2, w3, w4, w5⟩ := z2 (by simp)
      have s07 : Same H H7 := SameX.of (SameX.trans (Same.x s06) x7) nHF
      refine ⟨_, rfl, F, _, rfl, .inl ⟨SqL.of w1, fun su hsu => ?_⟩⟩
      have s8 : Same H7 (upd H7 su (.tup [.ref t])) := Same.new hsu
      exact k su _ (s07.trans s8) ⟨t, e, f, h, SqT.of upd_same, Same.sqt s8 w2, Same.sqt s8 w3, Same.sqt s8 w4, Same.sqt s8 w5⟩
end
end K99
/-! K34 -/
namespace K99
open PySem PySem.Spec PyProof.Rows L2
theorem SumT.keepI {K : PySem.W.Frag} {H H' : Hp} {a C dx : Addr} {fs : List (Str × V)} (h : H a = some (.ins C dx fs)) (s : SameX a H H') {su : Addr} {out in0 : Str} {b : Bool} (g : SumT K H su out in0 b) : SumT K H' su out in0 b := by
  obtain ⟨t, e, f, h', h1, h2, h3, h4, h5⟩ := g
  exact ⟨t, e, f, h', SqT.keepI h s h1, SqT.keepI h s h2, SqT.keepI h s h3, SqT.keepI h s h4, SqT.keepI h s h5⟩
section
variable {P : Program} {w : World} {K : PySem.W.Frag} {mg : Str → Option Value} {base : Heap}
def spSum0 (K : PySem.W.Frag) : Sp := fun vs H Q _ => ∃ (a dx nd kn c r gl : Addr) (gs : List PG2) (pd : List ND) (ss : List Sh) (j : Nat) (cs rl : List PS1), vs = [V.ref a] ∧ H a = some (.ins (A_Fit K) dx (ff nd kn c r (.ref gl) .non)) ∧ Cur K H a dx nd kn pd ss j ∧ GL K H gl gs (ndAt pd j).gifts ∧ ClD K H c cs (ndAt pd j).names ∧ RdD K H r rl (ndAt pd j).names ((ndAt pd j).reads (stAt ss (j - 1))) ∧
  ∀ su H', SameX a H H' → H' a = some (.ins (A_Fit K) dx (ff nd kn c r (.ref gl) (.ref su))) → SumT K H' su (ndAt pd j).out (shAt ss j).in0 (stAt ss j) → Q (.ref su) H'
theorem ok_sum0 (T : Txt K mg)  : FnOk P w K mg base CX0 6 (f_Fit_summary K) (fdAt K (f_Fit_summary K)) P_Fit_summary (spSum0 K) := by
  refine FunD.ok T.F_Fit_summary sc_Fit_summary (fun vs H Q E h => ?_) (fun cdv A outer s H vs Q E hr h => ?_)
  · obtain ⟨a, dx, nd, kn, c, r, gl, gs, pd, ss, j, cs, rl, rfl, _⟩ := h
    rfl
  · obtain ⟨a, dx, nd, kn, c, r, gl, gs, pd, ss, j, cs, rl, rfl, h1, C, G, cd, R, k⟩ := h
    refine ⟨_, PSs.nox (pss_cons (ps_if (pt_cmp (pc_isN (pe_fld (pv 0) rfl))) (pss_one (ps_fld (pv 0) (pe_meth0 (pv 0) T.c_Fit T.m_Fit_summary_reckoned (ok_Fit_summary_reckoned T) (hr.mono (by first | decide | omega)) T.b_Fit_summary_reckoned .nil pass0) rfl)) pss_nil) (pss_one (ps_ret (pe_fld (pv 0) rfl)))), ?_⟩
    refine ⟨_, rfl, a, _, dx, _, _, rfl, h1, T.c_Fit, T.n_Fit_own_summary, rfl, true, rfl, iteT ?_⟩
    refine ⟨_, rfl, a, dx, _, rfl, h1, rfl, a, dx, nd, kn, c, r, gl, _, gs, pd, ss, j, cs, rl, rfl, h1, C, G, cd, R, fun su H1 s1 S1 => ?_⟩
    have h2 := s1 _ _ h1
    refine ⟨_, rfl, a, _, dx, _, rfl, h2, T.c_Fit, T.n_Fit_own_summary, (by show 6 < 1000; decide), ?_⟩
    exact ⟨_, rfl, a, _, dx, _, _, rfl, upd_same, T.c_Fit, T.n_Fit_own_summary, rfl, k su _ (SameX.put (Same.x s1)) upd_same (S1.keepI h2 SameX.upd2)⟩
def spNamedB (K : PySem.W.Frag) : Sp := fun vs H Q _ => ∃ a n pd Hb, vs = [V.ref a, .str n.name] ∧ Same Hb H ∧ PgO K Hb a pd ∧ n ∈ pd ∧ ∀ b, NdO K Hb b n → Q (.ref b) H
theorem ok_namedB (T : Txt K mg)  : FnOk P w K mg base CX0 1 (f_Program_named K) (fdAt K (f_Program_named K)) P_Program_named (spNamedB K) := by
  refine FunD.ok T.F_Program_named sc_Program_named (fun vs H Q E h => ?_) (fun cdv A outer s H vs Q E hr h => ?_)
  · obtain ⟨a, n, pd, Hb, rfl, _⟩ := h
    rfl
  · obtain ⟨a, n, pd, Hb, rfl, s0, ⟨c, dx, d, as, h1, h2, h3, h4⟩, hn, k⟩ := h
    refine ⟨_, PSs.nox (pss_cons (ps_if (PW.pt (pw_or (pt_not (pt_val (pe_callB call_isi (by rfl) T.z_isinstance boot_isinstance (pa_cons (pv 1) (pa_cons (pe_bltn (v := .ty "str") (by rfl) T.z_str boot_str rfl) pa_nil))))) (pw_or1 (pt_cmp (pc_dnotin (hu_of hr) (pv 1) (pe_fld (pv 0) rfl)))))) pB pss_nil) (pss_one (ps_ret (pe_dget (hu_of hr) (pe_fld (pv 0) rfl) (pv 1) (fun _ _ => rfl))))), ?_⟩
    have h1 := s0 _ _ h1
    have h2 := s0 _ _ h2
    obtain ⟨p, hp, rfl⟩ := as_in h3 hn
    have hv := valV_at (f := fun p : PN => p.2.name) (g := fun p : PN => V.ref p.1) (by rw [as_names h3]; exact c.nd) hp
    refine ⟨_, rfl, _, _, _, _, true, rfl, .ty _, .base (.str _), kit_ty (by decide +kernel), true, rfl, iteF ?_⟩
    refine ⟨_, rfl, _, rfl, a, _, _, _, _, rfl, h1, T.c_Program, T.n_Program_by_name, rfl, d, _, rfl, DGet.k (k := .inr p.2.name) h2, false, ?_, iteF ?_⟩
    · rw [hv]
      rfl
    · exact ⟨_, rfl, a, _, _, _, _, rfl, h1, T.c_Program, T.n_Program_by_name, rfl, _, rfl, d, _, rfl, by rw [← hv]; exact DGet.k (k := .inr p.2.name) h2, k p.1 (h4 p hp)⟩
/-- the fits told so far, their nodes seen in an earlier heap -/
def KnB (K : PySem.W.Frag) (Hb H : Hp) (kn : Addr) (pd : List ND) (ss : List Sh) (j : Nat) : Prop := ∃ fa : Nat → Addr, H kn = some (.dK (ctK pd (fun s => .ref (fa s)) j)) ∧ ∀ s, s < j → ∃ dx nd kn' c r g su, H (fa s) = some (.ins (A_Fit K) dx (ff nd kn' c r g (.ref su))) ∧ NdO K Hb nd (ndAt pd s) ∧ SumT K H su (ndAt pd s).out (shAt ss s).in0 (stAt ss s)
theorem KnB.kn {Hb H : Hp} {kn : Addr} {pd : List ND} {ss : List Sh} {j : Nat} (h : KnB K Hb H kn pd ss j) (s : Same Hb H) : KnO K H kn pd ss j := by
  obtain ⟨fa, h1, h2⟩ := h
  refine ⟨fa, h1, fun i hi => ?_⟩
  obtain ⟨dx, nd, kn', c, r, g, su, g1, g2, g3⟩ := h2 i hi
  exact ⟨dx, nd, kn', c, r, g, su, g1, g2.mono s, g3⟩
theorem KnB.mono {Hb H H' : Hp} {kn : Addr} {pd : List ND} {ss : List Sh} {j : Nat} (s : Same H H') (h : KnB K Hb H kn pd ss j) : KnB K Hb H' kn pd ss j := by
  obtain ⟨fa, h1, h2⟩ := h
  refine ⟨fa, s _ _ h1, fun i hi => ?_⟩
  obtain ⟨dx, nd, kn', c, r, g, su, g1, g2, g3⟩ := h2 i hi
  exact ⟨dx, nd, kn', c, r, g, su, s _ _ g1, g2, g3.mono s⟩
def spBegun (K : PySem.W.Frag) : Sp := fun vs H Q _ => ∃ (a : Addr) (pd : List ND) (ss : List Sh) (i0 : Nat) (n : ND), vs = [V.ref a, .str n.name] ∧ PgO K H a pd ∧ Shs pd ss ∧ pd[i0]? = some n ∧
  ∀ (f dx nd kn c r : Addr) (H0 H' : Hp), Same H H' → H' f = some (.ins (A_Fit K) dx (ff nd kn c r .non .non)) → H f = none → H0 f = none → Same H0 H' → Cur K H0 f dx nd kn pd ss i0 → Q (.ref f) H'
theorem ok_begun (T : Txt K mg) : FnOk P w K mg base CX0 14 (f_begun K) (fdAt K (f_begun K)) P_begun (spBegun K) := by
  refine FunD.ok T.F_begun sc_begun (fun vs H Q E h => ?_) (fun cdv A outer s H vs Q E hr h => ?_)
  · obtain ⟨a, pd, ss, i0, n, rfl, _⟩ := h
    rfl
  · obtain ⟨a, pd, ss, i0, n, rfl, pg, sh, hn, k⟩ := h
    refine ⟨_, PSs.nox (pss_cons (ps_expr (pe_meth (pv 0) T.c_Program T.m_Program_named (ok_namedB T) (hr.mono (by first | decide | omega)) T.b_Program_named .nil pass0 (pa_cons (pv 1) pa_nil))) (pss_cons (ps_set (i := 2) sc_begun.nd rfl (by first | exact Or.inl rfl | exact Or.inr rfl) pe_dnewK) (pss_cons (ps_for PassesOwn.never rfl (pi_list (pe_meth (pv 0) T.c_Program T.m_Program_below (ok_Program_below T) (hr.mono (by first | decide | omega)) T.b_Program_below .nil pass0 (pa_cons (pv 1) pa_nil))) (pg_name (i := 3) sc_begun.nd rfl (by first | exact Or.inl rfl | exact Or.inr rfl)) (pss_cons (ps_set (i := 4) sc_begun.nd rfl (by first | exact Or.inl rfl | exact Or.inr rfl) (pe_make T.mk_Fit (ok_Fit_init T) (hr.mono (by first | decide | omega)) rfl T.g_Fit T.b_Fit_init .nil pass0 (pa_cons (pe_meth (pv 0) T.c_Program T.m_Program_named (ok_namedB T) (hr.mono (by first | decide | omega)) T.b_Program_named .nil pass0 (pa_cons (pv 3) pa_nil)) (pa_cons (pv 2) pa_nil)))) (pss_cons (ps_expr (pe_meth0 (pv 4) T.c_Fit T.m_Fit_fit_clocks (ok_Fit_fit_clocks T) (hr.mono (by first | decide | omega)) T.b_Fit_fit_clocks .nil pass0)) (pss_cons (ps_expr (pe_meth0 (pv 4) T.c_Fit T.m_Fit_order (ok_Fit_order T) (hr.mono (by first | decide | omega)) T.b_Fit_order .nil pass0)) (pss_cons (ps_expr (pe_meth0 (pv 4) T.c_Fit T.m_Fit_summary (ok_sum0 T) (hr.mono (by first | decide | omega)) T.b_Fit_summary .nil pass0)) (pss_one (ps_dput (hu_of hr) (pv 2) (pv 3) (pv 4) rfl))))))) (pss_one (ps_ret (pe_make T.mk_Fit (ok_Fit_init T) (hr.mono (by first | decide | omega)) rfl T.g_Fit T.b_Fit_init .nil pass0 (pa_cons (pe_meth (pv 0) T.c_Program T.m_Program_named (ok_namedB T) (hr.mono (by first | decide | omega)) T.b_Program_named .nil pass0 (pa_cons (pv 1) pa_nil)) (pa_cons (pv 2) pa_nil)))))))), ?_⟩
    obtain ⟨c, dx, d, as, h1, h2, h3, h4⟩ := id pg
    have hi : i0 < pd.length := (List.getElem?_eq_some_iff.mp hn).1
    refine ⟨_, rfl, a, dx, _, rfl, h1, rfl, _, rfl, a, n, pd, H, rfl, Same.refl _, pg, List.mem_of_getElem? hn, fun b nb => ?_⟩
    intro Kd hKd
    have s1 : Same H (upd H Kd (.dK [])) := Same.new hKd
    refine ⟨_, rfl, a, dx, _, rfl, s1 _ _ h1, rfl, _, rfl, a, pd, i0, n, rfl, pg.mono s1, hn, fun l1 H1 s2 hl1 => ?_⟩
    have gK1 := s2 _ _ (upd_same (H := H) (a := Kd) (o := .dK []))
    have s02 := s1.trans s2
    have e1 : ((pd.take i0).map ND.name).map V.str = (List.range i0).map fun j => V.str (nmAt pd j) := by
      rw [take_names (by omega), List.map_map]
      rfl
    rw [e1] at hl1
    have n1K : l1 ≠ Kd := fun z => by
      rw [z, gK1] at hl1
      cases hl1
    refine ⟨l1, rfl, ⟨_, SqL.of hl1⟩, ?_⟩
    refine for_map (wm_list (List.range i0) fun j => V.str (nmAt pd j)) (fun pre σ H2 => Same H H2 ∧ H2 l1 = some (.lst ((List.range i0).map fun j => V.str (nmAt pd j))) ∧ (∃ x3 x4, σ = [some (.ref a), some (.str n.name), some (.ref Kd), x3, x4]) ∧ KnB K H H2 Kd pd ss pre.length)
      ⟨s02, hl1, ⟨_, _, rfl⟩, fun _ => 0, gK1, fun s hs => absurd hs (Nat.not_lt_zero _)⟩ (fun pre σ H2 q => SqL.of q.2.1) (fun pre j post σ H2 e q => ?_) (fun σ H2 q => ?_)
    · obtain ⟨s3, hl3, ⟨x3, x4, rfl⟩, kb⟩ := q
      obtain ⟨hj, _, hlt⟩ := range_pre e
      rw [← hj] at kb
      obtain ⟨m, hm⟩ := at_lt (pd := pd) (j := j) (by omega)
      have hmn := nmAt_some hm
      have hmp := List.mem_of_getElem? hm
      have hma := ndAt_some hm
      refine ⟨_, rfl, a, dx, _, rfl, s3 _ _ h1, rfl, _, rfl, a, m, pd, H, by rw [hmn]; rfl, s3, pg, hmp, fun b2 nb2 => ?_⟩
      refine ⟨_, rfl, fun f dxf hf hdf hne => ?_⟩
      refine ⟨f, b2, Kd, dxf, rfl, upd_same, fun cc rr H3 x3' f3 c3 r3 hcn hrn hcr => ⟨rfl, ?_⟩⟩
      have s4 : Same H2 H3 := new_same hf hdf x3'
      have C0 : Cur K H2 f dxf b2 Kd pd ss j := ⟨c, sh, by omega, kb.kn s3, by rw [hma]; exact nb2.mono s3⟩
      refine ⟨_, rfl, f, dxf, _, rfl, f3, rfl, f, dxf, b2, Kd, cc, rr, pd, ss, j, H2, rfl, f3, hf, s4, C0, fun c' r' gl gs cs rl H4 x4' f4 G4 cd4 R4 => ?_⟩
      have s5 : Same H2 H4 := SameX.of (SameX.trans (Same.x s4) x4') hf
      refine ⟨_, rfl, f, dxf, _, rfl, f4, rfl, f, dxf, b2, Kd, c', r', _, _, pd, ss, j, rl, rfl, f4, C0.mono s5, R4, fun v H5 s6 => ?_⟩
      have f5 := s6 _ _ f4
      refine ⟨_, rfl, f, dxf, _, rfl, f5, rfl, f, dxf, b2, Kd, c', r', gl, gs, pd, ss, j, cs, rl, rfl, f5, C0.mono (s5.trans s6), G4.mono s6, cd4.mono s6, R4.mono s6, fun su H6 x7 f7 S7 => ?_⟩
      have s7 : Same H2 H6 := SameX.of (SameX.trans (Same.x (s5.trans s6)) x7) hf
      have kb6 := kb.mono s7
      obtain ⟨fa, kb1, kb2⟩ := kb6
      have nfK : f ≠ Kd := fun z => by
        rw [z, kb1] at f7
        cases f7
      refine ⟨_, rfl, _, rfl, _, rfl, Kd, _, rfl, DPut.k (k := .inr (nmAt pd j)) kb1 (ctK_len c (by omega)), ?_⟩
      have x8 : SameX Kd H6 (upd H6 Kd (.dK (putK (ctK pd (fun s => .ref (fa s)) j) (.inr (nmAt pd j)) (.ref f)))) := SameX.upd2
      have n8 := SameX.nD x8 kb1
      have nlK : l1 ≠ Kd := n1K
      refine ⟨SameX.of (SameX.trans (Same.x (s3.trans s7)) x8) hKd, by rw [upd_ne nlK]; exact s7 _ _ hl3, ⟨_, _, rfl⟩, fun s => if s = j then f else fa s, ?_, fun s hs => ?_⟩
      · rw [upd_same, List.length_append, ← hj]
        have e9 : ctK pd (fun s => .ref (fa s)) j = ctK pd (fun s => V.ref (if s = j then f else fa s)) j := by
          unfold ctK
          apply List.map_congr_left
          intro s hs
          have := List.mem_range.mp hs
          show ((Sum.inr (nmAt pd s) : Key), V.ref (fa s)) = (Sum.inr (nmAt pd s), V.ref (if s = j then f else fa s))
          rw [if_neg (by omega)]
        rw [e9]
        have := ctK_put c (f := fun s => V.ref (if s = j then f else fa s)) (j := j) (by omega)
        rw [if_pos rfl] at this
        rw [this]
        rfl
      · rw [List.length_append, List.length_singleton, ← hj] at hs
        by_cases hsj : s = j
        · subst hsj
          dsimp only
          rw [if_pos rfl]
          exact ⟨dxf, b2, Kd, c', r', _, su, by rw [upd_ne nfK]; exact f7, by rw [hma]; exact nb2, S7.monoN n8⟩
        · dsimp only
          rw [if_neg hsj]
          obtain ⟨dx', nd', kn', c'', r'', g'', su', g1, g2, g3⟩ := kb2 s (by omega)
          have : fa s ≠ Kd := fun z => by
            rw [z, kb1] at g1
            cases g1
          exact ⟨dx', nd', kn', c'', r'', g'', su', by rw [upd_ne this]; exact g1, g2, g3.monoN n8⟩
    · obtain ⟨s3, hl3, ⟨x3, x4, rfl⟩, kb⟩ := q
      rw [List.length_range] at kb
      refine ⟨_, rfl, a, dx, _, rfl, s3 _ _ h1, rfl, _, rfl, a, n, pd, H, rfl, s3, pg, List.mem_of_getElem? hn, fun b2 nb2 => ?_⟩
      refine ⟨_, rfl, fun f dxf hf hdf hne => ?_⟩
      refine ⟨f, b2, Kd, dxf, rfl, upd_same, fun cc rr H3 x3' f3 c3 r3 hcn hrn hcr => ⟨rfl, ?_⟩⟩
      have s4 : Same H2 H3 := new_same hf hdf x3'
      exact k f dxf b2 Kd cc rr H2 H3 (s3.trans s4) f3 (s3.free hf) hf s4 ⟨c, sh, hi, kb.kn s3, by rw [ndAt_some hn]; exact nb2.mono s3⟩
def spFitted (K : PySem.W.Frag) : Sp := fun vs H Q _ => ∃ (a : Addr) (pd : List ND) (ss : List Sh) (i0 : Nat) (n : ND), vs = [V.ref a, .str n.name] ∧ PgO K H a pd ∧ Shs pd ss ∧ pd[i0]? = some n ∧
  ∀ (f dx nd kn c r gl : Addr) (gs : List PG2) (cs rl : List PS1) (H' : Hp), Same H H' → H f = none → H' f = some (.ins (A_Fit K) dx (ff nd kn c r (.ref gl) .non)) → Cur K H' f dx nd kn pd ss i0 → GL K H' gl gs (ndAt pd i0).gifts → ClD K H' c cs (ndAt pd i0).names → RdD K H' r rl (ndAt pd i0).names ((ndAt pd i0).reads (stAt ss (i0 - 1))) → Q (.ref f) H'
theorem ok_fitted (T : Txt K mg) : FnOk P w K mg base CX0 16 (f_fitted K) (fdAt K (f_fitted K)) P_fitted (spFitted K) := by
  refine FunD.ok T.F_fitted sc_fitted (fun vs H Q E h => ?_) (fun cdv A outer s H vs Q E hr h => ?_)
  · obtain ⟨a, pd, ss, i0, n, rfl, _⟩ := h
    rfl
  · obtain ⟨a, pd, ss, i0, n, rfl, pg, sh, hn, k⟩ := h
    refine ⟨_, PSs.nox (pss_cons (ps_set (i := 2) sc_fitted.nd rfl (by first | exact Or.inl rfl | exact Or.inr rfl) (pe_call (ok_begun T) (hr.mono (by first | decide | omega)) (by rfl) T.g_begun T.F_begun.kp T.b_begun .nil pass0 (pa_cons (pv 0) (pa_cons (pv 1) pa_nil)))) (pss_cons (ps_expr (pe_meth0 (pv 2) T.c_Fit T.m_Fit_fit_clocks (ok_Fit_fit_clocks T) (hr.mono (by first | decide | omega)) T.b_Fit_fit_clocks .nil pass0)) (pss_one (ps_ret (pv 2))))), ?_⟩
    refine ⟨_, rfl, _, rfl, a, pd, ss, i0, n, rfl, pg, sh, hn, fun f dx nd kn c r H0 H1 s1 f1 hf h0 s0 C0 => ?_⟩
    refine ⟨_, rfl, f, dx, _, rfl, f1, rfl, f, dx, nd, kn, c, r, pd, ss, i0, H0, rfl, f1, h0, s0, C0, fun c' r' gl gs cs rl H2 x2 f2 G2 cd2 R2 => ?_⟩
    exact ⟨_, rfl, k f dx nd kn c' r' gl gs cs rl H2 (SameX.of (SameX.trans (Same.x s1) x2) hf) hf f2 (C0.mono (SameX.of (SameX.trans (Same.x s0) x2) h0)) G2 cd2 R2⟩
def spSummaryOf (K : PySem.W.Frag) : Sp := fun vs H Q _ => ∃ (a : Addr) (pd : List ND) (ss : List Sh) (i0 : Nat) (n : ND), vs = [V.ref a, .str n.name] ∧ PgO K H a pd ∧ Shs pd ss ∧ pd[i0]? = some n ∧
  ∀ su H', Same H H' → SumT K H' su n.out (shAt ss i0).in0 (stAt ss i0) → Q (.ref su) H'
theorem ok_summary_of (T : Txt K mg) : FnOk P w K mg base CX0 18 (f_summary_of K) (fdAt K (f_summary_of K)) P_summary_of (spSummaryOf K) := by
  refine FunD.ok T.F_summary_of sc_summary_of (fun vs H Q E h => ?_) (fun cdv A outer s H vs Q E hr h => ?_)
  · obtain ⟨a, pd, ss, i0, n, rfl, _⟩ := h
    rfl
  · obtain ⟨a, pd, ss, i0, n, rfl, pg, sh, hn, k⟩ := h
    refine ⟨_, PSs.nox (pss_cons (ps_set (i := 2) sc_summary_of.nd rfl (by first | exact Or.inl rfl | exact Or.inr rfl) (pe_call (ok_fitted T) (hr.mono (by first | decide | omega)) (by rfl) T.g_fitted T.F_fitted.kp T.b_fitted .nil pass0 (pa_cons (pv 0) (pa_cons (pv 1) pa_nil)))) (pss_cons (ps_expr (pe_meth0 (pv 2) T.c_Fit T.m_Fit_order (ok_Fit_order T) (hr.mono (by first | decide | omega)) T.b_Fit_order .nil pass0)) (pss_one (ps_ret (pe_meth0 (pv 2) T.c_Fit T.m_Fit_summary (ok_sum0 T) (hr.mono (by first | decide | omega)) T.b_Fit_summary .nil pass0))))), ?_⟩
    refine ⟨_, rfl, _, rfl, a, pd, ss, i0, n, rfl, pg, sh, hn, fun f dx nd kn c r gl gs cs rl H1 s1 hf f1 C1 G1 cd1 R1 => ?_⟩
    refine ⟨_, rfl, f, dx, _, rfl, f1, rfl, f, dx, nd, kn, c, r, _, _, pd, ss, i0, rl, rfl, f1, C1, R1, fun v H2 s2 => ?_⟩
    have f2 := s2 _ _ f1
    refine ⟨_, rfl, f, dx, _, rfl, f2, rfl, f, dx, nd, kn, c, r, gl, gs, pd, ss, i0, cs, rl, rfl, f2, C1.mono s2, G1.mono s2, cd1.mono s2, R1.mono s2, fun su H3 x3 f3 S3 => ?_⟩
    refine k su H3 (SameX.of (SameX.trans (Same.x (s1.trans s2)) x3) hf) ?_
    rw [ndAt_some hn] at S3
    exact S3
end
end K99
/-! K35 -/
namespace K99
open PySem PySem.Spec PyProof.Rows L2
/-! ### rows with other names -/
def Rw.ren (f : Str → Str) : Rw → Rw
  | .bef x v a => .bef (f x) v (f a)
  | .call x c a k => .call (f x) c (f a) k
  | .pln x t => .pln (f x) (t.map f)
theorem Rw.ren_tell (f : Str → Str) (r : Rw) : (r.ren f).tell = f r.tell := by
  cases r <;> rfl
theorem Rw.ren_call (f : Str → Str) (r : Rw) : (r.ren f).isCall = r.isCall := by
  cases r <;> rfl
theorem Rw.ren_ments (f : Str → Str) (r : Rw) : (r.ren f).ments = r.ments.map f := by
  cases r with
  | bef x v a => rfl
  | call x c a k => rfl
  | pln x t => exact Tm.map_nms t
section
variable {P : Program} {w : World} {K : PySem.W.Frag} {mg : Str → Option Value} {base : Heap}
def spNewName : Sp := fun vs H Q _ => ∃ d kvs x y, vs = [V.ref d, .str x] ∧ H d = some (.dK kvs) ∧ valV kvs (.inr x) = some (.str y) ∧ Ptd y ∧ ∀ H', Same H H' → Q (.str y) H'
theorem ok_new_name (T : Txt K mg) : FnOk P w K mg base CX0 4 (f_new_name K) (fdAt K (f_new_name K)) P_new_name (spNewName) := by
  refine FunD.ok T.F_new_name sc_new_name (fun vs H Q E h => ?_) (fun cdv A outer s H vs Q E hr h => ?_)
  · obtain ⟨d, kvs, x, y, rfl, _⟩ := h
    rfl
  · obtain ⟨d, kvs, x, y, rfl, h1, h2, h3, k⟩ := h
    refine ⟨_, PSs.nox (pss_cons (ps_if (pt_cmp (pc_dnotin (hu_of hr) (pv 1) (pv 0))) pB pss_nil) (pss_cons (ps_if (pt_not (pt_val (pe_call (ok_is_pointed T) (hr.mono (by first | decide | omega)) (by rfl) T.g_is_pointed T.F_is_pointed.kp T.b_is_pointed .nil pass0 (pa_cons (pe_dget (hu_of hr) (pv 0) (pv 1) (fun _ _ => rfl)) pa_nil)))) pB pss_nil) (pss_one (ps_ret (pe_dget (hu_of hr) (pv 0) (pv 1) (fun _ _ => rfl)))))), ?_⟩
    refine ⟨_, rfl, _, rfl, d, _, rfl, DGet.k (k := .inr x) h1, false, ?_, iteF ?_⟩
    · rw [h2]
      rfl
    refine ⟨_, rfl, _, rfl, d, _, rfl, by rw [← h2]; exact DGet.k (k := .inr x) h1, ⟨y, rfl, h3, fun H1 s1 => ⟨true, rfl, iteF ?_⟩⟩⟩
    exact ⟨_, rfl, _, rfl, d, _, rfl, by rw [← h2]; exact DGet.k (k := .inr x) (s1 _ _ h1), k H1 s1⟩
/-- what a dict of names says of the names of a row -/
def RenK (kvs : List (Key × V)) (f : Str → Str) (r : Rw) : Prop := ∀ x, x = r.tell ∨ x ∈ r.ments → valV kvs (.inr x) = some (.str (f x))
def spPut (K : PySem.W.Frag) (f : Str → Str) (r : Rw) : Sp := fun vs H Q _ => ∃ a d kvs, vs = [V.ref a, .ref d] ∧ EqO K H a r ∧ (r.ren f).oks ∧ H d = some (.dK kvs) ∧ RenK kvs f r ∧ ∀ b H', Same H H' → RwD K H' b (r.ren f) → Q (.ref b) H'
theorem ok_Equation_put (T : Txt K mg) (f : Str → Str) (x : Str) (v : Int) (b : Str) : FnOk P w K mg base CX0 4 (f_Equation_put_otherwise K) (fdAt K (f_Equation_put_otherwise K)) P_Equation_put_otherwise (spPut K f (.bef x v b)) := by
  refine FunD.ok T.F_Equation_put_otherwise sc_Equation_put_otherwise (fun vs H Q E h => ?_) (fun cdv A outer s H vs Q E hr h => ?_)
  · obtain ⟨a, d, kvs, rfl, _⟩ := h
    rfl
  · obtain ⟨a, d, kvs, rfl, ⟨t, h1, dx, h2⟩, ok, h3, h4, k⟩ := h
    have h1 : SqT K H t [.str "before", .str x, .int v, .str b] := h1
    refine ⟨_, PSs.nox (pss_one (ps_ret (pe_op op_catA (pe_slice sl_tupA (pe_fld (pv 0) rfl) po_none (po_some pe_int)) (pe_tup (pa_cons (pe_dget (hu_of hr) (pv 1) (pe_ix ix_tup (pe_fld (pv 0) rfl) pe_int (fun _ _ => rfl)) (fun _ _ => rfl)) (pa_cons (pe_ix ix_tup (pe_fld (pv 0) rfl) pe_int (fun _ _ => rfl)) (pa_cons (pe_dget (hu_of hr) (pv 1) (pe_ix ix_tup (pe_fld (pv 0) rfl) pe_int (fun _ _ => rfl)) (fun _ _ => rfl)) pa_nil))))))), ?_⟩
    have v1 := h4 x (.inl rfl)
    have v2 := h4 b (.inr (List.mem_cons_self ..))
    refine ⟨_, rfl, a, _, dx, _, _, rfl, h2, T.c_Before, T.n_Before_told_row, rfl, 1, rfl, t, _, rfl, h1, fun e => absurd e.2 (by show ¬ HT.sIx 4 4 (some 1) = 4; decide), fun _ p hp => ?_⟩
    have s1 : Same H (upd H p (.tup (cutV [.str "before", .str x, .int v, .str b] none (some 1)))) := Same.new hp
    have g1 : SqT K (upd H p (.tup (cutV [.str "before", .str x, .int v, .str b] none (some 1)))) p [.str "before"] := SqT.of upd_same
    generalize upd H p (.tup (cutV [.str "before", .str x, .int v, .str b] none (some 1))) = H1 at s1 g1 ⊢
    refine ⟨_, rfl, _, rfl, a, _, dx, _, _, rfl, s1 _ _ h2, T.c_Before, T.n_Before_told_row, rfl, t, _, 1, _, rfl, rfl, Same.sqt s1 h1, rfl, d, _, rfl, by rw [← v1]; exact DGet.k (k := .inr x) (s1 _ _ h3), ?_⟩
    refine ⟨_, rfl, a, _, dx, _, _, rfl, s1 _ _ h2, T.c_Before, T.n_Before_told_row, rfl, t, _, 2, _, rfl, rfl, Same.sqt s1 h1, rfl, ?_⟩
    refine ⟨_, rfl, _, rfl, a, _, dx, _, _, rfl, s1 _ _ h2, T.c_Before, T.n_Before_told_row, rfl, t, _, 3, _, rfl, rfl, Same.sqt s1 h1, rfl, d, _, rfl, by rw [← v2]; exact DGet.k (k := .inr b) (s1 _ _ h3), ?_⟩
    refine ⟨sz (n := 3) (by decide), fun q hq => ?_⟩
    have s2 : Same H1 (upd H1 q (.tup [.str (f x), .int v, .str (f b)])) := Same.new hq
    refine ⟨p, q, _, _, rfl, rfl, Same.sqt s2 g1, SqT.of upd_same, sz (n := 4) (by decide), fun e => (by cases e), fun _ e => (by cases e), fun _ _ z hz => ?_⟩
    exact k z _ (s1.trans (s2.trans (Same.new hz))) (SqT.of upd_same)
theorem ok_Plain_put (T : Txt K mg) (f : Str → Str) (x : Str) (t : Tm) : FnOk P w K mg base CX0 25 (f_Plain_put_otherwise K) (fdAt K (f_Plain_put_otherwise K)) P_Plain_put_otherwise (spPut K f (.pln x t)) := by
  refine FunD.ok T.F_Plain_put_otherwise sc_Plain_put_otherwise (fun vs H Q E h => ?_) (fun cdv A outer s H vs Q E hr h => ?_)
  · obtain ⟨a, d, kvs, rfl, _⟩ := h
    rfl
  · obtain ⟨a, d, kvs, rfl, ⟨r, ⟨u, h1, h1'⟩, dx, c, h2, h5⟩, ok, h3, h4, k⟩ := h
    have ht : t.dep ≤ 5 := by
      have := ok.more
      have h : (t.map f).dep ≤ 5 := this
      rwa [Tm.map_dep] at h
    have hft : ∀ y, y ∈ t.nms → Ptd (f y) := fun y hy => ok.ment _ (by rw [Rw.ren_ments]; exact List.mem_map_of_mem hy)
    refine ⟨_, PSs.nox (pss_one (ps_ret (pe_tup (pa_cons pe_str (pa_cons (pe_dget (hu_of hr) (pv 1) (pe_ix ix_tup (pe_fld (pv 0) rfl) pe_int (fun _ _ => rfl)) (fun _ _ => rfl)) (pa_cons (pe_um0 (p := fun d : Tm => d.dep ≤ 5) (fun d hd => mo_told T 5 d hd) (pe_um (p := fun d : Tm => d.dep ≤ 5) (fun d hd => mo_renamed T f 5 d hd (Nat.le_refl _)) (pe_fld (pv 0) rfl) (hr.mono (by first | decide | omega)) pass0 (pa_cons (pv 1) pa_nil)) (hr.mono (by first | decide | omega)) pass0) pa_nil)))))), ?_⟩
    have v1 := h4 x (.inl rfl)
    refine ⟨_, rfl, _, rfl, a, _, dx, _, _, rfl, h2, T.c_Plain, T.n_Plain_told_row, rfl, r, _, 1, _, rfl, rfl, h1, rfl, d, _, rfl, by rw [← v1]; exact DGet.k (k := .inr x) h3, ?_⟩
    refine ⟨t.map f, by show (t.map f).dep ≤ 5; rw [Tm.map_dep]; exact ht, t, ht, ⟨_, rfl, a, _, dx, _, _, rfl, h2, T.c_Plain, T.n_Plain_kept_term, rfl, c, rfl, h5, ?_⟩⟩
    refine ⟨_, rfl, c, d, kvs, rfl, h5, h3, fun y hy => ⟨h4 y (.inr hy), hft y hy⟩, fun b H1 s1 o1 => ?_⟩
    refine ⟨b, rfl, o1, b, rfl, o1, fun g H2 s2 d2 => ?_⟩
    refine ⟨sz (n := 3) (by decide), fun z hz => ?_⟩
    exact k z _ ((s1.trans s2).trans (Same.new hz)) ⟨g, SqT.of upd_same, d2.mono (Same.new hz)⟩
theorem me_put (T : Txt K mg) (f : Str → Str) (r : Rw) (h : r.isCall = false) : MO P w K mg base CX0 (EqB K) "put_otherwise" 25 r (spPut K f r) := by
  cases r with
  | bef x v b => exact ⟨_, _, _, _, T.c_Before, T.m_Before_put_otherwise, (ok_Equation_put T f _ _ _).mono (by decide), T.b_Equation_put_otherwise, fun H a h => eo_meth h (by decide) (by decide)⟩
  | call x c b k => cases h
  | pln x t => exact ⟨_, _, _, _, T.c_Plain, T.m_Plain_put_otherwise, ok_Plain_put T f _ _, T.b_Plain_put_otherwise, fun H a h => eo_meth h (by decide) (by decide)⟩
end
end K99
/-! K36 -/
namespace K99
open PySem PySem.Spec PyProof.Rows L2
theorem valV_id {xs : List Str} {f : Str → Str} (h : xs.Nodup) {x : Str} (hx : x ∈ xs) : valV (xs.map fun x => ((Sum.inr x : Key), V.str (f x))) (.inr x) = some (.str (f x)) := valV_at (f := fun x : Str => x) (g := fun x => V.str (f x)) (by rw [List.map_id']; exact h) hx
theorem valV_idn {xs : List Str} {f : Str → Str} {x : Str} (hx : x ∉ xs) : valV (xs.map fun x => ((Sum.inr x : Key), V.str (f x))) (.inr x) = none := valV_no (f := fun x : Str => x) (g := fun x => V.str (f x)) (by rw [List.map_id']; exact hx)
section
variable {P : Program} {w : World} {K : PySem.W.Frag} {mg : Str → Option Value} {base : Heap}
def spRn (K : PySem.W.Frag) (f : Str → Str) (r : Rw) : Sp := fun vs H Q _ => ∃ a d kvs, vs = [V.ref a, .ref d] ∧ EqO K H a r ∧ r.oks ∧ (r.tell :: r.ments).Nodup ∧ r.ments.length ≤ 100 ∧ (r.ren f).oks ∧ H d = some (.dK kvs) ∧ RenK kvs f r ∧ ∀ b H', Same H H' → EqO K H' b (r.ren f) → Q (.ref b) H'
theorem ok_Equation_renamed (T : Txt K mg) (f : Str → Str) (r : Rw) (hc : r.isCall = false) : FnOk P w K mg base CX0 50 (f_Equation_renamed K) (fdAt K (f_Equation_renamed K)) P_Equation_renamed (spRn K f r) := by
  refine FunD.ok T.F_Equation_renamed sc_Equation_renamed (fun vs H Q E h => ?_) (fun cdv A outer s H vs Q E hr h => ?_)
  · obtain ⟨a, d, kvs, rfl, _⟩ := h
    rfl
  · obtain ⟨a, d, kvs, rfl, e0, ok, nd, hz, okf, h3, h4, k⟩ := h
    refine ⟨_, PSs.nox (pss_cons (ps_set (i := 2) sc_Equation_renamed.nd rfl (by first | exact Or.inl rfl | exact Or.inr rfl) pe_dnewK) (pss_cons (ps_for PassesOwn.never rfl (pi_list (pe_op op_cat (pe_um0 (p := fun _ => True) (fun d _ => me_tells T d) (pv 0) (hr.mono (by first | decide | omega)) pass0) (pe_um0 (p := fun _ => True) (fun d _ => me_names T d) (pv 0) (hr.mono (by first | decide | omega)) pass0))) (pg_name (i := 3) sc_Equation_renamed.nd rfl (by first | exact Or.inl rfl | exact Or.inr rfl)) (pss_one (ps_dput (hu_of hr) (pv 2) (pv 3) (pe_call (ok_new_name T) (hr.mono (by first | decide | omega)) (by rfl) T.g_new_name T.F_new_name.kp T.b_new_name .nil pass0 (pa_cons (pv 1) (pa_cons (pv 3) pa_nil))) rfl))) (pss_one (ps_ret (pe_call (ok_equation_of T (r.ren f)) (hr.mono (by first | decide | omega)) (by rfl) T.g_equation_of T.F_equation_of.kp T.b_equation_of .nil pass0 (pa_cons (pe_um (p := fun r : Rw => r.isCall = false) (fun r hc => me_put T f r hc) (pv 0) (hr.mono (by first | decide | omega)) pass0 (pa_cons (pv 2) pa_nil)) pa_nil)))))), ?_⟩
    intro F hF
    have s1 : Same H (upd H F (.dK [])) := Same.new hF
    have g1 : upd H F (.dK []) F = some (.dK []) := upd_same
    generalize upd H F (.dK []) = H1 at s1 g1 ⊢
    refine ⟨r, trivial, _, rfl, a, rfl, e0.mono s1, a, rfl, e0.mono s1, fun l1 H2 s2 hl1 => ?_⟩
    refine ⟨r, trivial, _, rfl, a, rfl, e0.mono (s1.trans s2), a, rfl, e0.mono (s1.trans s2), ok, fun l2 H3 s3 hl2 => ?_⟩
    refine ⟨l1, l2, _, _, rfl, rfl, s3 _ _ hl1, hl2, ?_, fun l3 hl3 => ?_⟩
    · rw [List.length_map]
      exact sz (by show 1 + r.ments.length ≤ _; omega)
    have e1 : [V.str r.tell] ++ r.ments.map .str = (r.tell :: r.ments).map .str := rfl
    rw [e1]
    have s4 : Same H3 (upd H3 l3 (.lst ((r.tell :: r.ments).map .str))) := Same.new hl3
    have g4 : upd H3 l3 (.lst ((r.tell :: r.ments).map .str)) l3 = some (.lst ((r.tell :: r.ments).map .str)) := upd_same
    have gF : upd H3 l3 (.lst ((r.tell :: r.ments).map .str)) F = some (.dK []) := s4 _ _ (s3 _ _ (s2 _ _ g1))
    have s04 : Same H (upd H3 l3 (.lst ((r.tell :: r.ments).map .str))) := s1.trans (s2.trans (s3.trans s4))
    generalize upd H3 l3 (.lst ((r.tell :: r.ments).map .str)) = H4 at s4 g4 gF s04 ⊢
    have nF : l3 ≠ F := fun e => by
      subst e
      rw [gF] at g4
      cases g4
    refine ⟨l3, rfl, ⟨_, SqL.of g4⟩, ?_⟩
    refine for_map (wm_list (r.tell :: r.ments) V.str) (fun pre σ H5 => Same H H5 ∧ SameX F H4 H5 ∧ (∃ x, σ = [some (.ref a), some (.ref d), some (.ref F), x]) ∧ H5 F = some (.dK (pre.map fun x => ((Sum.inr x : Key), V.str (f x)))))
      ⟨s04, SameX.refl _ _, ⟨_, rfl⟩, gF⟩ (fun pre σ H5 q => SqL.of (q.2.1 _ _ nF g4)) (fun pre x post σ H5 e q => ?_) (fun σ H5 q => ?_)
    · obtain ⟨s5, x5, ⟨y, rfl⟩, gF5⟩ := q
      have hx : x ∈ r.tell :: r.ments := by
        rw [e]
        simp
      have hx' := List.mem_cons.mp hx
      have hfx : Ptd (f x) := by
        rcases hx' with rfl | hx'
        · have := okf.tell
          rwa [Rw.ren_tell] at this
        · exact okf.ment _ (by rw [Rw.ren_ments]; exact List.mem_map_of_mem hx')
      have hnew : x ∉ pre := fun hp => by
        rw [e] at nd
        exact (List.nodup_append.mp nd).2.2 x hp x (List.mem_cons_self ..) rfl
      have hlen : pre.length ≤ 100 := by
        have := congrArg List.length e
        simp at this
        omega
      refine ⟨_, rfl, _, rfl, d, kvs, x, f x, rfl, s5 _ _ h3, h4 x hx', hfx, fun H6 s6 => ?_⟩
      refine ⟨_, rfl, _, rfl, F, _, rfl, DPut.k (k := .inr x) (s6 _ _ gF5) ?_, ?_, ?_, ⟨_, rfl⟩, ?_⟩
      · rw [List.length_map]
        exact szl (by omega)
      · exact SameX.of (SameX.put (Same.x (s5.trans s6))) hF
      · exact SameX.put (SameX.trans x5 (Same.x s6))
      · rw [upd_same, putK_new _ (valV_idn hnew), List.map_append]
        rfl
    · obtain ⟨s5, x5, ⟨y, rfl⟩, gF5⟩ := q
      refine ⟨r, hc, _, rfl, a, rfl, e0.mono s5, ⟨_, rfl, a, F, _, rfl, e0.mono s5, okf, gF5, fun x hx => valV_id nd (List.mem_cons.mpr hx), fun b H6 s6 d6 => ?_⟩⟩
      exact ⟨b, rfl, d6, okf, fun b' H7 s7 e7 => k b' H7 (s5.trans (s6.trans s7)) e7⟩
theorem me_renamed (T : Txt K mg) (f : Str → Str) (r : Rw) (h : r.isCall = false) : MO P w K mg base CX0 (EqB K) "renamed" 50 r (spRn K f r) := by
  cases r with
  | bef x v b => exact ⟨_, _, _, _, T.c_Before, T.m_Before_renamed, ok_Equation_renamed T f _ h, T.b_Equation_renamed, fun H a h => eo_meth h (by decide) (by decide)⟩
  | call x c b k => cases h
  | pln x t => exact ⟨_, _, _, _, T.c_Plain, T.m_Plain_renamed, ok_Equation_renamed T f _ h, T.b_Equation_renamed, fun H a h => eo_meth h (by decide) (by decide)⟩
end
end K99
/-! K37 -/
namespace K99
open PySem PySem.Spec PyProof.Rows L2
/-! ### names with points -/
def dot (x y : Str) : Str := x ++ "." ++ y
theorem dot_tl (x y : Str) : TL.tl (dot x y) = TL.tl x ++ 46 :: TL.tl y := by
  unfold dot
  rw [TL.tl_append, TL.tl_append, List.append_assoc]
  rfl
theorem dot_has (x y : Str) : 46 ∈ TL.tl (dot x y) := by
  rw [dot_tl]
  simp
theorem cut_eq {c : Nat} : ∀ {a b u v : List Nat}, c ∉ a → c ∉ b → a ++ c :: u = b ++ c :: v → a = b ∧ u = v
  | [], [], _, _, _, _, e => ⟨rfl, (List.cons.inj e).2⟩
  | [], _ :: _, _, _, _, h, e => absurd (List.mem_cons.mpr (.inl (List.cons.inj e).1)) h
  | _ :: _, [], _, _, h, _, e => absurd (List.mem_cons.mpr (.inl (List.cons.inj e).1.symm)) h
  | x :: a, y :: b, _, _, h1, h2, e => by
    obtain ⟨e1, e2⟩ := List.cons.inj e
    obtain ⟨h3, h4⟩ := cut_eq (fun h => h1 (List.mem_cons_of_mem _ h)) (fun h => h2 (List.mem_cons_of_mem _ h)) e2
    exact ⟨by rw [e1, h3], h4⟩
theorem dot_inj {x y x' y' : Str} (h1 : 46 ∉ TL.tl x) (h2 : 46 ∉ TL.tl x') (e : dot x y = dot x' y') : x = x' ∧ y = y' := by
  have := congrArg TL.tl e
  rw [dot_tl, dot_tl] at this
  obtain ⟨h3, h4⟩ := cut_eq h1 h2 this
  exact ⟨TL.ext_tl h3, TL.ext_tl h4⟩
/-- of at most k parts -/
def PtJ (k : Nat) (y : Str) : Prop := ∃ ps : List Str, ps ≠ [] ∧ ps.length ≤ k ∧ (∀ p ∈ ps, Nm p) ∧ y = Txt.join "." ps
theorem PtJ.of {x : Str} (N : Nm x) : PtJ 1 x := ⟨[x], by simp, Nat.le_refl _, fun p hp => by rcases List.mem_singleton.mp hp with rfl; exact N, rfl⟩
theorem PtJ.up {k l : Nat} {y : Str} (h : k ≤ l) (p : PtJ k y) : PtJ l y := by
  obtain ⟨ps, h1, h2, h3, h4⟩ := p
  exact ⟨ps, h1, by omega, h3, h4⟩
theorem PtJ.dot {k : Nat} {x y : Str} (N : Nm x) (p : PtJ k y) : PtJ (k + 1) (dot x y) := by
  obtain ⟨ps, h1, h2, h3, rfl⟩ := p
  refine ⟨x :: ps, by simp, by simp; omega, fun p hp => ?_, ?_⟩
  · rcases List.mem_cons.mp hp with rfl | hp
    · exact N
    · exact h3 p hp
  · cases ps with
    | nil => exact absurd rfl h1
    | cons p r =>
      rw [TL.join_eq, TL.join_eq]
      rfl
theorem join_facts : ∀ {ps : List Str}, ps ≠ [] → (∀ p ∈ ps, Nm p) → (TL.tl (Str.join "." ps)).length + 1 ≤ 9 * ps.length ∧ ∀ c ∈ TL.tl (Str.join "." ps), c < 0x110000
  | [], h, _ => absurd rfl h
  | [x], _, h => by
    have N := h x (List.mem_cons_self ..)
    have h1 := N.hi
    rw [TL.len_tl] at h1
    refine ⟨by show (TL.tl x).length + 1 ≤ 9; omega, fun c hc => ?_⟩
    have := nm_sok N
    exact of_decide_eq_true (List.all_eq_true.mp (by rw [← Array.all_toList] at this; exact this) c hc)
  | x :: y :: r, _, h => by
    have N := h x (List.mem_cons_self ..)
    obtain ⟨a1, a2⟩ := join_facts (ps := y :: r) (by simp) fun p hp => h p (List.mem_cons_of_mem _ hp)
    have e : TL.tl (Str.join "." (x :: y :: r)) = TL.tl x ++ 46 :: TL.tl (Str.join "." (y :: r)) := dot_tl _ _
    have h1 := N.hi
    rw [TL.len_tl] at h1
    rw [e]
    refine ⟨?_, fun c hc => ?_⟩
    · rw [List.length_append, List.length_cons]
      rw [List.length_cons] at a1 ⊢
      rw [List.length_cons]
      omega
    · rcases List.mem_append.mp hc with hc | hc
      · have := nm_sok N
        exact of_decide_eq_true (List.all_eq_true.mp (by rw [← Array.all_toList] at this; exact this) c hc)
      · rcases List.mem_cons.mp hc with rfl | hc
        · decide
        · exact a2 c hc
theorem PtJ.ptd {k : Nat} {y : Str} (hk : k ≤ 8) (p : PtJ k y) : Ptd y := by
  obtain ⟨ps, h1, h2, h3, rfl⟩ := p
  obtain ⟨a1, a2⟩ := join_facts h1 h3
  rw [← TL.join_eq] at a1 a2
  exact ⟨by rw [TL.len_tl]; omega, by rw [← Array.all_toList]; exact List.all_eq_true.mpr fun c hc => decide_eq_true (a2 c hc), ps, h1, by omega, h3, rfl⟩
/-! ### the rows of a node without calls -/
def rho (m : ND) (a x y : Str) : Str := if y ∈ m.ins then a else if y = m.out then x else dot x y
def outR (m : ND) (fl : List Rw) : Rw → List Rw
  | .call x _ a _ => fl.map (Rw.ren (rho m a x))
  | r => [r]
def flat (pd : List ND) : Nat → List Rw
  | 0 => (ndAt pd 0).rows.flatMap (outR (ndAt pd 0) [])
  | j + 1 => (ndAt pd (j + 1)).rows.flatMap (outR (ndAt pd j) (flat pd j))
def Rw.mr : Rw → Prop
  | .bef _ v _ => -1000000000 ≤ v ∧ v ≤ 1000000000
  | .call _ c _ k => Nm c ∧ 1 ≤ k ∧ k ≤ 2
  | .pln _ t => t.dep ≤ 5
/-- what is known of them -/
structure FI (k : Nat) (n : ND) (in0 : Str) (fl : List Rw) : Prop where
  inn : in0 ∈ n.ins
  nd : (n.ins ++ fl.map Rw.tell).Nodup
  out : n.out ∈ fl.map Rw.tell
  pt : ∀ y, y ∈ fl.map Rw.tell → PtJ k y
  plain : ∀ r, r ∈ fl → r.isCall = false
  ment : ∀ r, r ∈ fl → ∀ y, y ∈ r.ments → y = in0 ∨ y ∈ fl.map Rw.tell
  rnd : ∀ r, r ∈ fl → (r.tell :: r.ments).Nodup
  more : ∀ r, r ∈ fl → r.mr
theorem Rw.ren_more {f : Str → Str} {r : Rw} (h : r.mr) : (r.ren f).mr := by
  cases r with
  | bef x v a => exact h
  | call x c a k => exact h
  | pln x t =>
    show (t.map f).dep ≤ 5
    rw [Tm.map_dep]
    exact h
theorem Rw.oks_mr {r : Rw} (h : r.oks) : r.mr := by
  have := h.more
  cases r with
  | bef x v a => exact this
  | call x c a k => exact this
  | pln x t => exact this
theorem Rw.mr_oks {r : Rw} (h1 : Ptd r.tell) (h2 : ∀ x, x ∈ r.ments → Ptd x) (h3 : r.ments.Nodup) (h : r.mr) : r.oks := by
  cases r with
  | bef x v a => exact ⟨h1, h2, h3, h⟩
  | call x c a k => exact ⟨h1, h2, h3, h⟩
  | pln x t => exact ⟨h1, h2, h3, h⟩
theorem FI.oks {k : Nat} {n : ND} {in0 : Str} {fl : List Rw} (h : FI k n in0 fl) (hk : k ≤ 8) (hp : Ptd in0) {r : Rw} (hr : r ∈ fl) : r.oks := by
  refine Rw.mr_oks ((h.pt _ (List.mem_map_of_mem hr)).ptd hk) (fun y hy => ?_) (List.nodup_cons.mp (h.rnd r hr)).2 (h.more r hr)
  rcases h.ment r hr y hy with rfl | hm
  · exact hp
  · exact (h.pt y hm).ptd hk
/-- the new names of the told ones -/
def sig (m : ND) (x y : Str) : Str := if y = m.out then x else dot x y
section
variable {k : Nat} {m n : ND} {i0 : Str} {fl : List Rw} {s : Sh}
theorem FI.rho_in (h : FI k m i0 fl) {a x : Str} : rho m a x i0 = a := if_pos h.inn
theorem FI.rho_tell (h : FI k m i0 fl) {a x y : Str} (hy : y ∈ fl.map Rw.tell) : rho m a x y = sig m x y := if_neg fun hi => (List.nodup_append.mp h.nd).2.2 y hi y hy rfl
theorem sig_inj {x y x' y' : Str} (h1 : 46 ∉ TL.tl x) (h2 : 46 ∉ TL.tl x') (e : sig m x y = sig m x' y') : x = x' ∧ y = y' := by
  unfold sig at e
  by_cases a : y = m.out <;> by_cases b : y' = m.out
  · rw [if_pos a, if_pos b] at e
    exact ⟨e, a.trans b.symm⟩
  · rw [if_pos a, if_neg b] at e
    exact absurd (dot_has x' y') (e ▸ h1)
  · rw [if_neg a, if_pos b] at e
    exact absurd (dot_has x y) (e ▸ h2)
  · rw [if_neg a, if_neg b] at e
    exact dot_inj h1 h2 e
theorem sig_plain {x y z : Str} (h2 : 46 ∉ TL.tl z) (e : sig m x y = z) : x = z := by
  unfold sig at e
  by_cases a : y = m.out
  · rw [if_pos a] at e
    exact e
  · rw [if_neg a] at e
    exact absurd (dot_has x y) (e ▸ h2)
theorem ren_tells (h : FI k m i0 fl) {a x : Str} : (fl.map (Rw.ren (rho m a x))).map Rw.tell = (fl.map Rw.tell).map (sig m x) := by
  rw [List.map_map, List.map_map]
  apply List.map_congr_left
  intro r hr
  show (r.ren _).tell = sig m x r.tell
  rw [Rw.ren_tell]
  exact h.rho_tell (List.mem_map_of_mem hr)
theorem out_rows (m : ND) (fl : List Rw) (hs : s.ok n) : n.rows.flatMap (outR m fl) = .bef s.kept s.v s.in0 :: (s.xs.flatMap (fun x => fl.map (Rw.ren (rho m s.in0 x))) ++ [.pln n.out s.t]) := by
  rw [hs.rows, List.flatMap_cons, List.flatMap_append, List.flatMap_map]
  rfl
theorem out_tells (h : s.xs = [] ∨ FI k m i0 fl) (hs : s.ok n) : (n.rows.flatMap (outR m fl)).map Rw.tell = s.kept :: (s.xs.flatMap (fun x => (fl.map Rw.tell).map (sig m x)) ++ [n.out]) := by
  rw [out_rows m fl hs, List.map_cons, List.map_append]
  show s.kept :: (_ ++ [n.out]) = _
  congr 2
  rcases h with h | h
  · rw [h]
    rfl
  · rw [List.map_flatMap]
    congr 1
    funext x
    exact ren_tells h
theorem out_nodup (h : s.xs = [] ∨ FI k m i0 fl) (hs : ShN n s) (hN : ∀ x, x ∈ n.names → Nm x) : (n.ins ++ (n.rows.flatMap (outR m fl)).map Rw.tell).Nodup := by
  rw [out_tells h hs.ok]
  have nd := hs.nd
  rw [← hs.ok.ins] at nd
  have hnm := hs.names
  have hx : ∀ x, x ∈ s.xs → 46 ∉ TL.tl x := fun x hx => nm_nodot (hN x (by rw [hnm]; simp [hx]))
  have hf : ∀ z, z ∈ s.xs.flatMap (fun x => (fl.map Rw.tell).map (sig m x)) → ∃ x y, x ∈ s.xs ∧ y ∈ fl.map Rw.tell ∧ sig m x y = z := fun z hz => by
    obtain ⟨x, h1, h2⟩ := List.mem_flatMap.mp hz
    obtain ⟨y, h3, h4⟩ := List.mem_map.mp h2
    exact ⟨x, y, h1, h3, h4⟩
  have hno : ∀ z, z ∈ n.names → z ∉ s.xs → z ∉ s.xs.flatMap (fun x => (fl.map Rw.tell).map (sig m x)) := fun z hz h1 h2 => by
    obtain ⟨x, y, h3, _, e⟩ := hf z h2
    have := sig_plain (nm_nodot (hN z hz)) e
    exact h1 (this ▸ h3)
  obtain ⟨n1, n2, n3⟩ := List.nodup_append.mp nd
  obtain ⟨n4, n5⟩ := List.nodup_cons.mp n2
  obtain ⟨n6, n7, n8⟩ := List.nodup_append.mp n5
  refine List.nodup_append.mpr ⟨n1, List.nodup_cons.mpr ⟨fun hk => ?_, List.nodup_append.mpr ⟨?_, n7, fun z hz w hw e => ?_⟩⟩, fun z hz w hw e => ?_⟩
  · rcases List.mem_append.mp hk with hk | hk
    · exact hno s.kept (by rw [hnm]; simp) hs.kept_xs hk
    · exact hs.kept_out (List.mem_singleton.mp hk)
  · rcases h with h | h
    · rw [h]
      exact List.nodup_nil
    · unfold List.Nodup
      rw [List.pairwise_flatMap]
      refine ⟨fun x h1 => ?_, ?_⟩
      · rw [List.pairwise_map]
        exact List.Pairwise.imp (fun {a b} hab e => hab (sig_inj (hx x h1) (hx x h1) e).2) (List.nodup_append.mp h.nd).2.1
      · refine List.Pairwise.imp_of_mem (fun {a b} ha hb hab u hu v hv e => ?_) n6
        obtain ⟨y, _, e1⟩ := List.mem_map.mp hu
        obtain ⟨y', _, e2⟩ := List.mem_map.mp hv
        exact hab (sig_inj (hx a ha) (hx b hb) (e1.trans (e.trans e2.symm))).1
  · rw [List.mem_singleton.mp hw] at e
    exact hno n.out (by rw [hnm]; simp) hs.out_xs (e ▸ hz)
  · subst e
    rcases List.mem_cons.mp hw with e | hw
    · exact n3 z hz s.kept (List.mem_cons_self ..) e
    · rcases List.mem_append.mp hw with hw | hw
      · have hzn : z ∉ s.xs := fun h1 => n3 z hz z (by simp [h1]) rfl
        exact hno z (by unfold ND.names; exact List.mem_append_left _ hz) hzn hw
      · exact n3 z hz n.out (by simp) (List.mem_singleton.mp hw)
end
end K99
/-! K38 -/
namespace K99
open PySem PySem.Spec PyProof.Rows L2
theorem nd_map {α β : Type} {f : α → β} : ∀ {xs : List α}, xs.Nodup → (∀ a, a ∈ xs → ∀ b, b ∈ xs → f a = f b → a = b) → (xs.map f).Nodup
  | [], _, _ => List.nodup_nil
  | x :: r, h, hi => by
    obtain ⟨h1, h2⟩ := List.nodup_cons.mp h
    rw [List.map_cons]
    refine List.nodup_cons.mpr ⟨fun hm => ?_, nd_map h2 fun a ha b hb => hi a (List.mem_cons_of_mem _ ha) b (List.mem_cons_of_mem _ hb)⟩
    obtain ⟨y, hy, e⟩ := List.mem_map.mp hm
    exact h1 (hi y (List.mem_cons_of_mem _ hy) x (List.mem_cons_self ..) e ▸ hy)
section
variable {k : Nat} {m n : ND} {i0 : Str} {fl : List Rw} {s : Sh}
theorem sig_pt (h : FI k m i0 fl) {x y : Str} (N : Nm x) (hy : y ∈ fl.map Rw.tell) : PtJ (k + 1) (sig m x y) := by
  unfold sig
  split
  · exact (PtJ.of N).up (by omega)
  · exact (h.pt y hy).dot N
/-- a row of the called node, renamed -/
theorem ren_row (h : FI k m i0 fl) {a x : Str} (ha : 46 ∉ TL.tl a) (hx : 46 ∉ TL.tl x) (hax : a ≠ x) {r : Rw} (hr : r ∈ fl) : ((r.ren (rho m a x)).tell :: (r.ren (rho m a x)).ments).Nodup := by
  rw [Rw.ren_tell, Rw.ren_ments]
  show ((r.tell :: r.ments).map (rho m a x)).Nodup
  have hc : ∀ y, y ∈ r.tell :: r.ments → y = i0 ∨ y ∈ fl.map Rw.tell := fun y hy => by
    rcases List.mem_cons.mp hy with rfl | hy
    · exact .inr (List.mem_map_of_mem hr)
    · exact h.ment r hr y hy
  refine nd_map (h.rnd r hr) fun y hy z hz e => ?_
  rcases hc y hy with rfl | h1 <;> rcases hc z hz with rfl | h2
  · rfl
  · rw [h.rho_in, h.rho_tell h2] at e
    exact absurd (sig_plain ha e.symm).symm hax
  · rw [h.rho_in, h.rho_tell h1] at e
    exact absurd (sig_plain ha e).symm hax
  · rw [h.rho_tell h1, h.rho_tell h2] at e
    exact (sig_inj hx hx e).2
theorem FI.step (h : s.xs = [] ∨ FI k m i0 fl) (hs : ShN n s) (hN : ∀ x, x ∈ n.names → Nm x) : FI (k + 1) n s.in0 (n.rows.flatMap (outR m fl)) := by
  have ht := out_tells h hs.ok
  have hrw := out_rows m fl hs.ok
  have hnm := hs.names
  have hx : ∀ x, x ∈ s.xs → Nm x := fun x hx => hN x (by rw [hnm]; simp [hx])
  have hi : Nm s.in0 := hN _ (by rw [hnm]; simp)
  have hmem : ∀ r, r ∈ n.rows.flatMap (outR m fl) → r = .bef s.kept s.v s.in0 ∨ r = .pln n.out s.t ∨ ∃ x r0, x ∈ s.xs ∧ r0 ∈ fl ∧ r = r0.ren (rho m s.in0 x) := fun r hr => by
    rw [hrw] at hr
    rcases List.mem_cons.mp hr with hr | hr
    · exact .inl hr
    · rcases List.mem_append.mp hr with hr | hr
      · obtain ⟨x, h1, h2⟩ := List.mem_flatMap.mp hr
        obtain ⟨r0, h3, h4⟩ := List.mem_map.mp h2
        exact .inr (.inr ⟨x, r0, h1, h3, h4.symm⟩)
      · exact .inr (.inl (List.mem_singleton.mp hr))
  have hF : ∀ x, x ∈ s.xs → FI k m i0 fl := fun x hx => by
    rcases h with h | h
    · rw [h] at hx
      cases hx
    · exact h
  have hrow1 : Rw.bef s.kept s.v s.in0 ∈ n.rows := by rw [hs.ok.rows]; exact List.mem_cons_self ..
  have hrow2 : Rw.pln n.out s.t ∈ n.rows := by rw [hs.ok.rows]; simp
  refine ⟨by rw [hs.ok.ins]; exact List.mem_cons_self .., out_nodup h hs hN, by rw [ht]; simp, fun y hy => ?_, fun r hr => ?_, fun r hr y hy => ?_, fun r hr => ?_, fun r hr => ?_⟩
  · rw [ht] at hy
    rcases List.mem_cons.mp hy with rfl | hy
    · exact (PtJ.of (hN _ (by rw [hnm]; simp))).up (by omega)
    · rcases List.mem_append.mp hy with hy | hy
      · obtain ⟨x, h1, h2⟩ := List.mem_flatMap.mp hy
        obtain ⟨z, h3, rfl⟩ := List.mem_map.mp h2
        exact sig_pt (hF x h1) (hx x h1) h3
      · rw [List.mem_singleton.mp hy]
        exact (PtJ.of (hN _ (by rw [hnm]; simp))).up (by omega)
  · rcases hmem r hr with rfl | rfl | ⟨x, r0, h1, h2, rfl⟩
    · rfl
    · rfl
    · rw [Rw.ren_call]
      exact (hF x h1).plain r0 h2
  · rcases hmem r hr with rfl | rfl | ⟨x, r0, h1, h2, rfl⟩
    · exact .inl (List.mem_singleton.mp hy)
    · have hy' : y ∈ s.t.nms := hy
      rcases hs.ok.sub y hy' with rfl | h1 | rfl
      · right
        rw [ht]
        exact List.mem_cons_self ..
      · right
        rw [ht]
        refine List.mem_cons_of_mem _ (List.mem_append_left _ (List.mem_flatMap.mpr ⟨y, h1, List.mem_map.mpr ⟨m.out, (hF y h1).out, if_pos rfl⟩⟩))
      · exact .inl rfl
    · rw [Rw.ren_ments] at hy
      obtain ⟨z, h3, rfl⟩ := List.mem_map.mp hy
      rcases (hF x h1).ment r0 h2 z h3 with rfl | h4
      · exact .inl (hF x h1).rho_in
      · right
        rw [(hF x h1).rho_tell h4, ht]
        exact List.mem_cons_of_mem _ (List.mem_append_left _ (List.mem_flatMap.mpr ⟨x, h1, List.mem_map_of_mem h4⟩))
  · rcases hmem r hr with rfl | rfl | ⟨x, r0, h1, h2, rfl⟩
    · show [s.kept, s.in0].Nodup
      simp [hs.in0_kept.symm]
    · refine List.nodup_cons.mpr ⟨fun hy => ?_, (hs.oks.rws _ hrow2).nd⟩
      have hy' : n.out ∈ s.t.nms := hy
      rcases hs.ok.sub _ hy' with e | e | e
      · exact hs.kept_out e.symm
      · exact hs.out_xs e
      · exact hs.in0_out e.symm
    · exact ren_row (hF x h1) (nm_nodot hi) (nm_nodot (hx x h1)) (fun e => hs.in0_xs (e ▸ h1)) h2
  · rcases hmem r hr with rfl | rfl | ⟨x, r0, h1, h2, rfl⟩
    · exact Rw.oks_mr (hs.oks.rws _ hrow1)
    · exact Rw.oks_mr (hs.oks.rws _ hrow2)
    · exact Rw.ren_more ((hF x h1).more r0 h2)
theorem out_len (hs : s.ok n) : (n.rows.flatMap (outR m fl)).length = 2 + s.xs.length * fl.length := by
  rw [out_rows m fl hs, List.length_cons, List.length_append, List.length_singleton]
  have : (s.xs.flatMap fun x => fl.map (Rw.ren (rho m s.in0 x))).length = s.xs.length * fl.length := by
    induction s.xs with
    | nil => simp
    | cons x r ih =>
      rw [List.flatMap_cons, List.length_append, ih, List.length_map, List.length_cons, Nat.add_mul, Nat.one_mul, Nat.add_comm]
  omega
theorem sh_calls (hs : s.ok n) : n.calls = s.xs.map fun x => (x, s.c) := by
  unfold ND.calls
  rw [hs.rows, List.filterMap_cons, List.filterMap_append, List.filterMap_map]
  show s.xs.filterMap (fun x => some (x, s.c)) ++ [] = _
  rw [List.append_nil, List.filterMap_eq_map']
theorem sh_nolen (hs : ShN n s) : n.names.length = n.ins.length + 2 + s.xs.length := by
  rw [hs.names, hs.ok.ins]
  simp
  omega
end
theorem sh_at {pd : List ND} {ss : List Sh} (c : Ch pd) (sh : Shs pd ss) {j : Nat} {n : ND} (h : pd[j]? = some n) : ShN n (shAt ss j) := ⟨sh j n h, c.oks n (List.mem_of_getElem? h)⟩
theorem sh_no0 {pd : List ND} {ss : List Sh} (c : Ch pd) (sh : Shs pd ss) {n : ND} (h : pd[0]? = some n) : (shAt ss 0).xs = [] := by
  have h1 := sh_calls (sh 0 n h)
  cases hx : (shAt ss 0).xs with
  | nil => rfl
  | cons x r =>
    rw [hx] at h1
    have := (c.at_calls h (p := (x, (shAt ss 0).c)) (by rw [h1]; exact List.mem_cons_self ..)).1
    omega
theorem flat_fi {pd : List ND} {ss : List Sh} (c : Ch pd) (sh : Shs pd ss) : ∀ (j : Nat) (n : ND), pd[j]? = some n → FI (j + 1) n (shAt ss j).in0 (flat pd j)
  | 0, n, h => by
    have hs := sh_at c sh h
    show FI 1 n _ ((ndAt pd 0).rows.flatMap (outR (ndAt pd 0) []))
    rw [ndAt_some h]
    exact FI.step (k := 0) (i0 := "") (.inl (sh_no0 c sh h)) hs (c.nms n (List.mem_of_getElem? h))
  | j + 1, n, h => by
    have hs := sh_at c sh h
    obtain ⟨m, hm⟩ := at_lt (pd := pd) (j := j) (by have := (List.getElem?_eq_some_iff.mp h).1; omega)
    show FI (j + 2) n _ ((ndAt pd (j + 1)).rows.flatMap (outR (ndAt pd j) (flat pd j)))
    rw [ndAt_some h, ndAt_some hm]
    exact FI.step (.inr (flat_fi c sh j m hm)) hs (c.nms n (List.mem_of_getElem? h))
theorem flat_cnt {pd : List ND} {ss : List Sh} (c : Ch pd) (sh : Shs pd ss) : ∀ (j : Nat) (n : ND), pd[j]? = some n → ((n.ins.length : Int) + ((flat pd j).length : Int)) = cnt pd j
  | 0, n, h => by
    have hs := sh_at c sh h
    have h0 := sh_no0 c sh h
    show _ + (((ndAt pd 0).rows.flatMap (outR (ndAt pd 0) [])).length : Int) = ((ndAt pd 0).names.length : Int)
    rw [ndAt_some h, out_len hs.ok, sh_nolen hs, h0]
    simp
  | j + 1, n, h => by
    have hs := sh_at c sh h
    obtain ⟨m, hm⟩ := at_lt (pd := pd) (j := j) (by have := (List.getElem?_eq_some_iff.mp h).1; omega)
    have ih := flat_cnt c sh j m hm
    show _ + (((ndAt pd (j + 1)).rows.flatMap (outR (ndAt pd j) (flat pd j))).length : Int) = ((ndAt pd (j + 1)).names.length : Int) + ((ndAt pd (j + 1)).calls.length : Int) * (cnt pd j - (ndAt pd j).ins.length - 1)
    rw [ndAt_some h, ndAt_some hm, out_len hs.ok, sh_nolen hs, sh_calls hs.ok, List.length_map, ← ih]
    have e : ((m.ins.length : Int) + ((flat pd j).length : Int) - (m.ins.length : Int) - 1) = ((flat pd j).length : Int) - 1 := by omega
    rw [e, Int.mul_sub, Int.mul_one]
    push_cast
    omega
/-- the node without calls -/
def outN (pd : List ND) (j : Nat) : ND := ⟨(ndAt pd j).name, (ndAt pd j).ins, (ndAt pd j).out, flat pd j⟩
theorem outN_oks {pd : List ND} {ss : List Sh} (c : Ch pd) (sh : Shs pd ss) {j : Nat} {n : ND} (h : pd[j]? = some n) (hc : cnt pd j ≤ 200) : (outN pd j).oks := by
  have f := flat_fi c sh j n h
  have g := flat_cnt c sh j n h
  have hj := (List.getElem?_eq_some_iff.mp h).1
  have := c.len
  have ok := c.oks n (List.mem_of_getElem? h)
  have hin : Ptd (shAt ss j).in0 := ok.insP _ f.inn
  unfold outN
  rw [ndAt_some h]
  exact ⟨ok.nm, ok.ins0, ok.insP, ok.outP, f.nd, fun r hr => f.oks (by omega) hin hr, fun r hr x hx => by
    rcases f.ment r hr x hx with rfl | h1
    · exact List.mem_append_left _ f.inn
    · exact List.mem_append_right _ h1, f.out, ok.insL, by show (flat pd j).length ≤ 1000; omega⟩
theorem outN_len {pd : List ND} {ss : List Sh} (c : Ch pd) (sh : Shs pd ss) {j : Nat} {n : ND} (h : pd[j]? = some n) : (((outN pd j).names.length : Nat) : Int) = cnt pd j := by
  rw [← flat_cnt c sh j n h]
  unfold outN ND.names ND.tells
  rw [ndAt_some h]
  simp
end K99
/-! K39 -/
namespace K99
open PySem PySem.Spec PyProof.Rows L2
section
variable {P : Program} {w : World} {K : PySem.W.Frag} {mg : Str → Option Value} {base : Heap}
def spOnceE (K : PySem.W.Frag) : Sp := fun vs H Q _ => ∃ a b k, vs = [V.ref a] ∧ SqT K H a ((List.replicate k b).map .str) ∧ 1 ≤ k ∧ k ≤ 2 ∧ ∀ l H', Same H H' → H' l = some (.lst [.str b]) → Q (.ref l) H'
theorem ok_once_each (T : Txt K mg) : FnOk P w K mg base CX0 1 (f_once_each K) (fdAt K (f_once_each K)) P_once_each (spOnceE K) := by
  refine FunD.ok T.F_once_each sc_once_each (fun vs H Q E h => ?_) (fun cdv A outer s H vs Q E hr h => ?_)
  · obtain ⟨a, b, n, rfl, _⟩ := h
    rfl
  · obtain ⟨a, b, n, rfl, h1, h2, h3, k⟩ := h
    refine ⟨_, PSs.nox (pss_cons (ps_set (i := 1) sc_once_each.nd rfl (by first | exact Or.inl rfl | exact Or.inr rfl) (pe_lst pa_nil)) (pss_cons (ps_for PassesOwn.never rfl (pi_tup (pv 0)) (pg_name (i := 2) sc_once_each.nd rfl (by first | exact Or.inl rfl | exact Or.inr rfl)) (pss_one (ps_if (pt_cmpR op_notIn_seq (pv 2) (pv 1) (by rfl)) (pss_one (ps_expr (pe_bm PySem.F.plainAttrs_list PySem.F.slot_list_append PySem.F.type_list_append mt_append (pv 1) (pa_cons (pv 2) pa_nil)))) pss_nil))) (pss_one (ps_ret (pv 1))))), ?_⟩
    refine ⟨sz (n := 0) (by decide), fun F hF => ?_⟩
    refine ⟨_, rfl, a, rfl, ⟨_, Same.sqt (Same.new hF) h1⟩, ?_⟩
    refine for_map (wm_tup (List.replicate n b) V.str) (fun pre σ H2 => SameX F H H2 ∧ (∃ x, σ = [some (.ref a), some (.ref F), x]) ∧ H2 F = some (.lst (if pre = [] then [] else [.str b]))) ⟨SameX.upd2, ⟨_, rfl⟩, upd_same⟩ (fun pre σ H2 q => ?_) (fun pre p post σ H2 e q => ?_) (fun σ H2 q => ?_)
    · exact Same.sqt (SameX.of q.1 hF) h1
    · obtain ⟨s2, ⟨x, rfl⟩, q3⟩ := q
      have hp : p = b := by
        have : p ∈ List.replicate n b := by
          rw [e]
          simp
        exact List.eq_of_mem_replicate this
      subst hp
      by_cases hpre : pre = []
      · rw [if_pos hpre] at q3
        refine ⟨_, rfl, _, rfl, F, _, rfl, .inl (SqL.of q3), rfl, rfl, true, rfl, iteT ?_⟩
        refine ⟨_, rfl, .inl ⟨rfl, _, SqL.of q3⟩, _, rfl, F, _, _, rfl, rfl, q3, szl (Nat.zero_le _), SameX.put s2, ⟨_, rfl⟩, ?_⟩
        rw [upd_same, if_neg (show ¬ pre ++ [p] = [] by simp)]
        rfl
      · rw [if_neg hpre] at q3
        refine ⟨_, rfl, _, rfl, F, _, rfl, .inl (SqL.of q3), rfl, rfl, false, ?_, iteF ?_⟩
        · show V.bl (!inV (.str p) ([p].map V.str)) = .bl false
          rw [yin_str (List.mem_cons_self ..)]
          rfl
        · refine ⟨s2, ⟨_, rfl⟩, ?_⟩
          rw [q3, if_neg (show ¬ pre ++ [p] = [] by simp)]
    · obtain ⟨s2, ⟨x, rfl⟩, q3⟩ := q
      rw [if_neg (show ¬ List.replicate n b = [] by cases n with | zero => omega | succ n => exact fun e => by cases e)] at q3
      exact ⟨_, rfl, k F _ (SameX.of s2 hF) q3⟩
end
/-! ### the dict of a call's names -/
def KD (f : Str → Str) (xs : List Str) : List (Key × V) := xs.map fun y => ((Sum.inr y : Key), V.str (f y))
def KLs (m : ND) (ys : List Str) : List Str := m.ins ++ m.out :: ys.filter fun y => !decide (y = m.out)
theorem kd_first {m : ND} {a x : Str} (h : m.out ∉ m.ins) : nmo m.ins a m.out x = KD (rho m a x) (KLs m []) := by
  unfold nmo KD KLs
  rw [List.map_append]
  congr 1
  · apply List.map_congr_left
    intro y hy
    rw [show rho m a x y = a from if_pos hy]
  · show [((Sum.inr m.out : Key), V.str x)] = [((Sum.inr m.out : Key), V.str (rho m a x m.out))]
    rw [show rho m a x m.out = x from (if_neg h).trans (if_pos rfl)]
theorem kls_in {m : ND} {ys : List Str} {y : Str} (hy : y ∈ ys) : y ∈ KLs m ys := by
  unfold KLs
  by_cases e : y = m.out
  · rw [e]
    simp
  · refine List.mem_append_right _ (List.mem_cons_of_mem _ (List.mem_filter.mpr ⟨hy, by simp [e]⟩))
theorem kls_nd {m : ND} {ys : List Str} (h : (m.ins ++ ys).Nodup) (ho : m.out ∉ m.ins) : (KLs m ys).Nodup := by
  unfold KLs
  obtain ⟨h1, h2, h3⟩ := List.nodup_append.mp h
  refine List.nodup_append.mpr ⟨h1, List.nodup_cons.mpr ⟨fun hm => ?_, h2.sublist List.filter_sublist⟩, fun z hz w hw e => ?_⟩
  · have := (List.mem_filter.mp hm).2
    simp at this
  · subst e
    rcases List.mem_cons.mp hw with rfl | hw
    · exact ho hz
    · exact h3 z hz z (List.mem_filter.mp hw).1 rfl
theorem kls_snoc_out {m : ND} {ys : List Str} : KLs m (ys ++ [m.out]) = KLs m ys := by
  unfold KLs
  rw [List.filter_append]
  simp
theorem kls_snoc {m : ND} {ys : List Str} {y : Str} (h : y ≠ m.out) : KLs m (ys ++ [y]) = KLs m ys ++ [y] := by
  unfold KLs
  rw [List.filter_append, List.filter_cons, if_pos (by simp [h]), List.filter_nil, ← List.cons_append, List.append_assoc]
theorem kls_new {m : ND} {ys : List Str} {y : Str} (h : y ≠ m.out) (h1 : y ∉ m.ins) (h2 : y ∉ ys) : y ∉ KLs m ys := fun hm => by
  unfold KLs at hm
  rcases List.mem_append.mp hm with hm | hm
  · exact h1 hm
  · rcases List.mem_cons.mp hm with hm | hm
    · exact h hm
    · exact h2 (List.mem_filter.mp hm).1
theorem kls_len {m : ND} {ys : List Str} : (KLs m ys).length ≤ m.ins.length + 1 + ys.length := by
  unfold KLs
  rw [List.length_append, List.length_cons]
  have := List.length_filter_le (fun y => !decide (y = m.out)) ys
  omega
end K99
/-! K40 -/
namespace K99
open PySem PySem.Spec PyProof.Rows L2
theorem paired_ren {K : PySem.W.Frag} {H : Hp} {f : Str → Str} {rs : List PR} {xs : List V} (h : Paired (fun (p : PR) v => ∃ b, v = .ref b ∧ EqO K H b (p.2.ren f)) rs xs) : ∃ rs' : List PR, xs = rs'.map (fun p => .ref p.1) ∧ rs'.map (·.2) = (rs.map (·.2)).map (Rw.ren f) ∧ ∀ p, p ∈ rs' → EqO K H p.1 p.2 := by
  induction h with
  | nil => exact ⟨[], rfl, rfl, fun _ h => by cases h⟩
  | cons q r ih =>
    obtain ⟨b, rfl, o⟩ := q
    obtain ⟨gs, rfl, e2, e3⟩ := ih
    rename_i d _
    refine ⟨(b, d.2.ren f) :: gs, rfl, by simp [e2], fun p hp => ?_⟩
    rcases List.mem_cons.mp hp with rfl | hp
    · exact o
    · exact e3 p hp
section
variable {P : Program} {w : World} {K : PySem.W.Frag} {mg : Str → Option Value} {base : Heap}
def spCallRows (K : PySem.W.Frag) : Sp := fun vs H Q _ => ∃ (ia rl td : Addr) (m : ND) (rs : List PR) (x c a i0 : Str) (n kk : Nat), vs = [V.ref ia, .ref rl, .ref td] ∧ NdO K H ia m ∧ m.oks ∧ H rl = some (.lst (rs.map fun p => .ref p.1)) ∧ (∀ p, p ∈ rs → EqO K H p.1 p.2) ∧ rs.length ≤ 200 ∧
  RwD K H td (.call x c a n) ∧ n = m.ins.length ∧ n ≤ 2 ∧ FI kk m i0 (rs.map (·.2)) ∧ kk ≤ 8 ∧ Ptd i0 ∧ Ptd x ∧ (∀ r, r ∈ rs.map (·.2) → (r.ren (rho m a x)).oks) ∧
  ∀ l (rs' : List PR) H', Same H H' → H' l = some (.lst (rs'.map fun p => .ref p.1)) → rs'.map (·.2) = (rs.map (·.2)).map (Rw.ren (rho m a x)) → (∀ p, p ∈ rs' → EqO K H' p.1 p.2) → Q (.ref l) H'
theorem ok_call_rows (T : Txt K mg) : FnOk P w K mg base CX0 54 (f_call_rows K) (fdAt K (f_call_rows K)) P_call_rows (spCallRows K) := by
  refine FunD.ok T.F_call_rows sc_call_rows (fun vs H Q E h => ?_) (fun cdv A outer s H vs Q E hr h => ?_)
  · obtain ⟨ia, rl, td, m, rs, x, c, a, i0, n, kk, rfl, _⟩ := h
    rfl
  · obtain ⟨ia, rl, td, m, rs, x, c, b, i0, n, kk, rfl, no, okm, hrl, heq, hrz, rd, hk, hn2, fi, hkk, hi0, hpx, okf, k⟩ := h
    refine ⟨_, PSs.nox (pss_cons (ps_asg (pv 2) (pg_tup rfl (pgs_cons (pg_name (i := 3) sc_call_rows.nd rfl (by first | exact Or.inl rfl | exact Or.inr rfl)) (pgs_cons (pg_name (i := 4) sc_call_rows.nd rfl (by first | exact Or.inl rfl | exact Or.inr rfl)) (pgs_cons (pg_name (i := 5) sc_call_rows.nd rfl (by first | exact Or.inl rfl | exact Or.inr rfl)) (pgs_cons (pg_name (i := 6) sc_call_rows.nd rfl (by first | exact Or.inl rfl | exact Or.inr rfl)) pgs_nil)))))) (pss_cons (ps_set (i := 7) sc_call_rows.nd rfl (by first | exact Or.inl rfl | exact Or.inr rfl) (pe_dictZip (by rfl) (by rfl) T.z_zip (by rfl) T.z_dict (pa_cons (pe_meth0 (pv 0) T.c_Node T.m_Node_inputs (ok_Node_inputs T) (hr.mono (by first | decide | omega)) T.b_Node_inputs .nil pass0) (pa_cons (pv 6) pa_nil)))) (pss_cons (ps_expr (pe_bm PySem.F.plainAttrs_dict PySem.F.slot_dict_update PySem.F.type_dict_update mt_update (pv 7) (pa_cons (pe_dictZip (by rfl) (by rfl) T.z_zip (by rfl) T.z_dict (pa_cons (pe_meth0 (pv 0) T.c_Node T.m_Node_outs (ok_Node_outs T) (hr.mono (by first | decide | omega)) T.b_Node_outs .nil pass0) (pa_cons (pv 4) pa_nil))) pa_nil))) (pss_cons (ps_set (i := 8) sc_call_rows.nd rfl (by first | exact Or.inl rfl | exact Or.inr rfl) (pe_lst pa_nil)) (pss_cons (ps_if (pt_cmpR op_gt (pe_callB call_len_seq (by rfl) T.z_len PySem.boot_len (pa_cons (pe_call (ok_once_each T) (hr.mono (by first | decide | omega)) (by rfl) T.g_once_each T.F_once_each.kp T.b_once_each .nil pass0 (pa_cons (pv 6) pa_nil)) pa_nil)) pe_int (by rfl)) pB pss_nil) (pss_cons (ps_for PassesOwn.never rfl (pi_list (pv 1)) (pg_name (i := 9) sc_call_rows.nd rfl (by first | exact Or.inl rfl | exact Or.inr rfl)) (pss_one (ps_for PassesOwn.never rfl (pi_list (pe_um0 (p := fun _ => True) (fun d _ => me_tells T d) (pv 9) (hr.mono (by first | decide | omega)) pass0)) (pg_name (i := 10) sc_call_rows.nd rfl (by first | exact Or.inl rfl | exact Or.inr rfl)) (pss_one (ps_expr (pe_dsetd (pv 7) (pv 10) (pe_op op_add_str (pe_op op_add_str (pe_ix ix_tup (pv 4) pe_int (fun _ _ => rfl)) pe_str) (pv 10)) ⟨rfl, rfl, rfl, rfl⟩)))))) (pss_cons (ps_expr (pe_bm PySem.F.plainAttrs_list PySem.F.slot_list_extend PySem.F.type_list_extend mt_extend (pv 8) (pa_cons (pe_lc (own := [("row", 9)]) (by rfl) sc_call_rows.nd (pi_list (pv 1)) (blkOk_by (N := N_call_rows) (sc := defScope s_call_rows) (by decide +kernel)) (fun _ _ _ _ _ => (pg_name (i := 9) sc_call_rows.nd rfl (by first | exact Or.inl rfl | exact Or.inr rfl))) (fun _ _ _ _ _ => pts_nil) (fun _ _ _ _ _ => (pe_um (p := fun r : Rw => r.isCall = false) (fun r hc => me_renamed T (rho m b x) r hc) (pv 9) (hr.mono (by first | decide | omega)) pass0 (pa_cons (pv 7) pa_nil)))) pa_nil))) (pss_one (ps_ret (pv 8)))))))))), ?_⟩
    obtain ⟨o', g', d1, d2, d3⟩ := rd
    obtain ⟨dy, ki, ko, kr, te, rs0, u1, u2, u3⟩ := id no
    have hn1 : 1 ≤ n := by
      have := List.length_pos_iff.mpr okm.ins0
      omega
    refine ⟨_, rfl, td, _, rfl, d1, rfl, _, _, rfl, _, _, rfl, _, _, rfl, _, _, rfl, rfl, ?_⟩
    refine ⟨_, rfl, ia, dy, _, rfl, u1, rfl, ia, m, rfl, no, fun l1 H1 s1 hl1 => ?_⟩
    refine ⟨_, rfl, l1, g', m.ins, (List.replicate n b).map .str, rfl, SqL.of hl1, Same.sqt s1 d3, ?_, Nat.le_trans okm.insL (by decide), fun d hd => ?_⟩
    · rw [List.length_map, List.length_replicate, hk]
    have hins : m.ins.Nodup := (List.nodup_append.mp fi.nd).1
    have hout : m.out ∉ m.ins := fun h => (List.nodup_append.mp fi.nd).2.2 _ h m.out fi.out rfl
    have e1 : mergeK [] ((m.ins.map Sum.inr).zip ((List.replicate n b).map V.str)) = m.ins.map fun i => ((Sum.inr i : Key), V.str b) := by
      rw [List.map_replicate, zip_rep (by rw [List.length_map, hk]), List.map_map, merge_self]
      · rfl
      · rw [List.map_map]
        exact inr_nodup hins
    rw [e1]
    have s2 : Same H (upd H1 d (.dK (m.ins.map fun i => ((Sum.inr i : Key), V.str b)))) := s1.trans (Same.new hd)
    have g2 : upd H1 d (.dK (m.ins.map fun i => ((Sum.inr i : Key), V.str b))) d = some (.dK (m.ins.map fun i => ((Sum.inr i : Key), V.str b))) := upd_same
    have nHd : H d = none := s1.free hd
    generalize upd H1 d (.dK (m.ins.map fun i => ((Sum.inr i : Key), V.str b))) = H2 at s2 g2 ⊢
    refine ⟨_, rfl, .inr (.inr (.inl ⟨rfl, .inl ⟨_, g2⟩⟩)), ?_⟩
    refine ⟨_, rfl, ia, dy, _, rfl, s2 _ _ u1, rfl, ia, m, rfl, no.mono s2, fun l3 H3 s3 hl3 => ?_⟩
    refine ⟨_, rfl, l3, o', [m.out], [.str x], rfl, SqL.of hl3, Same.sqt (s2.trans s3) d2, rfl, by show 1 ≤ 1000000; decide, fun d4 hd4 => ?_⟩
    have g3 := s3 _ _ g2
    have ndd : d ≠ d4 := fun e => by
      subst e
      rw [g3] at hd4
      cases hd4
    refine ⟨d, d4, _, _, rfl, rfl, by rw [upd_ne ndd]; exact g3, upd_same, ndd, ?_, ?_⟩
    · rw [List.length_map]
      have := okm.insL
      exact sz (by show m.ins.length + 1 ≤ _; omega)
    have e5 : mergeK (m.ins.map fun i => ((Sum.inr i : Key), V.str b)) (mergeK [] (([m.out].map Sum.inr).zip [V.str x])) = KD (rho m b x) (KLs m []) := by
      rw [← kd_first hout]
      show mergeK _ [(Sum.inr m.out, V.str x)] = _
      rw [merge_nodup (more := [(Sum.inr m.out, V.str x)]) (List.nodup_cons.mpr ⟨by simp, List.nodup_nil⟩) _ fun p hp => ?_]
      · rfl
      · rcases List.mem_singleton.mp hp with rfl
        rw [List.map_map]
        intro hm'
        exact hout (inr_mem hm')
    rw [e5]
    have s5 : Same H (upd (upd H3 d4 (.dK (mergeK [] (([m.out].map Sum.inr).zip [V.str x])))) d (.dK (KD (rho m b x) (KLs m [])))) := SameX.of (SameX.put (Same.x (s2.trans (s3.trans (Same.new hd4))))) nHd
    have g5 : upd (upd H3 d4 (.dK (mergeK [] (([m.out].map Sum.inr).zip [V.str x])))) d (.dK (KD (rho m b x) (KLs m []))) d = some (.dK (KD (rho m b x) (KLs m []))) := upd_same
    generalize upd (upd H3 d4 (.dK (mergeK [] (([m.out].map Sum.inr).zip [V.str x])))) d (.dK (KD (rho m b x) (KLs m []))) = H5 at s5 g5 ⊢
    refine ⟨sz (n := 0) (by decide), fun F hF => ?_⟩
    have s6 : Same H5 (upd H5 F (.lst [])) := Same.new hF
    have gF6 : upd H5 F (.lst []) F = some (.lst []) := upd_same
    generalize upd H5 F (.lst []) = H6 at s6 gF6 ⊢
    have s06 := s5.trans s6
    refine ⟨_, rfl, g', b, n, rfl, Same.sqt s06 d3, hn1, hn2, fun l7 H7 s7 hl7 => ?_⟩
    refine ⟨l7, _, rfl, .inl (SqL.of hl7), _, _, rfl, rfl, false, rfl, iteF ?_⟩
    have s07 := s06.trans s7
    have g7 := s7 _ _ (s6 _ _ g5)
    have gF7 := s7 _ _ gF6
    have nHF : H F = none := s5.free hF
    have ndF : d ≠ F := fun e => by
      subst e
      rw [g7] at gF7
      cases gF7
    have nrd : rl ≠ d := fun e => by
      subst e
      rw [hrl] at nHd
      cases nHd
    have nrF : rl ≠ F := fun e => by
      subst e
      rw [hrl] at nHF
      cases nHF
    refine ⟨_, rfl, rl, rfl, ⟨_, SqL.of (s07 _ _ hrl)⟩, ?_⟩
    have htl : ∀ p, p ∈ rs → p.2.tell ∈ (rs.map (·.2)).map Rw.tell := fun p hp => List.mem_map_of_mem (List.mem_map_of_mem hp)
    have hnew : ∀ pre p post, rs = pre ++ p :: post → p.2.tell ∉ (pre.map (·.2)).map Rw.tell ∧ p.2.tell ∉ m.ins := fun pre p post e => by
      have := fi.nd
      rw [e, List.map_append, List.map_append, List.map_cons, List.map_cons] at this
      obtain ⟨n1, n2, n3⟩ := List.nodup_append.mp this
      exact ⟨fun h => (List.nodup_append.mp n2).2.2 _ h _ (List.mem_cons_self ..) rfl, fun h => n3 _ h p.2.tell (by simp) rfl⟩
    refine for_map (wm_list rs fun p => V.ref p.1) (fun pre σ H8 => SameX d H7 H8 ∧ H8 d = some (.dK (KD (rho m b x) (KLs m ((pre.map (·.2)).map Rw.tell)))) ∧ (∃ y1 y2, σ = [some (.ref ia), some (.ref rl), some (.ref td), some (.str "call"), some (.ref o'), some (.str c), some (.ref g'), some (.ref d), some (.ref F), y1, y2]))
      ⟨SameX.refl _ _, g7, ⟨_, _, rfl⟩⟩ (fun pre σ H8 q => SqL.of (q.1 _ _ nrd (s07 _ _ hrl))) (fun pre p post σ H8 e q => ?_) (fun σ H8 q => ?_)
    · obtain ⟨x8, g8, ⟨y1, y2, rfl⟩⟩ := q
      have s08 : Same H H8 := SameX.of (SameX.trans (Same.x s07) x8) nHd
      have hp : p ∈ rs := by
        rw [e]
        simp
      obtain ⟨hw1, hw2⟩ := hnew pre p post e
      have hpre : pre.length ≤ 200 := by
        have := congrArg List.length e
        simp at this
        omega
      refine ⟨p.2, trivial, _, rfl, p.1, rfl, (heq p hp).mono s08, p.1, rfl, (heq p hp).mono s08, fun l9 H9 s9 hl9 => ?_⟩
      refine ⟨l9, rfl, ⟨_, SqL.of hl9⟩, ?_⟩
      have g9 := s9 _ _ g8
      have n9 : l9 ≠ d := fun e => by
        subst e
        rw [g9] at hl9
        cases hl9
      refine for_map (wm_list [p.2.tell] V.str) (fun pre2 σ H10 => SameX d H9 H10 ∧ H10 d = some (.dK (KD (rho m b x) (KLs m ((pre.map (·.2)).map Rw.tell ++ pre2)))) ∧ (∃ y2, σ = [some (.ref ia), some (.ref rl), some (.ref td), some (.str "call"), some (.ref o'), some (.str c), some (.ref g'), some (.ref d), some (.ref F), some (.ref p.1), y2]))
        ⟨SameX.refl _ _, by rw [List.append_nil]; exact g9, ⟨_, rfl⟩⟩ (fun pre2 σ H10 q => SqL.of (q.1 _ _ n9 hl9)) (fun pre2 z post2 σ H10 e2 q => ?_) (fun σ H10 q => ?_)
      · obtain ⟨x10, g10, ⟨y2, rfl⟩⟩ := q
        obtain ⟨rfl, rfl, rfl⟩ : pre2 = [] ∧ z = p.2.tell ∧ post2 = [] := by
          cases pre2 with
          | nil =>
            injection e2 with e3 e4
            exact ⟨rfl, e3.symm, e4.symm⟩
          | cons u v =>
            injection e2 with e3 e4
            cases v <;> cases e4
        rw [List.append_nil] at g10
        have s010 : Same H H10 := SameX.of (SameX.trans (SameX.trans (Same.x s08) (Same.x s9)) x10) nHd
        have hzp := (fi.pt _ (htl p hp)).ptd hkk
        refine ⟨_, rfl, d, rfl, .inl ⟨_, .inl g10⟩, _, rfl, ?_⟩
        refine ⟨_, rfl, o', _, 0, _, rfl, rfl, Same.sqt s010 d2, rfl, x, ".", rfl, rfl, sz ?_, ?_⟩
        · have := hpx.hi
          show x.length + 1 ≤ _
          omega
        refine ⟨_, rfl, x ++ ".", p.2.tell, rfl, rfl, sz ?_, ?_⟩
        · have := hpx.hi
          have := hzp.hi
          rw [TL.len_tl, TL.tl_append, List.length_append, ← TL.len_tl, ← TL.len_tl]
          show x.length + 1 + _ ≤ _
          omega
        refine ⟨_, .inr p.2.tell, g10, rfl, ?_, fun v hv => ?_, fun hv => ?_⟩
        · unfold KD
          rw [List.length_map]
          have h1 := kls_len (m := m) (ys := (pre.map (·.2)).map Rw.tell)
          rw [List.length_map, List.length_map] at h1
          have h2 := okm.insL
          exact szl (by omega)
        · refine ⟨x10, ?_, ⟨_, rfl⟩⟩
          have hmo : p.2.tell = m.out := Classical.byContradiction fun hne => by
            have := valV_idn (f := rho m b x) (kls_new hne hw2 hw1)
            unfold KD at hv
            rw [hv] at this
            cases this
          rw [List.nil_append, hmo, kls_snoc_out]
          exact g10
        · have hmo : p.2.tell ≠ m.out := fun hne => by
            have := valV_id (f := rho m b x) (xs := KLs m ((pre.map (·.2)).map Rw.tell)) (x := p.2.tell) (kls_nd (by
              have h1 := fi.nd
              rw [e, List.map_append, List.map_append] at h1
              exact h1.sublist (List.Sublist.append_left (List.sublist_append_left _ _) _)) hout) (by rw [hne]; unfold KLs; simp)
            unfold KD at hv
            rw [hv] at this
            cases this
          refine ⟨SameX.put x10, ?_, ⟨_, rfl⟩⟩
          rw [upd_same, List.nil_append, kls_snoc hmo, putK_new _ hv]
          unfold KD
          rw [List.map_append]
          have hr : rho m b x p.2.tell = x ++ "." ++ p.2.tell := (if_neg hw2).trans (if_neg hmo)
          rw [← hr]
          rfl
      · obtain ⟨x10, g10, ⟨y3, rfl⟩⟩ := q
        refine ⟨SameX.trans x8 (SameX.trans (Same.x s9) x10), ?_, ⟨_, _, rfl⟩⟩
        rw [List.map_append, List.map_append]
        exact g10
    · obtain ⟨x8, g8, ⟨y1, y2, rfl⟩⟩ := q
      have s08 : Same H H8 := SameX.of (SameX.trans (Same.x s07) x8) nHd
      have gF8 := x8 _ _ ndF.symm gF7
      have hall : ∀ y, y = i0 ∨ y ∈ (rs.map (·.2)).map Rw.tell → valV (KD (rho m b x) (KLs m ((rs.map (·.2)).map Rw.tell))) (.inr y) = some (.str (rho m b x y)) := fun y hy => by
        refine valV_id (kls_nd fi.nd hout) ?_
        rcases hy with rfl | hy
        · exact List.mem_append_left _ fi.inn
        · exact kls_in hy
      refine ⟨_, rfl, .inl ⟨rfl, _, SqL.of gF8⟩, ?_⟩
      refine ⟨_, rfl, rl, rfl, ⟨_, SqL.of (s08 _ _ hrl)⟩, fun D hD => ?_⟩
      refine lc_new (wm_list rs fun p => V.ref p.1) (fun H p v => ∃ g, v = .ref g ∧ EqO K H g (p.2.ren (rho m b x))) (fun H H' p v s' ⟨g, e1, o⟩ => ⟨g, e1, o.monoN s'⟩) hD (Nat.le_trans hrz (by decide)) (fun H' s' => SqL.of (s' _ _ (s08 _ _ hrl))) (fun _ => rfl) (fun p H9 hp s9 Q' q' => ?_) (fun H9 xs s9 h9 pr => ?_) (fun _ _ _ q => q)
      · have hpf : p.2 ∈ rs.map (·.2) := List.mem_map_of_mem hp
        have e9 := (heq p hp).mono (s08.trans s9)
        have hml : p.2.ments.length ≤ 100 := by
          have h1 := fi.more _ hpf
          have h2 := fi.plain _ hpf
          revert h1 h2
          cases p.2 with
          | bef x v a => exact fun _ _ => by show 1 ≤ 100; decide
          | call x c a k => exact fun _ h => by cases h
          | pln x t =>
            intro h1 _
            have h1 : t.dep ≤ 5 := h1
            show t.nms.length ≤ 100
            rw [Tm.nms_len]
            omega
        refine ⟨p.2, fi.plain _ hpf, _, rfl, p.1, rfl, e9, ⟨_, rfl, p.1, d, _, rfl, e9, fi.oks hkk hi0 hpf, fi.rnd _ hpf, hml, okf _ hpf, s9 _ _ g8, fun y hy => hall y ?_, fun g H10 s10 o10 => q' _ _ s10 ⟨g, rfl, o10⟩⟩⟩
        rcases hy with rfl | hy
        · exact .inr (htl p hp)
        · exact fi.ment _ hpf y hy
      · obtain ⟨rs', rfl, e2, e3⟩ := paired_ren pr
        have gF9 := s9 _ _ gF8
        refine ⟨F, D, _, _, rfl, rfl, gF9, h9, ?_, ?_⟩
        · have := congrArg List.length e2
          simp at this
          rw [List.length_map, this]
          exact sz (by simp; omega)
        · refine ⟨_, rfl, k F rs' _ ?_ upd_same e2 fun p hp => (e3 p hp).monoN (SameN.lst gF9)⟩
          exact SameX.of (SameX.put (Same.x (s08.trans s9))) nHF
end
end K99
/-! K41 -/
namespace K99
open PySem PySem.Spec PyProof.Rows L2
def flP (pd : List ND) : Nat → List Rw
  | 0 => []
  | j + 1 => flat pd j
theorem flat_eq (pd : List ND) (j : Nat) : flat pd j = (ndAt pd j).rows.flatMap (outR (ndAt pd (j - 1)) (flP pd j)) := by
  cases j <;> rfl
theorem flat_up {pd : List ND} {ss : List Sh} (c : Ch pd) (sh : Shs pd ss) {j : Nat} (h : j + 1 < pd.length) : (flat pd j).length ≤ (flat pd (j + 1)).length := by
  obtain ⟨n, hn⟩ := at_lt (pd := pd) (j := j + 1) h
  have hs := sh_at c sh hn
  have h1 : (flat pd (j + 1)).length = 2 + (shAt ss (j + 1)).xs.length * (flat pd j).length := by
    show ((ndAt pd (j + 1)).rows.flatMap (outR (ndAt pd j) (flat pd j))).length = _
    rw [ndAt_some hn, out_len hs.ok]
  have h2 : 1 ≤ (shAt ss (j + 1)).xs.length := by
    have := c.some_ j n hn
    rw [sh_calls hs.ok] at this
    cases hx : (shAt ss (j + 1)).xs with
    | nil =>
      rw [hx] at this
      exact absurd rfl this
    | cons x r => exact Nat.succ_le_succ (Nat.zero_le _)
  have h3 := Nat.mul_le_mul_right (flat pd j).length h2
  omega
theorem flat_le {pd : List ND} {ss : List Sh} (c : Ch pd) (sh : Shs pd ss) {i : Nat} : ∀ {j : Nat}, i ≤ j → j < pd.length → (flat pd i).length ≤ (flat pd j).length
  | 0, h, _ => by
    obtain rfl : i = 0 := by omega
    exact Nat.le_refl _
  | j + 1, h, hj => by
    rcases Nat.lt_or_ge i (j + 1) with h1 | h1
    · exact Nat.le_trans (flat_le c sh (by omega) (by omega)) (flat_up c sh hj)
    · obtain rfl : i = j + 1 := by omega
      exact Nat.le_refl _
def KnR (K : PySem.W.Frag) (H : Hp) (F : Addr) (pd : List ND) (j : Nat) : Prop := ∃ (la : Nat → Addr) (rss : Nat → List PR), H F = some (.dK (ctK pd (fun s => .ref (la s)) j)) ∧ ∀ s, s < j → H (la s) = some (.lst ((rss s).map fun p => .ref p.1)) ∧ (rss s).map (·.2) = flat pd s ∧ ∀ p, p ∈ rss s → EqO K H p.1 p.2
section
variable {P : Program} {w : World} {K : PySem.W.Frag} {mg : Str → Option Value} {base : Heap}
def spRowsOut (K : PySem.W.Frag) : Sp := fun vs H Q _ => ∃ (a : Addr) (pd : List ND) (ss : List Sh) (i0 : Nat) (n : ND), vs = [V.ref a, .str n.name] ∧ PgO K H a pd ∧ Shs pd ss ∧ pd[i0]? = some n ∧ (flat pd i0).length ≤ 200 ∧
  ∀ l (rs : List PR) H', Same H H' → H' l = some (.lst (rs.map fun p => .ref p.1)) → rs.map (·.2) = flat pd i0 → (∀ p, p ∈ rs → EqO K H' p.1 p.2) → Q (.ref l) H'
theorem ok_rows_out (T : Txt K mg) : FnOk P w K mg base CX0 55 (f_rows_out K) (fdAt K (f_rows_out K)) P_rows_out (spRowsOut K) := by
  refine FunD.ok T.F_rows_out sc_rows_out (fun vs H Q E h => ?_) (fun cdv A outer s H vs Q E hr h => ?_)
  · obtain ⟨a, pd, ss, i0, n, rfl, _⟩ := h
    rfl
  · obtain ⟨a, pd, ss, i0, n, rfl, pg, sh, hn, hz, k⟩ := h
    refine ⟨_, PSs.nox (pss_cons (ps_set (i := 2) sc_rows_out.nd rfl (by first | exact Or.inl rfl | exact Or.inr rfl) pe_dnewK) (pss_cons (ps_for PassesOwn.never rfl (pi_list (pe_op op_cat (pe_meth (pv 0) T.c_Program T.m_Program_below (ok_Program_below T) (hr.mono (by first | decide | omega)) T.b_Program_below .nil pass0 (pa_cons (pv 1) pa_nil)) (pe_lst (pa_cons (pv 1) pa_nil)))) (pg_name (i := 3) sc_rows_out.nd rfl (by first | exact Or.inl rfl | exact Or.inr rfl)) (pss_cons (ps_set (i := 4) sc_rows_out.nd rfl (by first | exact Or.inl rfl | exact Or.inr rfl) (pe_lst pa_nil)) (pss_cons (ps_for PassesOwn.never rfl (pi_list (pe_meth0 (pe_meth (pv 0) T.c_Program T.m_Program_named (ok_Program_named T) (hr.mono (by first | decide | omega)) T.b_Program_named .nil pass0 (pa_cons (pv 3) pa_nil)) T.c_Node T.m_Node_rows (ok_Node_rows T) (hr.mono (by first | decide | omega)) T.b_Node_rows .nil pass0)) (pg_name (i := 5) sc_rows_out.nd rfl (by first | exact Or.inl rfl | exact Or.inr rfl)) (pss_one (ps_if (pt_val (pe_um0 (p := fun _ => True) (fun d _ => me_is_call T d) (pv 5) (hr.mono (by first | decide | omega)) pass0)) (pss_cons (ps_set (i := 6) sc_rows_out.nd rfl (by first | exact Or.inl rfl | exact Or.inr rfl) (pe_ix ix_tup (pe_um0 (p := fun _ => True) (fun d _ => me_told T d) (pv 5) (hr.mono (by first | decide | omega)) pass0) pe_int (fun _ _ => rfl))) (pss_one (ps_expr (pe_bm PySem.F.plainAttrs_list PySem.F.slot_list_extend PySem.F.type_list_extend mt_extend (pv 4) (pa_cons (pe_call (ok_call_rows T) (hr.mono (by first | decide | omega)) (by rfl) T.g_call_rows T.F_call_rows.kp T.b_call_rows .nil pass0 (pa_cons (pe_meth (pv 0) T.c_Program T.m_Program_named (ok_Program_named T) (hr.mono (by first | decide | omega)) T.b_Program_named .nil pass0 (pa_cons (pv 6) pa_nil)) (pa_cons (pe_dget (hu_of hr) (pv 2) (pv 6) (fun _ _ => rfl)) (pa_cons (pe_um0 (p := fun _ => True) (fun d _ => me_told T d) (pv 5) (hr.mono (by first | decide | omega)) pass0) pa_nil)))) pa_nil))))) (pss_one (ps_expr (pe_bm PySem.F.plainAttrs_list PySem.F.slot_list_append PySem.F.type_list_append mt_append (pv 4) (pa_cons (pv 5) pa_nil))))))) (pss_one (ps_dput (hu_of hr) (pv 2) (pv 3) (pv 4) rfl))))) (pss_one (ps_ret (pe_dget (hu_of hr) (pv 2) (pv 1) (fun _ _ => rfl)))))), ?_⟩
    obtain ⟨c, dx, d, as, h1, h2, h3, h4⟩ := id pg
    have hi : i0 < pd.length := (List.getElem?_eq_some_iff.mp hn).1
    intro F hF
    have s1 : Same H (upd H F (.dK [])) := Same.new hF
    refine ⟨_, rfl, a, dx, _, rfl, s1 _ _ h1, rfl, _, rfl, a, pd, i0, n, rfl, pg.mono s1, hn, fun l1 H1 s2 hl1 => ?_⟩
    refine ⟨_, rfl, sz (n := 1) (by decide), fun l2 hl2 => ?_⟩
    have n12 : l1 ≠ l2 := fun e => by
      subst e
      rw [hl1] at hl2
      cases hl2
    refine ⟨l1, l2, _, _, rfl, rfl, by rw [upd_ne n12]; exact hl1, upd_same, ?_, fun l3 hl3 => ?_⟩
    · rw [List.length_map, List.length_map, List.length_take]
      have := c.len
      exact sz (by simp; omega)
    rw [below_all hn]
    have s3 : Same H1 (upd (upd H1 l2 (.lst [.str n.name])) l3 (.lst ((List.range (i0 + 1)).map fun j => V.str (nmAt pd j)))) := (Same.new hl2).trans (Same.new hl3)
    have g3 : upd (upd H1 l2 (.lst [.str n.name])) l3 (.lst ((List.range (i0 + 1)).map fun j => V.str (nmAt pd j))) l3 = some (.lst ((List.range (i0 + 1)).map fun j => V.str (nmAt pd j))) := upd_same
    generalize upd (upd H1 l2 (.lst [.str n.name])) l3 (.lst ((List.range (i0 + 1)).map fun j => V.str (nmAt pd j))) = H3 at s3 g3 ⊢
    have gF : H3 F = some (.dK []) := s3 _ _ (s2 _ _ upd_same)
    have s03 : Same H H3 := s1.trans (s2.trans s3)
    have nF3 : l3 ≠ F := fun e => by
      subst e
      rw [gF] at g3
      cases g3
    refine ⟨l3, rfl, ⟨_, SqL.of g3⟩, ?_⟩
    refine for_map (wm_list (List.range (i0 + 1)) fun j => V.str (nmAt pd j)) (fun pre σ H4 => Same H H4 ∧ H4 l3 = some (.lst ((List.range (i0 + 1)).map fun j => V.str (nmAt pd j))) ∧ (∃ x1 x2 x3 x4, σ = [some (.ref a), some (.str n.name), some (.ref F), x1, x2, x3, x4]) ∧ KnR K H4 F pd pre.length)
      ⟨s03, g3, ⟨_, _, _, _, rfl⟩, fun _ => 0, fun _ => [], gF, fun s hs => absurd hs (Nat.not_lt_zero _)⟩ (fun pre σ H4 q => SqL.of q.2.1) (fun pre j post σ H4 e q => ?_) (fun σ H4 q => ?_)
    · obtain ⟨s4, gl4, ⟨x1, x2, x3, x4, rfl⟩, la, rss, gF4, kr⟩ := q
      obtain ⟨hj, hpre, hlt⟩ := range_pre e
      rw [← hj] at gF4 kr
      obtain ⟨m, hm⟩ := at_lt (pd := pd) (j := j) (by omega)
      have hmn := nmAt_some hm
      have hma := ndAt_some hm
      have hmp := List.mem_of_getElem? hm
      have fij := flat_fi c sh j m hm
      have hzj : (flat pd j).length ≤ 200 := Nat.le_trans (flat_le c sh (by omega) hi) hz
      refine ⟨sz (n := 0) (by decide), fun R hR => ?_⟩
      have s5 : Same H4 (upd H4 R (.lst [])) := Same.new hR
      have gR5 : upd H4 R (.lst []) R = some (.lst []) := upd_same
      generalize upd H4 R (.lst []) = H5 at s5 gR5 ⊢
      have s05 := s4.trans s5
      refine ⟨_, rfl, a, dx, _, rfl, s05 _ _ h1, rfl, _, rfl, a, m, pd, by rw [hmn]; rfl, pg.mono s05, hmp, fun b2 nb2 => ?_⟩
      obtain ⟨dy, ki, ko, kr2, te, rs0, f1, f2, f3⟩ := id nb2
      refine ⟨b2, dy, _, rfl, f1, rfl, b2, m, rfl, nb2, fun l6 ts H6 s6 hl6 e6 hE6 => ?_⟩
      refine ⟨l6, rfl, ⟨_, SqL.of hl6⟩, ?_⟩
      have gR6 := s6 _ _ gR5
      have hs := sh_at c sh hm
      have n6R : l6 ≠ R := fun z => by
        rw [z, gR6] at hl6
        injection hl6 with hl6
        injection hl6 with hl6
        have h0 : ts = [] := List.map_eq_nil_iff.mp hl6.symm
        rw [h0, hs.ok.rows] at e6
        cases e6
      have hz7 : ∀ H7, SameX R H6 H7 → Same H4 H7 := fun H7 x => SameX.of (SameX.trans (Same.x (s5.trans s6)) x) hR
      refine for_map (wm_list ts fun p => V.ref p.1) (fun pre2 σ H7 => SameX R H6 H7 ∧ (∃ x5 x6, σ = [some (.ref a), some (.str n.name), some (.ref F), some (.str (nmAt pd j)), some (.ref R), x5, x6]) ∧ ∃ acc : List PR, H7 R = some (.lst (acc.map fun p => .ref p.1)) ∧ acc.map (·.2) = (pre2.map (·.2)).flatMap (outR (ndAt pd (j - 1)) (flP pd j)) ∧ ∀ p, p ∈ acc → EqO K H7 p.1 p.2)
        ⟨SameX.refl _ _, ⟨_, _, rfl⟩, [], gR6, rfl, fun p hp => by cases hp⟩ (fun pre2 σ H7 q => SqL.of (q.1 _ _ n6R hl6)) (fun pre2 t post2 σ H7 e2 q => ?_) (fun σ H7 q => ?_)
      · obtain ⟨x7, ⟨x5, x6, rfl⟩, acc, gR7, ea, hE⟩ := q
        have ht : t ∈ ts := by
          rw [e2]
          simp
        have htr : t.2 ∈ m.rows := by
          rw [← e6]
          exact List.mem_map_of_mem ht
        have n67 : SameN H6 H7 := SameX.nL x7 gR6
        have eo : EqO K H7 t.1 t.2 := (hE6 t ht).monoN n67
        have s47 : Same H4 H7 := hz7 H7 x7
        have s07 := s4.trans s47
        have hcut : ((pre2.map (·.2)).flatMap (outR (ndAt pd (j - 1)) (flP pd j))).length + (outR (ndAt pd (j - 1)) (flP pd j) t.2).length ≤ 200 := by
          have h9 := hzj
          rw [flat_eq, hma, ← e6, e2, List.map_append, List.map_cons, List.flatMap_append, List.flatMap_cons, List.length_append, List.length_append] at h9
          omega
        have hacc : acc.length = ((pre2.map (·.2)).flatMap (outR (ndAt pd (j - 1)) (flP pd j))).length := by
          rw [← ea, List.length_map]
        refine ⟨t.2, trivial, _, rfl, t.1, rfl, eo, t.1, rfl, eo, t.2.isCall, rfl, ?_⟩
        cases hcl : t.2.isCall with
        | false =>
          refine iteF ?_
          refine ⟨_, rfl, .inl ⟨rfl, _, SqL.of gR7⟩, _, rfl, R, _, _, rfl, rfl, gR7, ?_, SameX.put x7, ⟨_, _, rfl⟩, acc ++ [t], ?_, ?_, fun p hp => ?_⟩
          · rw [List.length_map]
            exact szl (by omega)
          · rw [upd_same, List.map_append]
            rfl
          · rw [List.map_append, ea, List.map_append, List.flatMap_append]
            congr 1
            show [t.2] = outR _ _ t.2 ++ []
            rw [List.append_nil]
            revert hcl
            cases t.2 with
            | bef x v a => exact fun _ => rfl
            | call x c a k => exact fun h => by cases h
            | pln x t => exact fun _ => rfl
          · refine EqO.monoN (SameN.lst gR7) ?_
            rcases List.mem_append.mp hp with hp | hp
            · exact hE p hp
            · rw [List.mem_singleton.mp hp]
              exact eo
        | true =>
          refine iteT ?_
          obtain ⟨ta, tr⟩ := t
          cases tr with
          | bef x v a => cases hcl
          | pln x t => cases hcl
          | call x cn b kk =>
            obtain ⟨jp, q, ej, hq, ecn, ekk⟩ := c.calls j m hm x cn b kk htr
            subst ej
            have hqn := nmAt_some hq
            have hqa := ndAt_some hq
            have okq := c.oks q (List.mem_of_getElem? hq)
            have fiq := flat_fi c sh jp q hq
            have orow := hs.oks.rws _ htr
            obtain ⟨q1, q2, q3⟩ := kr jp (by omega)
            have hb : b = (shAt ss (jp + 1)).in0 := by
              have h9 := htr
              rw [hs.ok.rows] at h9
              rcases List.mem_cons.mp h9 with h9 | h9
              · cases h9
              · rcases List.mem_append.mp h9 with h9 | h9
                · obtain ⟨z, _, h9⟩ := List.mem_map.mp h9
                  injection h9 with _ _ h9 _
                  exact h9.symm
                · cases List.mem_singleton.mp h9
            have hv := ctK_get c (f := fun s => .ref (la s)) (j := jp + 1) (s := jp) (by omega) (by omega)
            have hzp : (flat pd jp).length ≤ 200 := Nat.le_trans (flat_le c sh (by omega) hi) hz
            refine ⟨_, trivial, _, rfl, ta, rfl, eo, ta, rfl, eo, fun dd hd => ?_⟩
            obtain ⟨o1, g1, d1, d2, d3⟩ := id hd
            refine ⟨dd, _, 2, _, rfl, rfl, d1, rfl, ?_⟩
            refine ⟨_, rfl, .inl ⟨rfl, _, SqL.of gR7⟩, ?_⟩
            refine ⟨_, rfl, a, dx, _, rfl, s07 _ _ h1, rfl, _, rfl, a, q, pd, by rw [ecn]; rfl, pg.mono s07, List.mem_of_getElem? hq, fun b3 nb3 => ?_⟩
            refine ⟨_, rfl, _, rfl, F, _, rfl, by rw [ecn, ← hqn, ← hv]; exact DGet.k (k := .inr (nmAt pd jp)) (s47 _ _ gF4), ?_⟩
            refine ⟨_, trivial, _, rfl, ta, rfl, eo, ta, rfl, eo, fun dd2 hd2 => ?_⟩
            have hp1 : jp + 2 ≤ 8 := by
              have := c.len
              omega
            have hinP : Ptd (shAt ss (jp + 1)).in0 := hs.oks.insP _ (by rw [hs.ok.ins]; exact List.mem_cons_self ..)
            refine ⟨b3, la jp, dd2, q, rss jp, x, cn, b, (shAt ss jp).in0, kk, jp + 1, rfl, nb3, okq, s47 _ _ q1, fun p hp => (q3 p hp).mono s47, ?_, hd2, ekk, orow.more.2.2, by rw [q2]; exact fiq, by omega, okq.insP _ fiq.inn, orow.tell, fun r hr => ?_, fun l9 rs9 H9 s9 hl9 e9 hE9 => ?_⟩
            · have := congrArg List.length q2
              rw [List.length_map] at this
              omega
            · refine fij.oks hp1 hinP ?_
              rw [flat_eq, hma]
              refine List.mem_flatMap.mpr ⟨_, htr, ?_⟩
              show r.ren (rho q b x) ∈ (flat pd jp).map (Rw.ren (rho (ndAt pd jp) b x))
              rw [hqa, ← q2]
              exact List.mem_map_of_mem hr
            · have gR9 := s9 _ _ gR7
              have e10 : outR (ndAt pd (jp + 1 - 1)) (flP pd (jp + 1)) (.call x cn b kk) = rs9.map (·.2) := by
                rw [e9, q2]
                show (flat pd jp).map (Rw.ren (rho (ndAt pd jp) b x)) = _
                rw [hqa]
              refine ⟨R, l9, _, _, rfl, rfl, gR9, hl9, ?_, SameX.put (SameX.trans x7 (Same.x s9)), ⟨_, _, rfl⟩, acc ++ rs9, ?_, ?_, fun p hp => ?_⟩
              · rw [e10, List.length_map] at hcut
                rw [List.length_map, List.length_map]
                exact sz (by omega)
              · rw [upd_same, List.map_append]
              · rw [List.map_append, ea, List.map_append, List.flatMap_append]
                congr 1
                show _ = outR _ _ (.call x cn b kk) ++ []
                rw [List.append_nil, e10]
              · refine EqO.monoN (SameN.lst gR9) ?_
                rcases List.mem_append.mp hp with hp | hp
                · exact (hE p hp).mono s9
                · exact hE9 p hp
      · obtain ⟨x7, ⟨x5, x6, rfl⟩, acc, gR7, ea, hE⟩ := q
        have s47 : Same H4 H7 := hz7 H7 x7
        have gF7 := s47 _ _ gF4
        have nRF : R ≠ F := fun z => by
          rw [z, gF7] at gR7
          cases gR7
        have n3F : l3 ≠ F := fun z => by
          rw [z, gF4] at gl4
          cases gl4
        have nD := SameX.nD (SameX.upd2 (H := H7) (x := F) (v := .dK (putK (ctK pd (fun s => .ref (la s)) j) (.inr (nmAt pd j)) (.ref R)))) gF7
        refine ⟨_, rfl, _, rfl, _, rfl, F, _, rfl, DPut.k (k := .inr (nmAt pd j)) gF7 (ctK_len c (by omega)), ?_, ?_, ⟨_, _, _, _, rfl⟩, fun s => if s = j then R else la s, fun s => if s = j then acc else rss s, ?_, fun s hs' => ?_⟩
        · exact SameX.of (SameX.put (Same.x (s4.trans s47))) hF
        · rw [upd_ne n3F]
          exact s47 _ _ gl4
        · rw [upd_same, List.length_append, ← hj]
          have e9 : ctK pd (fun s => V.ref (la s)) j = ctK pd (fun s => V.ref (if s = j then R else la s)) j := by
            unfold ctK
            apply List.map_congr_left
            intro s hs
            have := List.mem_range.mp hs
            show ((Sum.inr (nmAt pd s) : Key), V.ref (la s)) = (Sum.inr (nmAt pd s), V.ref (if s = j then R else la s))
            rw [if_neg (by omega)]
          rw [e9]
          have := ctK_put c (f := fun s => V.ref (if s = j then R else la s)) (j := j) (by omega)
          rw [if_pos rfl] at this
          rw [this]
          rfl
        · rw [List.length_append, List.length_singleton, ← hj] at hs'
          by_cases hsj : s = j
          · subst hsj
            dsimp only
            rw [if_pos rfl, if_pos rfl, upd_ne nRF]
            refine ⟨gR7, ?_, fun p hp => (hE p hp).monoN nD⟩
            rw [ea, e6, flat_eq, hma]
          · dsimp only
            rw [if_neg hsj, if_neg hsj]
            obtain ⟨q1, q2, q3⟩ := kr s (by omega)
            have : la s ≠ F := fun z => by
              rw [z, gF4] at q1
              cases q1
            exact ⟨by rw [upd_ne this]; exact s47 _ _ q1, q2, fun p hp => ((q3 p hp).mono s47).monoN nD⟩
    · obtain ⟨s4, gl4, ⟨x1, x2, x3, x4, rfl⟩, la, rss, gF4, kr⟩ := q
      rw [List.length_range] at gF4 kr
      have hv := ctK_get c (f := fun s => .ref (la s)) (j := i0 + 1) (s := i0) (by omega) (by omega)
      obtain ⟨q1, q2, q3⟩ := kr i0 (by omega)
      exact ⟨_, rfl, _, rfl, F, _, rfl, by rw [← hv, nmAt_some hn]; exact DGet.k (k := .inr n.name) gF4, k _ (rss i0) H4 s4 q1 q2 q3⟩
end
end K99
/-! K42 -/
namespace K99
open PySem PySem.Spec PyProof.Rows L2
section
variable {P : Program} {w : World} {K : PySem.W.Frag} {mg : Str → Option Value} {base : Heap}
def spFew (K : PySem.W.Frag) : Sp := fun vs H Q _ => ∃ (a : Addr) (pd : List ND) (i0 : Nat) (n : ND), vs = [V.ref a, .str n.name] ∧ PgO K H a pd ∧ pd[i0]? = some n ∧ cnt pd i0 ≤ 200 ∧ ∀ H', Same H H' → Q .non H'
theorem ok_need_few (T : Txt K mg) : FnOk P w K mg base CX0 10 (f_need_few K) (fdAt K (f_need_few K)) P_need_few (spFew K) := by
  obtain ⟨t_MOST_NAMES, e_MOST_NAMES⟩ := T.i_MOST_NAMES
  refine FunD.ok T.F_need_few sc_need_few (fun vs H Q E h => ?_) (fun cdv A outer s H vs Q E hr h => ?_)
  · obtain ⟨a, pd, i0, n, rfl, _⟩ := h
    rfl
  · obtain ⟨a, pd, i0, n, rfl, pg, hn, hc, k⟩ := h
    obtain ⟨t_MOST_NAMES, e_MOST_NAMES⟩ := T.i_MOST_NAMES
    refine ⟨_, PSs.nox (pss_cons (ps_set (i := 2) sc_need_few.nd rfl (by first | exact Or.inl rfl | exact Or.inr rfl) (pe_call (ok_how_many T) (hr.mono (by first | decide | omega)) (by rfl) T.g_how_many T.F_how_many.kp T.b_how_many .nil pass0 (pa_cons (pv 0) (pa_cons (pv 1) pa_nil)))) (pss_one (ps_if (pt_cmpR op_gt (pv 2) (pe_glob (v := .int 200) rfl e_MOST_NAMES ⟨t_MOST_NAMES, rfl⟩) (by rfl)) pB pss_nil))), ?_⟩
    refine ⟨_, rfl, _, rfl, a, pd, i0, n, rfl, pg, hn, fun H1 s1 => ?_⟩
    refine ⟨_, rfl, _, _, rfl, rfl, false, ?_, iteF (k H1 s1)⟩
    show V.bl (decide ((200 : Int) < cnt pd i0)) = .bl false
    rw [decide_eq_false (by omega)]
def spWritten (K : PySem.W.Frag) : Sp := fun vs H Q _ => ∃ (a : Addr) (pd : List ND) (ss : List Sh) (i0 : Nat) (n : ND), vs = [V.ref a, .str n.name] ∧ PgO K H a pd ∧ Shs pd ss ∧ pd[i0]? = some n ∧ cnt pd i0 ≤ 200 ∧ ∀ b H', Same H H' → NdO K H' b (outN pd i0) → Q (.ref b) H'
theorem paired_told {K : PySem.W.Frag} {H : Hp} {rs : List PR} {xs : List V} (h : Paired (fun (p : PR) v => ∃ b, v = .ref b ∧ RwD K H b p.2) rs xs) : ∃ ds : List PR, xs = ds.map (fun p => .ref p.1) ∧ ds.map (·.2) = rs.map (·.2) ∧ ∀ p, p ∈ ds → RwD K H p.1 p.2 := by
  induction h with
  | nil => exact ⟨[], rfl, rfl, fun _ h => by cases h⟩
  | cons q r ih =>
    obtain ⟨b, rfl, o⟩ := q
    obtain ⟨rs, rfl, e2, e3⟩ := ih
    rename_i d _
    refine ⟨(b, d.2) :: rs, rfl, by simp [e2], fun p hp => ?_⟩
    rcases List.mem_cons.mp hp with rfl | hp
    · exact o
    · exact e3 p hp
theorem ok_written_out (T : Txt K mg) : FnOk P w K mg base CX0 58 (f_written_out K) (fdAt K (f_written_out K)) P_written_out (spWritten K) := by
  refine FunD.ok T.F_written_out sc_written_out (fun vs H Q E h => ?_) (fun cdv A outer s H vs Q E hr h => ?_)
  · obtain ⟨a, pd, ss, i0, n, rfl, _⟩ := h
    rfl
  · obtain ⟨a, pd, ss, i0, n, rfl, pg, sh, hn, hc, k⟩ := h
    refine ⟨_, PSs.nox (pss_cons (ps_expr (pe_call (ok_need_few T) (hr.mono (by first | decide | omega)) (by rfl) T.g_need_few T.F_need_few.kp T.b_need_few .nil pass0 (pa_cons (pv 0) (pa_cons (pv 1) pa_nil)))) (pss_cons (ps_set (i := 2) sc_written_out.nd rfl (by first | exact Or.inl rfl | exact Or.inr rfl) (pe_meth (pv 0) T.c_Program T.m_Program_named (ok_Program_named T) (hr.mono (by first | decide | omega)) T.b_Program_named .nil pass0 (pa_cons (pv 1) pa_nil))) (pss_one (ps_ret (pe_make T.mk_Node (ok_Node_init T (outN pd i0)) (hr.mono (by first | decide | omega)) rfl T.g_Node T.b_Node_init .nil pass0 (pa_cons (pv 1) (pa_cons (pe_meth0 (pv 2) T.c_Node T.m_Node_inputs (ok_Node_inputs T) (hr.mono (by first | decide | omega)) T.b_Node_inputs .nil pass0) (pa_cons (pe_meth0 (pv 2) T.c_Node T.m_Node_outs (ok_Node_outs T) (hr.mono (by first | decide | omega)) T.b_Node_outs .nil pass0) (pa_cons (pe_lc (own := [("row", 3)]) (by rfl) sc_written_out.nd (pi_list (pe_call (ok_rows_out T) (hr.mono (by first | decide | omega)) (by rfl) T.g_rows_out T.F_rows_out.kp T.b_rows_out .nil pass0 (pa_cons (pv 0) (pa_cons (pv 1) pa_nil)))) (blkOk_by (N := N_written_out) (sc := defScope s_written_out) (by decide +kernel)) (fun _ _ _ _ _ => (pg_name (i := 3) sc_written_out.nd rfl (by first | exact Or.inl rfl | exact Or.inr rfl))) (fun _ _ _ _ _ => pts_nil) (fun _ _ _ _ _ => (pe_um0 (p := fun _ => True) (fun d _ => me_told T d) (pv 3) (hr.mono (by first | decide | omega)) pass0))) pa_nil))))))))), ?_⟩
    obtain ⟨c, dx, d, as, h1, h2, h3, h4⟩ := id pg
    have hf := flat_cnt c sh i0 n hn
    refine ⟨_, rfl, _, rfl, a, pd, i0, n, rfl, pg, hn, hc, fun H1 s1 => ?_⟩
    refine ⟨_, rfl, a, dx, _, rfl, s1 _ _ h1, rfl, _, rfl, a, n, pd, rfl, pg.mono s1, List.mem_of_getElem? hn, fun b nb => ?_⟩
    obtain ⟨dy, ki, ko, kr2, te, rs0, f1, f2, f3⟩ := id nb
    refine ⟨_, rfl, _, rfl, b, dy, _, rfl, f1, rfl, b, n, rfl, nb, fun l1 H2 s2 hl1 => ?_⟩
    refine ⟨_, rfl, b, dy, _, rfl, s2 _ _ f1, rfl, b, n, rfl, nb.mono s2, fun l2 H3 s3 hl2 => ?_⟩
    have s03 := s1.trans (s2.trans s3)
    refine ⟨_, rfl, _, rfl, a, pd, ss, i0, n, rfl, pg.mono s03, sh, hn, by omega, fun l4 rs H4 s4 hl4 e4 hE4 => ?_⟩
    refine ⟨l4, rfl, ⟨_, SqL.of hl4⟩, fun D hD => ?_⟩
    have hz : rs.length ≤ 200 := by
      have := congrArg List.length e4
      rw [List.length_map] at this
      omega
    refine lc_new (wm_list rs fun p => V.ref p.1) (fun H p v => ∃ g, v = .ref g ∧ RwD K H g p.2) (fun H H' p v s' ⟨g, e1, o⟩ => ⟨g, e1, o.monoN s'⟩) hD (Nat.le_trans hz (by decide)) (fun H' s' => SqL.of (s' _ _ hl4)) (fun _ => rfl) (fun p H5 hp s5 Q' q' => ?_) (fun H5 xs s5 h5 pr => ?_) (fun _ _ _ q => q)
    · have e5 := (hE4 p hp).mono s5
      exact ⟨p.2, trivial, _, rfl, p.1, rfl, e5, p.1, rfl, e5, fun dd hd => q' _ _ (Same.refl _) ⟨dd, rfl, hd⟩⟩
    · obtain ⟨ds, rfl, e5, hD5⟩ := paired_told pr
      intro y dy hy hdy hne
      have s35 := s3.trans (s4.trans s5)
      have s6 : Same H5 (upd (upd H5 dy (.own y)) y (.ins (A_Node K) dy [])) := (Same.new hdy).trans (Same.new (by rw [upd_ne hne.symm]; exact hy))
      have hna : (outN pd i0).name = n.name := by
        unfold outN
        rw [ndAt_some hn]
      have hin : (outN pd i0).ins = n.ins := by
        unfold outN
        rw [ndAt_some hn]
      have hou : (outN pd i0).out = n.out := by
        unfold outN
        rw [ndAt_some hn]
      refine ⟨y, l1, l2, D, dy, ds, H5, by rw [hna]; rfl, hy, s6, upd_same, by rw [hin]; exact .inl (SqL.of (s35 _ _ hl1)), by rw [hou]; exact .inl (SqL.of ((s4.trans s5) _ _ hl2)), .inl (SqL.of h5), by rw [e5, e4]; rfl, hD5, outN_oks c sh hn hc, fun H6 s7 o6 => ⟨rfl, ?_⟩⟩
      exact k y H6 ((s03.trans (s4.trans s5)).trans (new_same hy hdy s7)) o6
end
end K99
/-! K43 -/
namespace K99
open PySem PySem.Spec PyProof.Rows L2
/-! ### exceptions -/
section
variable {P : Program} {w : World} {K : PySem.W.Frag} {mg : Str → Option Value} {base : Heap}
theorem Txt.veb (T : Txt K mg) : PySem.W.specialIn K (.ref (A_BeatError K)) "__getattribute__" = some (some (.builtin "type.__getattribute__")) ∧ PySem.W.readsIn K (A_BeatError K) (.type "type") = true ∧
    PySem.W.findCls K (.ref (A_BeatError K)) (.type "type") "__init__" = some (.val (.builtin "ValueError.__init__")) := by
  have h := T.fct 33 (f := .clsb "BeatError" "__init__" "ValueError.__init__") rfl
  obtain ⟨h1, h2⟩ := He.ba h
  obtain ⟨h2, h3⟩ := He.ba h2
  refine ⟨of_decide_eq_true h1, h2, ?_⟩
  split at h3
  · rename_i a e
    rw [e, of_decide_eq_true h3]
  · cases h3
def spExI (C : Addr) (f : Str) : Sp := fun vs H Q _ => ∃ (a : Addr) (v : V), vs = [.ref a, v] ∧ H a = some (exo a C none) ∧ ∀ dx, H dx = none → dx ≠ a → Q .non (upd (upd H dx (exd dx [(f, v)])) a (exo a C (some dx)))
theorem Txt.oexU (T : Txt K mg) : OexC K (A_Unknown K) ∧ PySem.W.findIn K (.ref (A_Unknown K)) "__init__" = some (some (.ref (f_Unknown_init K))) ∧ PySem.W.typeIn K (.ref (f_Unknown_init K)) = some (.type "function") ∧
    PySem.W.exmOne K (.ref (A_Unknown K)) (.ref (A_Unknown K)) = some true ∧ XfC K (A_Unknown K) := oexB_ok (T.fct 34 (f := .oex "Unknown") rfl)
theorem Txt.oexT (T : Txt K mg) : OexC K (A_TooMany K) ∧ PySem.W.findIn K (.ref (A_TooMany K)) "__init__" = some (some (.ref (f_TooMany_init K))) ∧ PySem.W.typeIn K (.ref (f_TooMany_init K)) = some (.type "function") ∧
    PySem.W.exmOne K (.ref (A_TooMany K)) (.ref (A_TooMany K)) = some true ∧ XfC K (A_TooMany K) := oexB_ok (T.fct 35 (f := .oex "TooMany") rfl)
theorem ok_Unknown_init (T : Txt K mg) : FnOk P w K mg base CX0 1 (f_Unknown_init K) (fdAt K (f_Unknown_init K)) P_Unknown_init (spExI (A_Unknown K) "name") := by
  refine FunD.ok T.F_Unknown_init sc_Unknown_init (fun vs H Q E h => ?_) (fun cdv A outer s H vs Q E hr h => ?_)
  · obtain ⟨a, v, rfl, _⟩ := h
    rfl
  · obtain ⟨a, v, rfl, h1, k⟩ := h
    obtain ⟨e1, e2, e3⟩ := T.veb
    refine ⟨_, PSs.nox (pss_cons (ps_expr (pe_clsve (by rfl) T.g_BeatError e1 e2 e3 (pa_cons (pv 0) (pa_cons pe_str pa_nil)))) (pss_one (ps_ost (pv 0) (pv 1)))), ?_⟩
    refine ⟨_, rfl, a, A_Unknown K, _, rfl, by show 1 ≤ 1000; decide, T.oexU.1, h1, ?_⟩
    exact ⟨_, rfl, _, rfl, a, A_Unknown K, rfl, T.oexU.1, T.n_Unknown_name, .inl ⟨h1, fun dx h2 h3 => k dx h2 h3⟩⟩
theorem ok_TooMany_init (T : Txt K mg) : FnOk P w K mg base CX0 1 (f_TooMany_init K) (fdAt K (f_TooMany_init K)) P_TooMany_init (spExI (A_TooMany K) "many") := by
  refine FunD.ok T.F_TooMany_init sc_TooMany_init (fun vs H Q E h => ?_) (fun cdv A outer s H vs Q E hr h => ?_)
  · obtain ⟨a, v, rfl, _⟩ := h
    rfl
  · obtain ⟨a, v, rfl, h1, k⟩ := h
    obtain ⟨e1, e2, e3⟩ := T.veb
    refine ⟨_, PSs.nox (pss_cons (ps_expr (pe_clsve (by rfl) T.g_BeatError e1 e2 e3 (pa_cons (pv 0) (pa_cons pe_str pa_nil)))) (pss_one (ps_ost (pv 0) (pv 1)))), ?_⟩
    refine ⟨_, rfl, a, A_TooMany K, _, rfl, by show 1 ≤ 1000; decide, T.oexT.1, h1, ?_⟩
    exact ⟨_, rfl, _, rfl, a, A_TooMany K, rfl, T.oexT.1, T.n_TooMany_many, .inl ⟨h1, fun dx h2 h3 => k dx h2 h3⟩⟩
end
end K99
/-! K44 -/
namespace K99
open PySem PySem.Spec PyProof.Rows L2
theorem same_exc {H : Hp} {a d C : Addr} {u : HO} {fs : List (Str × V)} (h1 : H a = none) (h2 : upd H a (exo a C none) d = none) : Same H (upd (del (upd (upd (upd H a (exo a C none)) d u) a (exo a C (some d))) a) d (.xd fs)) := fun b o q => by
  have hb : b ≠ a := ne_of_none q h1
  have hd : b ≠ d := fun e => by
    subst e
    rw [upd_ne hb, q] at h2
    cases h2
  rw [upd_ne hd, del_ne hb, upd_ne hb, upd_ne hd, upd_ne hb]
  exact q
theorem mk_exc {C : Addr} {f : Str} {H : Hp} {W : XK} {v : V} (k : ∀ d H', Same H H' → H d = none → H' d = some (.xd [(f, v)]) → W (.ref C) (some d) H') : [v].length ≤ 1000 ∧ ∀ a, H a = none → spExI C f (.ref a :: ([v] ++ [])) (upd H a (exo a C none))
    (fun u H2 => u = .non ∧ ∃ (d : Addr) (fs : List (Str × V)), H2 a = some (exo a C (some d)) ∧ H2 d = some (exd d fs) ∧ H d = none ∧ W (.ref C) (some d) (upd (del H2 a) d (.xd fs))) (fun _ _ _ => False) := by
  refine ⟨by show 1 ≤ 1000; decide, fun a ha => ⟨a, v, rfl, upd_same, fun d hd hda => ⟨rfl, d, [(f, v)], upd_same, ?_, ?_, k d _ (same_exc ha hd) ?_ upd_same⟩⟩⟩
  · rw [upd_ne hda]
    exact upd_same
  · rw [upd_ne hda] at hd
    exact hd
  · rw [upd_ne hda] at hd
    exact hd
section
variable {P : Program} {w : World} {K : PySem.W.Frag} {mg : Str → Option Value} {base : Heap}
def XU (K : PySem.W.Frag) (H : Hp) (z : Str) (E : XK) : Prop := ∀ d H', Same H H' → H d = none → H' d = some (.xd [("name", .str z)]) → E (.ref (A_Unknown K)) (some d) H'
def XT (K : PySem.W.Frag) (H : Hp) (i : Int) (E : XK) : Prop := ∀ d H', Same H H' → H d = none → H' d = some (.xd [("many", .int i)]) → E (.ref (A_TooMany K)) (some d) H'
def spStrange (K : PySem.W.Frag) : Sp := fun vs H _ E => ∃ a z pd, vs = [V.ref a, .str z] ∧ PgO K H a pd ∧ z ∉ pd.map ND.name ∧ XU K H z E
theorem ok_namedX (T : Txt K mg)  : FnOk P w K mg base (L2.CX P w) 4 (f_Program_named K) (fdAt K (f_Program_named K)) P_Program_named (spStrange K) := by
  refine FunD.ok T.F_Program_named sc_Program_named (fun vs H Q E h => ?_) (fun cdv A outer s H vs Q E hr h => ?_)
  · obtain ⟨a, z, pd, rfl, _⟩ := h
    rfl
  · obtain ⟨a, z, pd, rfl, ⟨c, dx, d, as, h1, h2, h3, h4⟩, hn, k⟩ := h
    refine ⟨_, (pss_cons (ps_if (PW.pt (pw_or (pt_not (pt_val (pe_callB call_isi (by rfl) T.z_isinstance boot_isinstance (pa_cons (pv 1) (pa_cons (pe_bltn (v := .ty "str") (by rfl) T.z_str boot_str rfl) pa_nil))))) (pw_or1 (pt_cmp (pc_dnotin (hu_of hr) (pv 1) (pe_fld (pv 0) rfl)))))) (pss_one (ps_raise rfl (takes_of rfl rfl rfl rfl) (pmk_oex T.oexU.1 T.oexU.2.1 T.oexU.2.2.1 (ok_Unknown_init T) (hr.mono (by first | decide | omega)) T.b_Unknown_init .nil pass0 (by rfl) T.g_Unknown (pa_cons (pv 1) pa_nil)))) pss_nil) (pss_one (ps_ret (pe_dget (hu_of hr) (pe_fld (pv 0) rfl) (pv 1) (fun _ _ => rfl))))), ?_⟩
    have hv : valV (as.map fun p => ((Sum.inr p.2.name : Key), V.ref p.1)) (.inr z) = none := valV_no (f := fun p : PN => p.2.name) (g := fun p : PN => V.ref p.1) (by rw [as_names h3]; exact hn)
    refine ⟨_, rfl, _, _, _, _, true, rfl, .ty _, .base (.str _), kit_ty (by decide +kernel), true, rfl, iteF ?_⟩
    refine ⟨_, rfl, _, rfl, a, _, _, _, _, rfl, h1, T.c_Program, T.n_Program_by_name, rfl, d, _, rfl, DGet.k (k := .inr z) h2, true, ?_, iteT ?_⟩
    · rw [hv]
      rfl
    · exact ⟨_, rfl, mk_exc fun d H' s hd h => k d H' s hd h⟩
theorem ok_how_manyX (T : Txt K mg)  : FnOk P w K mg base (L2.CX P w) 5 (f_how_many K) (fdAt K (f_how_many K)) P_how_many (spStrange K) := by
  refine FunD.ok T.F_how_many sc_how_many (fun vs H Q E h => ?_) (fun cdv A outer s H vs Q E hr h => ?_)
  · obtain ⟨a, z, pd, rfl, _⟩ := h
    rfl
  · obtain ⟨a, z, pd, rfl, pg, hn, k⟩ := h
    refine ⟨_, (pss_cons (ps_expr (pe_meth (pv 0) T.c_Program T.m_Program_named (ok_namedX T) (hr.mono (by first | decide | omega)) T.b_Program_named .nil (passes_call (takes_of rfl rfl rfl rfl) fun _ _ _ _ h => h) (pa_cons (pv 1) pa_nil))) pB), ?_⟩
    obtain ⟨c, dx, d, as, h1, h2, h3, h4⟩ := id pg
    exact ⟨_, rfl, a, dx, _, rfl, h1, rfl, _, rfl, a, z, pd, rfl, pg, hn, k⟩
theorem ok_cells_inX (T : Txt K mg)  : FnOk P w K mg base (L2.CX P w) 5 (f_cells_in K) (fdAt K (f_cells_in K)) P_cells_in (spStrange K) := by
  refine FunD.ok T.F_cells_in sc_cells_in (fun vs H Q E h => ?_) (fun cdv A outer s H vs Q E hr h => ?_)
  · obtain ⟨a, z, pd, rfl, _⟩ := h
    rfl
  · obtain ⟨a, z, pd, rfl, pg, hn, k⟩ := h
    refine ⟨_, (pss_cons (ps_expr (pe_meth (pv 0) T.c_Program T.m_Program_named (ok_namedX T) (hr.mono (by first | decide | omega)) T.b_Program_named .nil (passes_call (takes_of rfl rfl rfl rfl) fun _ _ _ _ h => h) (pa_cons (pv 1) pa_nil))) pB), ?_⟩
    obtain ⟨c, dx, d, as, h1, h2, h3, h4⟩ := id pg
    exact ⟨_, rfl, a, dx, _, rfl, h1, rfl, _, rfl, a, z, pd, rfl, pg, hn, k⟩
theorem ok_begunX (T : Txt K mg)  : FnOk P w K mg base (L2.CX P w) 5 (f_begun K) (fdAt K (f_begun K)) P_begun (spStrange K) := by
  refine FunD.ok T.F_begun sc_begun (fun vs H Q E h => ?_) (fun cdv A outer s H vs Q E hr h => ?_)
  · obtain ⟨a, z, pd, rfl, _⟩ := h
    rfl
  · obtain ⟨a, z, pd, rfl, pg, hn, k⟩ := h
    refine ⟨_, (pss_cons (ps_expr (pe_meth (pv 0) T.c_Program T.m_Program_named (ok_namedX T) (hr.mono (by first | decide | omega)) T.b_Program_named .nil (passes_call (takes_of rfl rfl rfl rfl) fun _ _ _ _ h => h) (pa_cons (pv 1) pa_nil))) pB), ?_⟩
    obtain ⟨c, dx, d, as, h1, h2, h3, h4⟩ := id pg
    exact ⟨_, rfl, a, dx, _, rfl, h1, rfl, _, rfl, a, z, pd, rfl, pg, hn, k⟩
theorem ok_fittedX (T : Txt K mg)  : FnOk P w K mg base (L2.CX P w) 6 (f_fitted K) (fdAt K (f_fitted K)) P_fitted (spStrange K) := by
  refine FunD.ok T.F_fitted sc_fitted (fun vs H Q E h => ?_) (fun cdv A outer s H vs Q E hr h => ?_)
  · obtain ⟨a, z, pd, rfl, _⟩ := h
    rfl
  · obtain ⟨a, z, pd, rfl, pg, hn, k⟩ := h
    refine ⟨_, (pss_cons (ps_set (i := 2) sc_fitted.nd rfl (by first | exact Or.inl rfl | exact Or.inr rfl) (pe_call (ok_begunX T) (hr.mono (by first | decide | omega)) (by rfl) T.g_begun T.F_begun.kp T.b_begun .nil (passes_call (takes_of rfl rfl rfl rfl) fun _ _ _ _ h => h) (pa_cons (pv 0) (pa_cons (pv 1) pa_nil)))) pB), ?_⟩
    exact ⟨_, rfl, _, rfl, a, z, pd, rfl, pg, hn, k⟩
theorem ok_summary_ofX (T : Txt K mg)  : FnOk P w K mg base (L2.CX P w) 7 (f_summary_of K) (fdAt K (f_summary_of K)) P_summary_of (spStrange K) := by
  refine FunD.ok T.F_summary_of sc_summary_of (fun vs H Q E h => ?_) (fun cdv A outer s H vs Q E hr h => ?_)
  · obtain ⟨a, z, pd, rfl, _⟩ := h
    rfl
  · obtain ⟨a, z, pd, rfl, pg, hn, k⟩ := h
    refine ⟨_, (pss_cons (ps_set (i := 2) sc_summary_of.nd rfl (by first | exact Or.inl rfl | exact Or.inr rfl) (pe_call (ok_fittedX T) (hr.mono (by first | decide | omega)) (by rfl) T.g_fitted T.F_fitted.kp T.b_fitted .nil (passes_call (takes_of rfl rfl rfl rfl) fun _ _ _ _ h => h) (pa_cons (pv 0) (pa_cons (pv 1) pa_nil)))) pB), ?_⟩
    exact ⟨_, rfl, _, rfl, a, z, pd, rfl, pg, hn, k⟩
def spMany (K : PySem.W.Frag) : Sp := fun vs H _ E => ∃ (a : Addr) (pd : List ND) (i0 : Nat) (n : ND), vs = [V.ref a, .str n.name] ∧ PgO K H a pd ∧ pd[i0]? = some n ∧ 200 < cnt pd i0 ∧ XT K H (cnt pd i0) E
theorem XT.mono {H H' : Hp} {i : Int} {E : XK} (s : Same H H') (h : XT K H i E) : XT K H' i E := fun d H2 s2 hd h2 => h d H2 (s.trans s2) (s.free hd) h2
theorem ok_need_fewX (T : Txt K mg)  : FnOk P w K mg base (L2.CX P w) 12 (f_need_few K) (fdAt K (f_need_few K)) P_need_few (spMany K) := by
  obtain ⟨t_MOST_NAMES, e_MOST_NAMES⟩ := T.i_MOST_NAMES
  refine FunD.ok T.F_need_few sc_need_few (fun vs H Q E h => ?_) (fun cdv A outer s H vs Q E hr h => ?_)
  · obtain ⟨a, pd, i0, n, rfl, _⟩ := h
    rfl
  · obtain ⟨a, pd, i0, n, rfl, pg, hn, hc, k⟩ := h
    refine ⟨_, (pss_cons (ps_set (i := 2) sc_need_few.nd rfl (by first | exact Or.inl rfl | exact Or.inr rfl) (pe_call (ok_how_many T) (hr.mono (by first | decide | omega)) (by rfl) T.g_how_many T.F_how_many.kp T.b_how_many .nil pass0 (pa_cons (pv 0) (pa_cons (pv 1) pa_nil)))) (pss_one (ps_if (pt_cmpR op_gt (pv 2) (pe_glob (v := .int 200) rfl e_MOST_NAMES ⟨t_MOST_NAMES, rfl⟩) (by rfl)) (pss_one (ps_raise rfl (takes_of rfl rfl rfl rfl) (pmk_oex T.oexT.1 T.oexT.2.1 T.oexT.2.2.1 (ok_TooMany_init T) (hr.mono (by first | decide | omega)) T.b_TooMany_init .nil pass0 (by rfl) T.g_TooMany (pa_cons (pv 2) pa_nil)))) pss_nil))), ?_⟩
    refine ⟨_, rfl, _, rfl, a, pd, i0, n, rfl, pg, hn, fun H1 s1 => ?_⟩
    refine ⟨_, rfl, _, _, rfl, rfl, true, ?_, iteT ?_⟩
    · show V.bl (decide ((200 : Int) < cnt pd i0)) = .bl true
      rw [decide_eq_true hc]
    · exact ⟨_, rfl, mk_exc fun d H' s hd h => (k.mono s1) d H' s hd h⟩
theorem ok_written_outX (T : Txt K mg)  : FnOk P w K mg base (L2.CX P w) 14 (f_written_out K) (fdAt K (f_written_out K)) P_written_out (spMany K) := by
  refine FunD.ok T.F_written_out sc_written_out (fun vs H Q E h => ?_) (fun cdv A outer s H vs Q E hr h => ?_)
  · obtain ⟨a, pd, i0, n, rfl, _⟩ := h
    rfl
  · obtain ⟨a, pd, i0, n, rfl, pg, hn, hc, k⟩ := h
    refine ⟨_, (pss_cons (ps_expr (pe_call (ok_need_fewX T) (hr.mono (by first | decide | omega)) (by rfl) T.g_need_few T.F_need_few.kp T.b_need_few .nil (passes_call (takes_of rfl rfl rfl rfl) fun _ _ _ _ h => h) (pa_cons (pv 0) (pa_cons (pv 1) pa_nil)))) pB), ?_⟩
    exact ⟨_, rfl, _, rfl, a, pd, i0, n, rfl, pg, hn, hc, k⟩
end
end K99
/-! K45 -/
namespace K99
open PySem PySem.Spec PyProof.Rows L2
/-! ### the law's box -/
def Box (H : Hp) (b : Addr) : Prop := ∃ x y z : Int, H b = some (.lst [.int x, .int y, .int z])
theorem emod_lt {i m : Int} (h : 0 < m) : 0 ≤ i % m ∧ i % m < m := ⟨Int.emod_nonneg _ (by omega), Int.emod_lt_of_pos _ h⟩
section
variable {P : Program} {w : World} {K : PySem.W.Frag} {mg : Str → Option Value} {base : Heap}
def spCellAt (K : PySem.W.Frag) : Sp := fun vs H Q _ => ∃ (a : Addr) (xs : List Int) (k : Nat), vs = [.ref a, .int k] ∧ SqL K H a (xs.map .int) ∧ k ≤ 1000 ∧ ∀ i : Int, Q (.int i) H
theorem ok__law_cell_at (T : Txt K mg) : FnOk P w K mg base CX0 1 (f__law_cell_at K) (fdAt K (f__law_cell_at K)) P__law_cell_at (spCellAt K) := by
  refine FunD.ok T.F__law_cell_at sc__law_cell_at (fun vs H Q E h => ?_) (fun cdv A outer s H vs Q E hr h => ?_)
  · obtain ⟨a, xs, k, rfl, _⟩ := h
    rfl
  · obtain ⟨a, xs, n, rfl, h1, hn, k⟩ := h
    refine ⟨_, PSs.nox (pss_cons (ps_if (pt_cmpR op_lt (pv 1) (pe_callB call_len_seq (by rfl) T.z_len PySem.boot_len (pa_cons (pv 0) pa_nil)) (by rfl)) (pss_one (ps_ret (pe_ix ix_list (pv 0) (pv 1) (fun _ _ => rfl)))) pss_nil) (pss_one (ps_ret (pe_op op_add (pe_op op_mul pe_int (pv 1)) pe_int)))), ?_⟩
    refine ⟨_, rfl, _, rfl, a, _, rfl, .inl h1, _, _, rfl, rfl, decide (n < xs.length), ?_, ?_⟩
    · rw [List.length_map]
      show V.bl (decide ((n : Int) < (xs.length : Int))) = _
      rw [decide_eq_decide.mpr Int.ofNat_lt]
    by_cases c : n < xs.length
    · rw [decide_eq_true c]
      refine iteT ?_
      refine ⟨_, rfl, _, rfl, a, _, _, .int xs[n], rfl, rfl, h1, ?_, k _⟩
      unfold atI ixN
      rw [List.length_map, if_pos (by omega), if_pos (by omega)]
      simp
    · rw [decide_eq_false c]
      refine iteF ?_
      exact ⟨_, rfl, _, _, rfl, rfl, .inl (by decide), _, _, rfl, rfl, k _⟩
def spBox : Sp := fun vs H Q _ => ∃ i : Int, vs = [.int i] ∧ ∀ b, H b = none → ∀ H', Same H H' → Box H' b → Q (.ref b) H'
theorem box_get {H : Hp} {b : Addr} {x y z : Int} (h : H b = some (.lst [.int x, .int y, .int z])) : atI [V.int x, .int y, .int z] 0 = some (.int x) ∧ atI [V.int x, .int y, .int z] 1 = some (.int y) ∧ atI [V.int x, .int y, .int z] 2 = some (.int z) := ⟨rfl, rfl, rfl⟩
theorem ok__law_box (T : Txt K mg) : FnOk P w K mg base CX0 1 (f__law_box K) (fdAt K (f__law_box K)) P__law_box (spBox) := by
  refine FunD.ok T.F__law_box sc__law_box (fun vs H Q E h => ?_) (fun cdv A outer s H vs Q E hr h => ?_)
  · obtain ⟨i, rfl, _⟩ := h
    rfl
  · obtain ⟨i, rfl, k⟩ := h
    refine ⟨_, PSs.nox (pss_one (ps_ret (pe_lst (pa_cons (pe_op op_mul (pe_callB (call_max2 (by rfl)) (by rfl) T.z_max (by decide +kernel) (pa_cons pe_int (pa_cons (pv 0) pa_nil))) (pe_callTy call_int1 (by rfl) T.z_int boot_int (pa_cons (pe_cmpR op_ge (pv 0) (pe_op op_pow pe_int pe_int) (by rfl)) pa_nil))) (pa_cons (pe_op op_mod (pv 0) pe_int) (pa_cons pe_int pa_nil)))))), ?_⟩
    refine ⟨_, rfl, _, _, rfl, ?_⟩
    refine ⟨_, rfl, _, _, rfl, rfl, ⟨by decide, by decide, by decide⟩, _, _, rfl, rfl, .inr ⟨_, rfl, ?_⟩⟩
    refine ⟨_, _, rfl, rfl, .inr (by split <;> decide), ?_⟩
    refine ⟨_, rfl, _, _, rfl, rfl, (by show (0 : Int) < 2147483629; decide), ?_⟩
    exact ⟨sz (n := 3) (by decide), fun b hb => k b hb _ (Same.new hb) ⟨_, _, _, upd_same⟩⟩
def spTake : Sp := fun vs H Q _ => ∃ (b : Addr) (m : Int), vs = [.ref b, .int m] ∧ 0 < m ∧ m < 1000 ∧ Box H b ∧ ∀ (v : Int) H', SameX b H H' → Box H' b → 0 ≤ v → v < m → Q (.int v) H'
theorem ok__law_take (T : Txt K mg) : FnOk P w K mg base CX0 1 (f__law_take K) (fdAt K (f__law_take K)) P__law_take (spTake) := by
  refine FunD.ok T.F__law_take sc__law_take (fun vs H Q E h => ?_) (fun cdv A outer s H vs Q E hr h => ?_)
  · obtain ⟨b, m, rfl, _⟩ := h
    rfl
  · obtain ⟨b, m, rfl, hm, hm2, ⟨x, y, z, hb⟩, k⟩ := h
    refine ⟨_, PSs.nox (pss_cons (ps_if (pt_cmpR op_gt (pe_ix ix_list (pv 0) pe_int (fun _ _ => rfl)) pe_int (by rfl)) (pss_cons (ps_set (i := 2) sc__law_take.nd rfl (by first | exact Or.inl rfl | exact Or.inr rfl) (pe_op op_mod (pe_ix ix_list (pv 0) pe_int (fun _ _ => rfl)) (pv 1))) (pss_cons (ps_asg (pe_op op_fdivN (pe_ix ix_list (pv 0) pe_int (fun _ _ => rfl)) (pv 1)) (pg_sub (pv 0) pe_int set_list)) (pss_one (ps_ret (pv 2))))) pss_nil) (pss_cons (ps_asg (pe_op op_add (pe_ix ix_list (pv 0) pe_int (fun _ _ => rfl)) pe_int) (pg_sub (pv 0) pe_int set_list)) (pss_cons (ps_set (i := 3) sc__law_take.nd rfl (by first | exact Or.inl rfl | exact Or.inr rfl) (pe_op op_mod (pe_op op_mul (pe_op op_add (pe_ix ix_list (pv 0) pe_int (fun _ _ => rfl)) (pe_op op_mul pe_int (pe_ix ix_list (pv 0) pe_int (fun _ _ => rfl)))) pe_int) pe_int)) (pss_cons (ps_set (i := 3) sc__law_take.nd rfl (by first | exact Or.inl rfl | exact Or.inr rfl) (pe_op op_mod (pe_op op_mul (pv 3) (pv 3)) pe_int)) (pss_cons (ps_set (i := 4) sc__law_take.nd rfl (by first | exact Or.inl rfl | exact Or.inr rfl) (pe_op op_fdivN (pe_op op_mod (pe_op op_mul (pe_op op_add (pv 3) (pe_ix ix_list (pv 0) pe_int (fun _ _ => rfl))) (pe_op op_add (pv 3) pe_int)) pe_int) pe_int)) (pss_cons (ps_set (i := 5) sc__law_take.nd rfl (by first | exact Or.inl rfl | exact Or.inr rfl) (pe_op op_mod (pe_op op_add (pe_op op_mul (pv 3) pe_int) (pe_op op_mul pe_int (pe_ix ix_list (pv 0) pe_int (fun _ _ => rfl)))) pe_int)) (pss_one (ps_ret (pe_op op_mod (pe_op op_add (pe_op op_mul (pv 4) pe_int) (pe_op op_mod (pe_op op_mul (pv 5) (pv 5)) pe_int)) (pv 1)))))))))), ?_⟩
    refine ⟨_, rfl, b, _, 0, .int x, rfl, rfl, SqL.of hb, rfl, _, _, rfl, rfl, decide (0 < x), rfl, ?_⟩
    by_cases c : 0 < x
    · rw [decide_eq_true c]
      refine iteT ?_
      obtain ⟨m1, m2⟩ := emod_lt (i := x) hm
      refine ⟨_, rfl, b, _, 0, .int x, rfl, rfl, SqL.of hb, rfl, _, rfl, _, _, rfl, rfl, hm, ?_⟩
      refine ⟨_, rfl, b, _, 0, .int x, rfl, rfl, SqL.of hb, rfl, _, rfl, _, _, rfl, rfl, ⟨by omega, by omega⟩, ?_⟩
      refine ⟨_, rfl, b, _, 0, 0, rfl, rfl, hb, rfl, ?_⟩
      exact ⟨_, rfl, k _ _ SameX.upd2 ⟨_, _, _, upd_same⟩ m1 m2⟩
    · rw [decide_eq_false c]
      refine iteF ?_
      refine ⟨_, rfl, b, _, 2, .int z, rfl, rfl, SqL.of hb, rfl, _, _, rfl, rfl, ?_⟩
      refine ⟨_, rfl, b, _, 2, 2, rfl, rfl, hb, rfl, ?_⟩
      have h2 : upd H b (.lst ([V.int x, .int y, .int z].set 2 (.int (z + 1)))) b = some (.lst [.int x, .int y, .int (z + 1)]) := upd_same
      have x2 : SameX b H (upd H b (.lst ([V.int x, .int y, .int z].set 2 (.int (z + 1))))) := SameX.upd2
      generalize upd H b (.lst ([V.int x, .int y, .int z].set 2 (.int (z + 1)))) = H2 at h2 x2 ⊢
      refine ⟨_, rfl, b, _, 1, .int y, rfl, rfl, SqL.of h2, rfl, ?_⟩
      refine ⟨_, rfl, b, _, 2, .int (z + 1), rfl, rfl, SqL.of h2, rfl, _, _, rfl, rfl, .inl (by decide), _, _, rfl, rfl, _, _, rfl, rfl, .inr (by decide), _, _, rfl, rfl, (by show (0 : Int) < 2147483647; decide), ?_⟩
      obtain ⟨a1, a2⟩ := emod_lt (i := (y + 7927 * (z + 1)) * 48271) (m := 2147483647) (by decide)
      generalize (y + 7927 * (z + 1)) * 48271 % 2147483647 = n1 at a1 a2 ⊢
      refine ⟨_, rfl, _, rfl, _, _, rfl, rfl, .inl ⟨by omega, by omega⟩, _, _, rfl, rfl, (by show (0 : Int) < 2147483629; decide), ?_⟩
      obtain ⟨b1, b2⟩ := emod_lt (i := n1 * n1) (m := 2147483629) (by decide)
      generalize n1 * n1 % 2147483629 = n2 at b1 b2 ⊢
      refine ⟨_, rfl, _, rfl, b, _, 2, .int (z + 1), rfl, rfl, SqL.of h2, rfl, _, _, rfl, rfl, _, rfl, _, _, rfl, rfl, _, _, rfl, rfl, .inr ⟨by omega, by omega⟩, _, _, rfl, rfl, (by show (0 : Int) < 2147483587; decide), _, _, rfl, rfl, ⟨by decide, by decide⟩, ?_⟩
      generalize Int.fdiv ((n2 + (z + 1)) * (n2 + 3) % 2147483587) 7 = n3
      refine ⟨_, rfl, _, _, rfl, rfl, .inr (by decide), _, rfl, b, _, 2, .int (z + 1), rfl, rfl, SqL.of h2, rfl, _, _, rfl, rfl, .inl (by decide), _, _, rfl, rfl, _, _, rfl, rfl, (by show (0 : Int) < 2147483579; decide), ?_⟩
      obtain ⟨c1, c2⟩ := emod_lt (i := n2 * 69621 + 104729 * (z + 1)) (m := 2147483579) (by decide)
      generalize (n2 * 69621 + 104729 * (z + 1)) % 2147483579 = n4 at c1 c2 ⊢
      refine ⟨_, rfl, _, _, rfl, rfl, .inr (by decide), _, rfl, _, rfl, _, _, rfl, rfl, .inl ⟨by omega, by omega⟩, _, _, rfl, rfl, (by show (0 : Int) < 2147483563; decide), _, _, rfl, rfl, _, rfl, _, _, rfl, rfl, hm, ?_⟩
      exact k _ _ x2 ⟨_, _, _, h2⟩ (emod_lt hm).1 (emod_lt hm).2
end
end K99
/-! K46 -/
namespace K99
open PySem PySem.Spec PyProof.Rows L2
/-! ### the law's names -/
def chr1 (c : Nat) : Str := ⟨#[c]⟩
theorem chr1_tl (c : Nat) : TL.tl (chr1 c) = [c] := rfl
def isLet (c : Nat) : Prop := 97 ≤ c ∧ c < 123
def isQ (c : Nat) : Bool := c == 113 || c == 120 || c == 122
theorem letters_tl : lettersZ.cps.toList = (List.range 26).map fun i => 97 + i := by decide +kernel
theorem let_low {c : Nat} (h : isLet c) : c ∈ lettersZ.cps.toList := by
  rw [letters_tl]
  exact List.mem_map.mpr ⟨c - 97, List.mem_range.mpr (by have := h.1; have := h.2; omega), by have := h.1; omega⟩
theorem at_nat {α : Type} {xs : List α} {i : Nat} {x : α} (h : xs[i]? = some x) : atI xs (i : Int) = some x := by
  have hi := (List.getElem?_eq_some_iff.mp h).1
  unfold atI ixN
  rw [if_pos (by omega), if_pos (by omega)]
  exact h
theorem let_at {i : Nat} (h : i < 26) : atI lettersZ.cps.toList (i : Int) = some (97 + i) := by
  refine at_nat ?_
  rw [letters_tl, List.getElem?_map, List.getElem?_range h]
  rfl
theorem join_chr : ∀ cs : List Nat, TL.tl (Txt.join "" (cs.map chr1)) = cs := fun cs => by
  rw [TL.join_eq]
  induction cs with
  | nil => rfl
  | cons c r ih =>
    cases r with
    | nil => rfl
    | cons d r =>
      show TL.tl (chr1 c ++ "" ++ Str.join "" ((d :: r).map chr1)) = _
      rw [TL.tl_append, TL.tl_append, ih]
      rfl
def okEnd (l : List Nat) : Bool := match l.reverse with
  | [_] => true
  | a :: b :: _ => isQ a || isQ b
  | [] => false
def ownStr : List Str := ["node", "in", "out", "before", "when", "hold", "like", "same", "call", "true", "false", "mod", "beat", "desk"]
theorem own_bad : ∀ w ∈ ownStr, okEnd (TL.tl w) = false := by decide +kernel
/-- the pool's base -/
structure Base (bs : List Nat) : Prop where
  len : bs.length ≤ 6
  low : ∀ c, c ∈ bs → isLet c
  q : bs = [] ∨ ∃ init z, bs = init ++ [z] ∧ isQ z = true
theorem base_end {bs : List Nat} (B : Base bs) {p c : Nat} (hp : p ≤ bs.length) : okEnd (bs.take p ++ c :: bs.drop p) = true := by
  rcases B.q with rfl | ⟨init, z, rfl, hz⟩
  · simp [okEnd]
  · rcases Nat.lt_or_ge p (init ++ [z]).length with h | h
    · rw [List.length_append, List.length_singleton] at h
      have h1 : p ≤ init.length := by omega
      rw [List.take_append_of_le_length h1, List.drop_append_of_le_length h1]
      have : init.take p ++ c :: (init.drop p ++ [z]) = (init.take p ++ c :: init.drop p) ++ [z] := by simp
      rw [this]
      unfold okEnd
      rw [List.reverse_append]
      show (match z :: (init.take p ++ c :: init.drop p).reverse with
        | [_] => true
        | a :: b :: _ => isQ a || isQ b
        | [] => false) = true
      split
      · rfl
      · rename_i e
        injection e with e1 e2
        rw [← e1, hz]
        rfl
      · rename_i e
        cases e
    · rw [List.take_of_length_le h, List.drop_eq_nil_of_le h]
      unfold okEnd
      rw [List.reverse_append, List.reverse_append]
      show (isQ c || isQ z) = true
      rw [hz, Bool.or_true]
theorem pool_nm {bs : List Nat} (B : Base bs) {p c : Nat} (hp : p ≤ bs.length) (hc : isLet c) {x : Str} (hx : TL.tl x = bs.take p ++ c :: bs.drop p) : Nm x ∧ x.length ≤ 7 := by
  have hl : x.length = bs.length + 1 := by
    rw [TL.len_tl, hx, List.length_append, List.length_cons, List.length_take, List.length_drop]
    omega
  have h6 := B.len
  refine ⟨⟨by omega, by omega, ?_, fun d hd => let_low ?_⟩, by omega⟩
  · show inV (.str x) (ownStr.map .str) = false
    refine nin_str fun hm => ?_
    have h1 := own_bad x hm
    rw [hx, base_end B hp] at h1
    cases h1
  · have hd' : d ∈ TL.tl x := hd
    rw [hx] at hd'
    rcases List.mem_append.mp hd' with h | h
    · exact B.low d (List.mem_of_mem_take h)
    · rcases List.mem_cons.mp h with rfl | h
      · exact hc
      · exact B.low d (List.mem_of_mem_drop h)
/-- the k-th name -/
def plK (bs : List Nat) (p f k : Nat) : Str := ⟨(bs.take p ++ (97 + (f + 5 * k) % 26) :: bs.drop p).toArray⟩
theorem plK_tl (bs : List Nat) (p f k : Nat) : TL.tl (plK bs p f k) = bs.take p ++ (97 + (f + 5 * k) % 26) :: bs.drop p := TL.tl_mk _
theorem plK_nm {bs : List Nat} (B : Base bs) {p f k : Nat} (hp : p ≤ bs.length) : Nm (plK bs p f k) ∧ (plK bs p f k).length ≤ 7 := pool_nm B hp ⟨by omega, by omega⟩ (plK_tl bs p f k)
theorem plK_inj {bs : List Nat} {p f k k' : Nat} (h1 : k < 26) (h2 : k' < 26) (e : plK bs p f k = plK bs p f k') : k = k' := by
  have := congrArg TL.tl e
  rw [plK_tl, plK_tl] at this
  have h3 := (List.cons.inj (List.append_cancel_left this)).1
  omega
theorem pool_nd {bs : List Nat} {p f m : Nat} (h : m ≤ 26) : ((List.range m).map (plK bs p f)).Nodup := nd_map List.nodup_range fun a ha b hb e => plK_inj (Nat.lt_of_lt_of_le (List.mem_range.mp ha) h) (Nat.lt_of_lt_of_le (List.mem_range.mp hb) h) e
theorem pool_all {bs : List Nat} (B : Base bs) {p f m : Nat} (hp : p ≤ bs.length) {x : Str} (hx : x ∈ (List.range m).map (plK bs p f)) : Nm x ∧ x.length ≤ 7 := by
  obtain ⟨k, _, rfl⟩ := List.mem_map.mp hx
  exact plK_nm B hp
end K99
/-! K47 -/
namespace K99
open PySem PySem.Spec PyProof.Rows L2
theorem cutS_take {z : Str} {p : Nat} (h : p ≤ (TL.tl z).length) : TL.tl (cutS z none (some (p : Int))) = (TL.tl z).take p := by
  unfold cutS
  rw [TL.tl_mk, HT.sIx_none, HT.sIx_nat, List.drop_zero, Nat.sub_zero, TL.len_tl, Nat.min_eq_left h]
theorem cutS_drop {z : Str} {p : Nat} (h : p ≤ (TL.tl z).length) : TL.tl (cutS z (some (p : Int)) none) = (TL.tl z).drop p := by
  unfold cutS
  rw [TL.tl_mk, HT.sIx_none, HT.sIx_nat, TL.len_tl, Nat.min_eq_left h]
  exact List.take_of_length_le (by rw [List.length_drop]; exact Nat.le_refl _)
theorem cutS_last {z : Str} (h : 1 ≤ (TL.tl z).length) : TL.tl (cutS z none (some (-1))) = (TL.tl z).take ((TL.tl z).length - 1) := by
  unfold cutS
  rw [TL.tl_mk, HT.sIx_none, List.drop_zero, Nat.sub_zero, TL.len_tl]
  congr 1
  show (if (-1 : Int) < 0 then ((-1 : Int) + ((TL.tl z).length : Int)).toNat else min (-1 : Int).toNat (TL.tl z).length) = _
  rw [if_pos (by decide)]
  omega
theorem SameX.mut {p q : Addr} {H H' : Hp} {o : HO} (e : SameX p H H') (h : H q = none) : SameX p H (upd H' q o) := fun b u n e1 => by
  rw [upd_ne (ne_of_none e1 h)]
  exact e b u n e1
theorem SameX.free' {p q : Addr} {H H' : Hp} (e : SameX p H H') (n : q ≠ p) (h : H' q = none) : H q = none := by
  cases hq : H q with
  | none => rfl
  | some u =>
    rw [e q u n hq] at h
    cases h
theorem Box.keep {b D : Addr} {H : Hp} {o : HO} (h : Box H b) (n : D ≠ b) : Box (upd H D o) b := by
  obtain ⟨x, y, z, h⟩ := h
  exact ⟨x, y, z, by rw [upd_ne n.symm]; exact h⟩
theorem Box.ne {b D : Addr} {H : Hp} (h : Box H b) (n : H D = none) : D ≠ b := fun e => by
  subst e
  obtain ⟨x, y, z, h⟩ := h
  rw [h] at n
  cases n
theorem Box.same {b : Addr} {H H' : Hp} (h : Box H b) (s : Same H H') : Box H' b := by
  obtain ⟨x, y, z, h⟩ := h
  exact ⟨x, y, z, s _ _ h⟩
theorem sum_chr : ∀ cs : List Nat, ((cs.map chr1).map (·.length)).sum = cs.length
  | [] => rfl
  | c :: r => by
    rw [List.map_cons, List.map_cons, List.sum_cons, sum_chr r, List.length_cons]
    show 1 + _ = _
    omega
theorem qxz_at (f : Nat) : ∃ c, atI (TL.tl "qxz") ((f : Int) % 3) = some c ∧ isQ c = true := by
  have h : f % 3 = 0 ∨ f % 3 = 1 ∨ f % 3 = 2 := by omega
  have e : ((f : Int) % 3) = ((f % 3 : Nat) : Int) := by omega
  rw [e]
  rcases h with h | h | h <;> rw [h]
  · exact ⟨113, rfl, rfl⟩
  · exact ⟨120, rfl, rfl⟩
  · exact ⟨122, rfl, rfl⟩
theorem isQ_let {c : Nat} (h : isQ c = true) : isLet c := by
  unfold isQ at h
  simp at h
  unfold isLet
  omega
section
variable {P : Program} {w : World} {K : PySem.W.Frag} {mg : Str → Option Value} {base : Heap}
def spPool : Sp := fun vs H Q _ => ∃ (b : Addr) (m : Nat), vs = [.ref b, .int m] ∧ m ≤ 26 ∧ Box H b ∧ ∀ (l : Addr) (bs : List Nat) (p f : Nat) H', SameX b H H' → Box H' b → H l = none → Base bs → p ≤ bs.length → H' l = some (.lst (((List.range m).map (plK bs p f)).map .str)) → Q (.ref l) H'
theorem ok__law_pool (T : Txt K mg) : FnOk P w K mg base CX0 3 (f__law_pool K) (fdAt K (f__law_pool K)) P__law_pool (spPool) := by
  refine FunD.ok T.F__law_pool sc__law_pool (fun vs H Q E h => ?_) (fun cdv A outer s H vs Q E hr h => ?_)
  · obtain ⟨b, m, rfl, _⟩ := h
    rfl
  · obtain ⟨b, m, rfl, hm, hb, k⟩ := h
    refine ⟨_, PSs.nox (pss_cons (ps_set (i := 2) sc__law_pool.nd rfl (by first | exact Or.inl rfl | exact Or.inr rfl) pe_str) (pss_cons (ps_set (i := 3) sc__law_pool.nd rfl (by first | exact Or.inl rfl | exact Or.inr rfl) (pe_call (ok__law_take T) (hr.mono (by first | decide | omega)) (by rfl) T.g__law_take T.F__law_take.kp T.b__law_take .nil pass0 (pa_cons (pv 0) (pa_cons pe_int pa_nil)))) (pss_cons (ps_set (i := 4) sc__law_pool.nd rfl (by first | exact Or.inl rfl | exact Or.inr rfl) (pe_call (ok__law_take T) (hr.mono (by first | decide | omega)) (by rfl) T.g__law_take T.F__law_take.kp T.b__law_take .nil pass0 (pa_cons (pv 0) (pa_cons pe_int pa_nil)))) (pss_cons (ps_set (i := 5) sc__law_pool.nd rfl (by first | exact Or.inl rfl | exact Or.inr rfl) (pe_call (ok__law_take T) (hr.mono (by first | decide | omega)) (by rfl) T.g__law_take T.F__law_take.kp T.b__law_take .nil pass0 (pa_cons (pv 0) (pa_cons (pe_op op_add (pv 3) pe_int) pa_nil)))) (pss_cons (ps_set (i := 6) sc__law_pool.nd rfl (by first | exact Or.inl rfl | exact Or.inr rfl) (pe_join pe_str (pe_lc (own := [("_law_k", 7)]) (by rfl) sc__law_pool.nd (pi_range1 (by rfl) T.z_range (pa_cons (pv 3) pa_nil)) (blkOk_by (N := N__law_pool) (sc := defScope s__law_pool) (by decide +kernel)) (fun _ _ _ _ _ => (pg_name (i := 7) sc__law_pool.nd rfl (by first | exact Or.inl rfl | exact Or.inr rfl))) (fun _ _ _ _ _ => pts_nil) (fun _ _ _ _ _ => (pe_ix ix_str (pv 2) (pe_call (ok__law_take T) (hr.mono (by first | decide | omega)) (by rfl) T.g__law_take T.F__law_take.kp T.b__law_take .nil pass0 (pa_cons (pv 0) (pa_cons pe_int pa_nil))) (fun _ _ => rfl)))))) (pss_cons (ps_if (pt_cmpR op_gt (pv 3) pe_int (by rfl)) (pss_one (ps_set (i := 6) sc__law_pool.nd rfl (by first | exact Or.inl rfl | exact Or.inr rfl) (pe_op op_add_str (pe_slice sl_str (pv 6) po_none (po_some (pe_un un_neg pe_int))) (pe_ix ix_str pe_str (pe_op op_mod (pv 4) pe_int) (fun _ _ => rfl))))) pss_nil) (pss_one (ps_ret (pe_lc (own := [("_law_k", 7)]) (by rfl) sc__law_pool.nd (pi_range1 (by rfl) T.z_range (pa_cons (pv 1) pa_nil)) (blkOk_by (N := N__law_pool) (sc := defScope s__law_pool) (by decide +kernel)) (fun _ _ _ _ _ => (pg_name (i := 7) sc__law_pool.nd rfl (by first | exact Or.inl rfl | exact Or.inr rfl))) (fun _ _ _ _ _ => pts_nil) (fun _ _ _ _ _ => (pe_op op_add_str (pe_op op_add_str (pe_slice sl_str (pv 6) po_none (po_some (pv 5))) (pe_ix ix_str (pv 2) (pe_op op_mod (pe_op op_add (pv 4) (pe_op op_mul pe_int (pv 7))) pe_int) (fun _ _ => rfl))) (pe_slice sl_str (pv 6) (po_some (pv 5)) po_none)))))))))))), ?_⟩
    refine ⟨_, rfl, b, 7, rfl, by decide, by decide, hb, fun sv H1 x1 hb1 s0 s7 => ?_⟩
    obtain ⟨s, rfl⟩ := Int.eq_ofNat_of_zero_le s0
    refine ⟨_, rfl, b, 26, rfl, by decide, by decide, hb1, fun fv H2 x2 hb2 f0 f7 => ?_⟩
    obtain ⟨f, rfl⟩ := Int.eq_ofNat_of_zero_le f0
    refine ⟨_, rfl, _, rfl, _, _, rfl, rfl, b, _, rfl, by show (0 : Int) < (s : Int) + 1; omega, by show (s : Int) + 1 < 1000; omega, hb2, fun av H3 x3 hb3 a0 a7 => ?_⟩
    obtain ⟨p, rfl⟩ := Int.eq_ofNat_of_zero_le a0
    have a7 : (p : Int) < (s : Int) + 1 := a7
    have x03 := SameX.trans x1 (SameX.trans x2 x3)
    refine ⟨⟨_, rfl⟩, _, rfl, _, rfl, by omega, by omega, fun D hD => ?_⟩
    have nDb : D ≠ b := hb3.ne hD
    refine lc_map (wm_range s) (fun pre H => SameX b H3 H ∧ Box H b ∧ ∃ cs : List Nat, H D = some (.lst (cs.map fun c => V.str (chr1 c))) ∧ cs.length = pre.length ∧ ∀ c, c ∈ cs → isLet c) ⟨Same.x (Same.new hD), hb3.keep nDb, [], upd_same, rfl, fun c hc => by cases hc⟩ (fun _ _ _ => trivial) (fun pre i post H4 e q => ?_) (fun H4 q => ?_)
    · obtain ⟨x4, hb4, cs, h4, hl4, hc4⟩ := q
      have hpl : pre.length ≤ 7 := by
        have := congrArg List.length e
        simp at this
        omega
      refine ⟨rfl, ?_⟩
      unfold tYes
      refine iteT ?_
      refine ⟨_, rfl, _, rfl, b, 26, rfl, by decide, by decide, hb4, fun cv H5 x5 hb5 c0 c7 => ?_⟩
      obtain ⟨c, rfl⟩ := Int.eq_ofNat_of_zero_le c0
      have h5 := x5 _ _ nDb h4
      refine ⟨_, _, _, rfl, rfl, sz (n := 26) (by decide), let_at (by omega), _, h5, szl (by rw [List.length_map]; omega), SameX.mut (SameX.trans x4 x5) hD, hb5.keep nDb, cs ++ [97 + c], ?_, by rw [List.length_append, List.length_append, hl4]; rfl, fun d hd => ?_⟩
      · rw [upd_same, List.map_append]
        rfl
      · rcases List.mem_append.mp hd with hd | hd
        · exact hc4 d hd
        · rw [List.mem_singleton.mp hd]
          exact ⟨by omega, by omega⟩
    · obtain ⟨x4, hb4, cs, h4, hl4, hc4⟩ := q
      rw [List.length_range] at hl4
      have hbz : TL.tl (Txt.join "" (cs.map chr1)) = cs := join_chr cs
      refine ⟨_, D, cs.map chr1, rfl, rfl, .inl (SqL.of (by rw [h4, List.map_map]; rfl)), ?_, ?_⟩
      · rw [sum_chr]
        show cs.length + (cs.map chr1).length * 0 ≤ _
        omega
      have x4' := SameX.trans x03 x4
      generalize Txt.join "" (cs.map chr1) = z0 at hbz ⊢
      refine ⟨_, rfl, _, _, rfl, rfl, decide ((0 : Int) < (s : Int)), rfl, ?_⟩
      by_cases c : (0 : Int) < (s : Int)
      case' pos =>
        rw [decide_eq_true c]
        obtain ⟨qc, hq1, hq2⟩ := qxz_at f
        refine iteT ?_
        refine ⟨_, rfl, _, rfl, _, rfl, _, rfl, sz ?_, _, rfl, _, _, rfl, rfl, (by show (0 : Int) < 3; decide), _, _, qc, rfl, rfl, sz (n := 3) (by decide), hq1, _, _, rfl, rfl, ?_, ?_⟩
        · rw [TL.len_tl, hbz]
          omega
        · have h1 := cutS_last (z := z0) (by rw [hbz]; omega)
          have h2 := congrArg List.length h1
          rw [List.length_take, hbz] at h2
          rw [TL.len_tl, h2]
          exact sz (by show min (cs.length - 1) cs.length + 1 ≤ _; omega)
        have h1 : TL.tl (cutS z0 none (some (-1)) ++ ({ cps := #[qc] } : Str)) = cs.take (cs.length - 1) ++ [qc] := by
          rw [TL.tl_append, cutS_last (by rw [hbz]; omega), hbz]
        have hB : Base (TL.tl (cutS z0 none (some (-1)) ++ ({ cps := #[qc] } : Str))) := by
          rw [h1]
          refine ⟨?_, fun d hd => ?_, .inr ⟨_, _, rfl, hq2⟩⟩
          · rw [List.length_append, List.length_take, List.length_singleton]
            omega
          · rcases List.mem_append.mp hd with hd | hd
            · exact hc4 d (List.mem_of_mem_take hd)
            · rw [List.mem_singleton.mp hd]
              exact isQ_let hq2
        have hpz : p ≤ (TL.tl (cutS z0 none (some (-1)) ++ ({ cps := #[qc] } : Str))).length := by
          rw [h1, List.length_append, List.length_take, List.length_singleton]
          omega
        generalize cutS z0 none (some (-1)) ++ ({ cps := #[qc] } : Str) = zz at hB hpz ⊢
      case' neg =>
        rw [decide_eq_false c]
        refine iteF ?_
        have hc0 : cs = [] := List.eq_nil_of_length_eq_zero (by omega)
        have hB : Base (TL.tl z0) := by
          rw [hbz, hc0]
          exact ⟨Nat.zero_le _, fun c hc => (by cases hc), .inl rfl⟩
        have hpz : p ≤ (TL.tl z0).length := by
          rw [hbz]
          omega
        generalize z0 = zz at hB hpz ⊢
      all_goals
        refine ⟨_, rfl, _, rfl, by omega, by omega, fun R hR => ?_⟩
        have nRb : R ≠ b := hb4.ne hR
        refine lc_flat (wm_range m) (fun _ => true) (fun k => .str (plK (TL.tl zz) p f k)) hR (by rw [List.length_range]; omega) (fun _ _ => trivial) (fun _ => rfl) (fun a H' _ _ Q' q => q H' (Same.refl _)) (fun i H' hi _ s5 Q' q => ?_) (fun H5 s5 h5 => ?_)
        · have hi26 : i < 26 := Nat.lt_of_lt_of_le (List.mem_range.mp hi) hm
          have hzl : zz.length ≤ 6 := by
            rw [TL.len_tl]
            exact hB.len
          have el : ((f : Int) + 5 * (i : Int)) % 26 = (((f + 5 * i) % 26 : Nat) : Int) := by omega
          have e9 : cutS zz none (some (p : Int)) ++ chr1 (97 + (f + 5 * i) % 26) ++ cutS zz (some (p : Int)) none = plK (TL.tl zz) p f i := by
            refine TL.ext_tl ?_
            rw [TL.tl_append, TL.tl_append, cutS_take hpz, cutS_drop hpz, plK_tl, List.append_assoc]
            rfl
          refine ⟨_, rfl, _, rfl, _, rfl, _, rfl, sz (by omega), _, rfl, _, rfl, _, rfl, _, _, rfl, rfl, .inl (by decide), _, _, rfl, rfl, _, _, rfl, rfl, (by show (0 : Int) < 26; decide), _, _, _, rfl, rfl, sz (n := 26) (by decide), (by rw [el]; exact let_at (by omega)), _, _, rfl, rfl, ?_, ?_⟩
          · rw [TL.len_tl (cutS _ _ _), cutS_take hpz, List.length_take, ← TL.len_tl]
            exact sz (by show min p zz.length + 1 ≤ _; omega)
          · refine ⟨_, rfl, _, rfl, _, rfl, _, rfl, ?_, _, _, rfl, rfl, ?_, ?_⟩
            · exact sz (by omega)
            · rw [TL.len_tl, TL.len_tl, TL.tl_append, cutS_take hpz, cutS_drop hpz, List.length_append, List.length_take, List.length_drop]
              rw [TL.len_tl] at hzl
              exact sz (by show min p (TL.tl zz).length + 1 + _ ≤ _; omega)
            · have e10 : cutS zz none (some (p : Int)) ++ ({ cps := #[97 + (f + 5 * i) % 26] } : Str) ++ cutS zz (some (p : Int)) none = plK (TL.tl zz) p f i := e9
              rw [e10]
              exact q H' (Same.refl _)
        · refine k R (TL.tl zz) p f H5 (SameX.trans x4' (Same.x s5)) (hb4.same s5) ?_ hB hpz ?_
          · exact x4'.free' nRb hR
          · rw [h5, List.filter_eq_self.mpr (fun _ _ => rfl), List.map_map]
            rfl
end
end K99
/-! K48 -/
namespace K99
open PySem PySem.Spec PyProof.Rows L2
def sumT (x : Str) (r : List Str) : Tm := r.foldl (fun t y => .two t y) (.nm x)
theorem sumT_snoc (x : Str) (r : List Str) (y : Str) : sumT x (r ++ [y]) = .two (sumT x r) y := by
  unfold sumT
  rw [List.foldl_append]
  rfl
theorem foldl_nms : ∀ (r : List Str) (t : Tm), (r.foldl (fun t y => Tm.two t y) t).nms = t.nms ++ r
  | [], t => (List.append_nil _).symm
  | y :: r, t => by
    show (r.foldl _ (Tm.two t y)).nms = _
    rw [foldl_nms r]
    show (t.nms ++ [y]) ++ r = _
    rw [List.append_assoc]
    rfl
theorem sumT_nms (x : Str) (r : List Str) : (sumT x r).nms = x :: r := foldl_nms r (.nm x)
theorem sumT_dep (x : Str) (r : List Str) : (sumT x r).dep = r.length + 1 := by
  rw [← Tm.nms_len, sumT_nms, List.length_cons]
theorem cutV_tail (v : V) (vs : List V) : cutV (v :: vs) (some 1) none = vs := by
  unfold cutV
  rw [HT.sIx_none, show HT.sIx (v :: vs).length 0 (some 1) = 1 from (HT.sIx_nat _ _ 1).trans (by simp)]
  exact List.take_of_length_le (by simp)
theorem cutV_to (vs : List V) (k : Nat) : cutV vs none (some (k : Int)) = vs.take k := by
  unfold cutV
  rw [HT.sIx_none, HT.sIx_nat, List.drop_zero, Nat.sub_zero]
  rcases Nat.le_total k vs.length with h | h
  · rw [Nat.min_eq_left h]
  · rw [Nat.min_eq_right h, List.take_of_length_le (Nat.le_refl _), List.take_of_length_le h]
section
variable {P : Program} {w : World} {K : PySem.W.Frag} {mg : Str → Option Value} {base : Heap}
def spSumOf (K : PySem.W.Frag) : Sp := fun vs H Q _ => ∃ (l : Addr) (x : Str) (r : List Str), vs = [.ref l] ∧ H l = some (.lst ((x :: r).map .str)) ∧ r.length ≤ 1000 ∧ ∀ d H', Same H H' → TmD K H' d (sumT x r) → Q (.ref d) H'
theorem ok__law_sum_of (T : Txt K mg) : FnOk P w K mg base CX0 1 (f__law_sum_of K) (fdAt K (f__law_sum_of K)) P__law_sum_of (spSumOf K) := by
  refine FunD.ok T.F__law_sum_of sc__law_sum_of (fun vs H Q E h => ?_) (fun cdv A outer s H vs Q E hr h => ?_)
  · obtain ⟨l, x, r, rfl, _⟩ := h
    rfl
  · obtain ⟨l, x, r, rfl, h1, hz, k⟩ := h
    refine ⟨_, PSs.nox (pss_cons (ps_set (i := 1) sc__law_sum_of.nd rfl (by first | exact Or.inl rfl | exact Or.inr rfl) (pe_tup (pa_cons pe_str (pa_cons (pe_ix ix_list (pv 0) pe_int (fun _ _ => rfl)) pa_nil)))) (pss_cons (ps_for PassesOwn.never rfl (pi_list (pe_slice sl_list (pv 0) (po_some pe_int) po_none)) (pg_name (i := 2) sc__law_sum_of.nd rfl (by first | exact Or.inl rfl | exact Or.inr rfl)) (pss_one (ps_set (i := 1) sc__law_sum_of.nd rfl (by first | exact Or.inl rfl | exact Or.inr rfl) (pe_tup (pa_cons pe_str (pa_cons pe_str (pa_cons (pv 1) (pa_cons (pe_tup (pa_cons pe_str (pa_cons (pv 2) pa_nil))) pa_nil)))))))) (pss_one (ps_ret (pv 1))))), ?_⟩
    refine ⟨_, rfl, l, _, 0, .str x, rfl, rfl, SqL.of h1, at0, sz (n := 2) (by decide), fun t ht => ?_⟩
    have s1 : Same H (upd H t (.tup [.str "name", .str x])) := Same.new ht
    have d1 : TmD K (upd H t (.tup [.str "name", .str x])) t (sumT x []) := SqT.of upd_same
    generalize upd H t (.tup [.str "name", .str x]) = H1 at s1 d1 ⊢
    refine ⟨_, rfl, 1, rfl, l, _, rfl, SqL.of (s1 _ _ h1), fun L hL => ?_⟩
    have e1 : cutV ((x :: r).map V.str) (some 1) none = r.map V.str := cutV_tail _ _
    rw [e1]
    have s2 : Same H1 (upd H1 L (.lst (r.map .str))) := Same.new hL
    have g2 : upd H1 L (.lst (r.map .str)) L = some (.lst (r.map .str)) := upd_same
    generalize upd H1 L (.lst (r.map .str)) = H2 at s2 g2 ⊢
    refine ⟨L, rfl, ⟨_, SqL.of g2⟩, ?_⟩
    refine for_map (wm_list r V.str) (fun pre σ H3 => Same H2 H3 ∧ ∃ d x3, σ = [some (.ref l), some (.ref d), x3] ∧ TmD K H3 d (sumT x pre)) ⟨Same.refl _, t, _, rfl, d1.mono s2⟩ (fun pre σ H3 q => SqL.of (q.1 _ _ g2)) (fun pre y post σ H3 e q => ?_) (fun σ H3 q => ?_)
    · obtain ⟨s3, d, x3, rfl, td⟩ := q
      refine ⟨_, rfl, _, rfl, sz (n := 2) (by decide), fun p hp => ?_⟩
      refine ⟨sz (n := 4) (by decide), fun q hq => ?_⟩
      have s4 : Same H3 (upd H3 p (.tup [.str "name", .str y])) := Same.new hp
      have s5 : Same (upd H3 p (.tup [.str "name", .str y])) (upd (upd H3 p (.tup [.str "name", .str y])) q (.tup [.str "two", .str "+", .ref d, .ref p])) := Same.new hq
      refine ⟨s3.trans (s4.trans s5), q, _, rfl, ?_⟩
      rw [sumT_snoc]
      exact ⟨d, p, SqT.of upd_same, td.mono (s4.trans s5), Same.sqt s5 (SqT.of upd_same)⟩
    · obtain ⟨s3, d, x3, rfl, td⟩ := q
      exact ⟨_, rfl, k d H3 (s1.trans (s2.trans s3)) td⟩
end
end K99
/-! K49 -/
namespace K99
open PySem PySem.Spec PyProof.Rows L2
/-! ### a node of the law -/
structure Gd (g : Nat → Str) : Prop where
  inj : ∀ a b, a < 26 → b < 26 → g a = g b → a = b
  nm : ∀ a, Nm (g a)
theorem gd_pool {bs : List Nat} (B : Base bs) {p f : Nat} (hp : p ≤ bs.length) : Gd (plK bs p f) := ⟨fun a b h1 h2 e => plK_inj h1 h2 e, fun a => (plK_nm B hp).1⟩
structure Nv where
  name : Str
  many : Nat
  v : Int
  calls : Nat
  c : Str
  k : Nat
  rx : Option Nat
  r0 : Bool
def Nv.idx (a : Nv) : List Nat := List.range a.many ++ 2 :: ((List.range a.calls).map (5 + ·) ++ [3])
def Nv.rl (a : Nv) : List Nat := (match a.rx with | none => [] | some j => [5 + j]) ++ (if a.r0 then [0] else [])
def Nv.sh (a : Nv) (g : Nat → Str) : Sh := ⟨g 0, (List.range (a.many - 1)).map fun i => g (i + 1), g 2, a.v, (List.range a.calls).map fun i => g (5 + i), a.c, a.k, sumT (g 2) (a.rl.map g)⟩
def Nv.nd (a : Nv) (g : Nat → Str) : ND := ⟨a.name, (List.range a.many).map g, g 3, .bef (g 2) a.v (g 0) :: (((List.range a.calls).map fun i => Rw.call (g (5 + i)) a.c (g 0) a.k) ++ [.pln (g 3) (sumT (g 2) (a.rl.map g))])⟩
structure Nv.ok (a : Nv) : Prop where
  nm : Nm a.name
  m1 : 1 ≤ a.many
  m2 : a.many ≤ 2
  v0 : 0 ≤ a.v
  v1 : a.v < 9
  cl : a.calls ≤ 20
  cn : a.calls ≠ 0 → Nm a.c ∧ 1 ≤ a.k ∧ a.k ≤ 2
  rx : ∀ j, a.rx = some j → j < a.calls
section
variable {a : Nv} {g : Nat → Str}
theorem Nv.idx_lt (h : a.ok) {i : Nat} (hi : i ∈ a.idx) : i < 26 := by
  have := h.m2
  have := h.cl
  unfold Nv.idx at hi
  simp only [List.mem_append, List.mem_range, List.mem_cons, List.mem_map, List.not_mem_nil, or_false] at hi
  rcases hi with hi | hi | ⟨j, hj, rfl⟩ | hi <;> omega
theorem Nv.idx_nd (h : a.ok) : a.idx.Nodup := by
  have := h.m2
  unfold Nv.idx
  refine List.nodup_append.mpr ⟨List.nodup_range, List.nodup_cons.mpr ⟨?_, List.nodup_append.mpr ⟨nd_map List.nodup_range fun a _ b _ e => by omega, by simp, ?_⟩⟩, ?_⟩
  · simp only [List.mem_append, List.mem_map, List.mem_range, List.mem_singleton]
    rintro (⟨j, _, e⟩ | e) <;> omega
  · intro x hx y hy e
    obtain ⟨j, _, rfl⟩ := List.mem_map.mp hx
    have := List.mem_singleton.mp hy
    omega
  · intro x hx y hy e
    have h1 := List.mem_range.mp hx
    simp only [List.mem_append, List.mem_cons, List.mem_map, List.mem_range, List.not_mem_nil, or_false] at hy
    rcases hy with hy | ⟨j, _, rfl⟩ | hy <;> omega
theorem Nv.names (a : Nv) (g : Nat → Str) : (a.nd g).names = a.idx.map g := by
  unfold ND.names ND.tells Nv.nd Nv.idx
  simp only [List.map_append, List.map_cons, List.map_map, List.map_nil]
  rfl
theorem Nv.rl_mem (h : a.ok) {i : Nat} (hi : i ∈ a.rl) : (∃ j, a.rx = some j ∧ i = 5 + j ∧ j < a.calls) ∨ (a.r0 = true ∧ i = 0) := by
  unfold Nv.rl at hi
  rcases List.mem_append.mp hi with hi | hi
  · cases e : a.rx with
    | none =>
      rw [e] at hi
      cases hi
    | some j =>
      rw [e] at hi
      exact .inl ⟨j, rfl, List.mem_singleton.mp hi, h.rx j e⟩
  · cases e : a.r0 with
    | false =>
      rw [e] at hi
      cases hi
    | true =>
      rw [e] at hi
      exact .inr ⟨rfl, List.mem_singleton.mp hi⟩
theorem Nv.rl_len (a : Nv) : a.rl.length ≤ 2 := by
  unfold Nv.rl
  cases a.rx <;> cases a.r0 <;> simp
theorem Nv.rl_nd (a : Nv) : (2 :: a.rl).Nodup := by
  unfold Nv.rl
  cases a.rx <;> cases a.r0 <;> simp <;> omega
theorem Nv.rl_idx (h : a.ok) {i : Nat} (hi : i ∈ 2 :: a.rl) : i ∈ a.idx := by
  have := h.m1
  unfold Nv.idx
  rcases List.mem_cons.mp hi with rfl | hi
  · simp
  · rcases Nv.rl_mem h hi with ⟨j, _, rfl, hj⟩ | ⟨_, rfl⟩
    · exact List.mem_append_right _ (List.mem_cons_of_mem _ (List.mem_append_left _ (List.mem_map.mpr ⟨j, List.mem_range.mpr hj, rfl⟩)))
    · exact List.mem_append_left _ (List.mem_range.mpr (by omega))
theorem Nv.sh_ok (h : a.ok) (g : Nat → Str) : (a.sh g).ok (a.nd g) := by
  refine ⟨?_, ?_, ?_, fun z hz => ?_⟩
  · show (List.range a.many).map g = g 0 :: (List.range (a.many - 1)).map fun i => g (i + 1)
    have := h.m1
    obtain ⟨k, hk⟩ : ∃ k, a.many = k + 1 := ⟨a.many - 1, by omega⟩
    rw [hk, List.range_succ_eq_map, List.map_cons, List.map_map]
    rfl
  · show _ :: _ = _ :: _
    unfold Nv.sh Nv.nd
    simp only [List.map_map]
    rfl
  · show g 2 ∈ (sumT (g 2) (a.rl.map g)).nms
    rw [sumT_nms]
    exact List.mem_cons_self ..
  · have hz' : z ∈ (sumT (g 2) (a.rl.map g)).nms := hz
    rw [sumT_nms] at hz'
    rcases List.mem_cons.mp hz' with rfl | hz'
    · exact .inl rfl
    · obtain ⟨i, hi, rfl⟩ := List.mem_map.mp hz'
      rcases Nv.rl_mem h hi with ⟨j, _, rfl, hj⟩ | ⟨_, rfl⟩
      · exact .inr (.inl (List.mem_map.mpr ⟨j, List.mem_range.mpr hj, rfl⟩))
      · exact .inr (.inr rfl)
theorem Nv.g_nd (G : Gd g) {xs : List Nat} (h : xs.Nodup) (hl : ∀ i, i ∈ xs → i < 26) : (xs.map g).Nodup := nd_map h fun x hx y hy e => G.inj x y (hl x hx) (hl y hy) e
theorem Nv.nd_oks (h : a.ok) (G : Gd g) : (a.nd g).oks := by
  have hm1 := h.m1
  have hm2 := h.m2
  have hcl := h.cl
  have hP : ∀ i, Ptd (g i) := fun i => pn_nm (G.nm i)
  have hrw : ∀ r, r ∈ (a.nd g).rows → r = .bef (g 2) a.v (g 0) ∨ (∃ i, i < a.calls ∧ r = .call (g (5 + i)) a.c (g 0) a.k) ∨ r = .pln (g 3) (sumT (g 2) (a.rl.map g)) := fun r hr => by
    rcases List.mem_cons.mp hr with hr | hr
    · exact .inl hr
    · rcases List.mem_append.mp hr with hr | hr
      · obtain ⟨i, hi, rfl⟩ := List.mem_map.mp hr
        exact .inr (.inl ⟨i, List.mem_range.mp hi, rfl⟩)
      · exact .inr (.inr (List.mem_singleton.mp hr))
  have h0 : 0 ∈ a.idx := List.mem_append_left _ (List.mem_range.mpr (by omega))
  have hnm := Nv.names a g
  refine ⟨h.nm, ?_, fun x hx => ?_, hP 3, ?_, fun r hr => ?_, fun r hr x hx => ?_, ?_, ?_, ?_⟩
  · intro e
    have := congrArg List.length e
    have h1 : ((a.nd g).ins).length = a.many := by
      show ((List.range a.many).map g).length = _
      rw [List.length_map, List.length_range]
    rw [h1] at this
    exact absurd this (by show ¬ a.many = 0; omega)
  · obtain ⟨i, _, rfl⟩ := List.mem_map.mp hx
    exact hP i
  · rw [hnm]
    exact Nv.g_nd G (Nv.idx_nd h) fun i hi => Nv.idx_lt h hi
  · rcases hrw r hr with rfl | ⟨i, hi, rfl⟩ | rfl
    · exact ⟨hP 2, fun x hx => by rw [List.mem_singleton.mp hx]; exact hP 0, by show [g 0].Nodup; simp, by have := h.v0; omega, by have := h.v1; omega⟩
    · exact ⟨hP _, fun x hx => by rw [List.mem_singleton.mp hx]; exact hP 0, by show [g 0].Nodup; simp, h.cn (by omega)⟩
    · refine ⟨hP 3, fun x hx => ?_, ?_, ?_⟩
      · have hx' : x ∈ (sumT (g 2) (a.rl.map g)).nms := hx
        rw [sumT_nms] at hx'
        rcases List.mem_cons.mp hx' with rfl | hx'
        · exact hP 2
        · obtain ⟨i, _, rfl⟩ := List.mem_map.mp hx'
          exact hP i
      · show (sumT (g 2) (a.rl.map g)).nms.Nodup
        rw [sumT_nms]
        exact Nv.g_nd (xs := 2 :: a.rl) G (Nv.rl_nd a) fun i hi => Nv.idx_lt h (Nv.rl_idx h hi)
      · show (sumT (g 2) (a.rl.map g)).dep ≤ 5
        rw [sumT_dep, List.length_map]
        have := Nv.rl_len a
        omega
  · rw [hnm]
    rcases hrw r hr with rfl | ⟨i, hi, rfl⟩ | rfl
    · rw [List.mem_singleton.mp hx]
      exact List.mem_map_of_mem h0
    · rw [List.mem_singleton.mp hx]
      exact List.mem_map_of_mem h0
    · have hx' : x ∈ (sumT (g 2) (a.rl.map g)).nms := hx
      rw [sumT_nms] at hx'
      have hx2 : x ∈ (2 :: a.rl).map g := hx'
      obtain ⟨i, hi, rfl⟩ := List.mem_map.mp hx2
      exact List.mem_map_of_mem (Nv.rl_idx h hi)
  · show g 3 ∈ ((a.nd g).rows).map Rw.tell
    refine List.mem_map.mpr ⟨.pln (g 3) (sumT (g 2) (a.rl.map g)), ?_, rfl⟩
    exact List.mem_cons_of_mem _ (List.mem_append_right _ (List.mem_singleton.mpr rfl))
  · show ((List.range a.many).map g).length ≤ 100
    rw [List.length_map, List.length_range]
    omega
  · show (_ :: (_ ++ [_])).length ≤ 1000
    rw [List.length_cons, List.length_append, List.length_map, List.length_range, List.length_singleton]
    omega
theorem Nv.nm_names (G : Gd g) {x : Str} (hx : x ∈ (a.nd g).names) : Nm x := by
  rw [Nv.names] at hx
  obtain ⟨i, _, rfl⟩ := List.mem_map.mp hx
  exact G.nm i
end
end K99
/-! K50 -/
namespace K99
open PySem PySem.Spec PyProof.Rows L2
theorem rS.mid {X : Cx} {st : Stmt} {D : Ends} {σ : L2.St} {H : Hp} {Pv : L2.St → Hp → Prop} (h : rS X st { D with nx := Pv } σ H) (k : ∀ σ' H', Pv σ' H' → D.nx σ' H') : rS X st D σ H := fun pins s I => wpAny_mono (h pins s I) (fun f s' q => by
  cases f with
  | next =>
    obtain ⟨σ', H', I', p⟩ := q
    exact ⟨σ', H', I', k _ _ p⟩
  | brk => exact q
  | cont => exact q
  | ret u => exact q) fun _ _ x => x
theorem eq_int {i j : Int} : V.bl (decide (V.int i = V.int j)) = .bl (decide (i = j)) := congrArg V.bl (decide_eq_decide.mpr ⟨fun h => by injection h, fun h => by rw [h]⟩)
abbrev Ah := Option (ND × Int × Int × Bool)
def AhO (K : PySem.W.Frag) (H : Hp) (v : V) : Ah → Prop
  | none => v = .non
  | some (m, c, e, st) => ∃ t d, v = .ref t ∧ SqT K H t [.ref d, .int c, .int e, .bl st] ∧ NdD K H d m ∧ 1 ≤ m.ins.length ∧ m.ins.length ≤ 2 ∧ Nm m.name
theorem AhO.monoN {K : PySem.W.Frag} {H H' : Hp} {v : V} {ao : Ah} (s : SameN H H') (h : AhO K H v ao) : AhO K H' v ao := by
  cases ao with
  | none => exact h
  | some q =>
    obtain ⟨m, c, e, st⟩ := q
    obtain ⟨t, d, h1, h2, h3, h4⟩ := h
    exact ⟨t, d, h1, SameN.sqt s h2, h3.monoN s, h4⟩
def lnC (a : Nv) (ao : Ah) : Int := (a.many : Int) + 2 + (a.calls : Int) * ((match ao with | none => 0 | some (_, c, _, _) => c) - (a.k : Int))
def lnE (a : Nv) (ao : Ah) : Int := 1 + (a.calls : Int) * (match ao with | none => 0 | some (_, _, e, _) => e)
def lnS (a : Nv) (ao : Ah) : Bool := a.r0 || (a.rx.isSome && (match ao with | none => false | some (_, _, _, st) => st))
/-- a node of the law behind the one ahead -/
structure LnOk (a : Nv) (ao : Ah) : Prop where
  ok : a.ok
  no : ao = none → a.calls = 0 ∧ a.rx = none
  yes : ∀ m c e st, ao = some (m, c, e, st) → 1 ≤ a.calls ∧ a.c = m.name ∧ a.k = m.ins.length
def Nv.rows0 (a : Nv) (g : Nat → Str) : List Rw := .bef (g 2) a.v (g 0) :: (List.range a.calls).map fun i => Rw.call (g (5 + i)) a.c (g 0) a.k
/-- the law's lists while a node is made -/
structure LnSt (K : PySem.W.Frag) (H0 H : Hp) (b l I R D : Addr) (g : Nat → Str) (a : Nv) (ds : List PR) : Prop where
  x : SameX b H0 H
  bx : Box H b
  hl : H l = some (.lst (((List.range 26).map g).map .str))
  hi : H I = some (.lst (((List.range a.many).map g).map .str))
  hr : H R = some (.lst (ds.map fun p => .ref p.1))
  hd : H D = some (.lst (((2 :: a.rl).map g).map .str))
  nR : H0 R = none
  nD : H0 D = none
  e : ds.map (·.2) = a.rows0 g
  ds : ∀ p, p ∈ ds → RwD K H p.1 p.2
  nRD : R ≠ D
  nRl : R ≠ l ∧ R ≠ I ∧ R ≠ b ∧ D ≠ l ∧ D ≠ I ∧ D ≠ b
  nlI : l ≠ b ∧ I ≠ b
theorem LnSt.box {K : PySem.W.Frag} {H0 H H' : Hp} {b l I R D : Addr} {g : Nat → Str} {a : Nv} {ds : List PR} (st : LnSt K H0 H b l I R D g a ds) (x : SameX b H H') (hb : Box H' b) : LnSt K H0 H' b l I R D g a ds := by
  obtain ⟨u, v, w, hbx⟩ := st.bx
  have n := SameX.nL x hbx
  exact ⟨SameX.trans st.x x, hb, x _ _ st.nlI.1 st.hl, x _ _ st.nlI.2 st.hi, x _ _ st.nRl.2.2.1 st.hr, x _ _ st.nRl.2.2.2.2.2 st.hd, st.nR, st.nD, st.e, fun p hp => (st.ds p hp).monoN n, st.nRD, st.nRl, st.nlI⟩
theorem LnSt.same {K : PySem.W.Frag} {H0 H H' : Hp} {b l I R D : Addr} {g : Nat → Str} {a : Nv} {ds : List PR} (st : LnSt K H0 H b l I R D g a ds) (s : Same H H') : LnSt K H0 H' b l I R D g a ds :=
  ⟨SameX.trans st.x (Same.x s), st.bx.same s, s _ _ st.hl, s _ _ st.hi, s _ _ st.hr, s _ _ st.hd, st.nR, st.nD, st.e, fun p hp => (st.ds p hp).mono s, st.nRD, st.nRl, st.nlI⟩
theorem LnSt.re {K : PySem.W.Frag} {H0 H : Hp} {b l I R D : Addr} {g : Nat → Str} {a a' : Nv} {ds : List PR} (st : LnSt K H0 H b l I R D g a ds) (h1 : a'.many = a.many) (h2 : a'.rows0 g = a.rows0 g) (h3 : a'.rl = a.rl) : LnSt K H0 H b l I R D g a' ds :=
  ⟨st.x, st.bx, st.hl, by rw [h1]; exact st.hi, st.hr, by rw [h3]; exact st.hd, st.nR, st.nD, by rw [h2]; exact st.e, st.ds, st.nRD, st.nRl, st.nlI⟩
theorem LnSt.putD {K : PySem.W.Frag} {H0 H : Hp} {b l I R D : Addr} {g : Nat → Str} {a a' : Nv} {ds : List PR} {xs : List V} (st : LnSt K H0 H b l I R D g a ds) (h1 : a'.many = a.many) (h2 : a'.rows0 g = a.rows0 g) (h3 : xs = ((2 :: a'.rl).map g).map .str) : LnSt K H0 (upd H D (.lst xs)) b l I R D g a' ds := by
  obtain ⟨e1, e2, e3, e4, e5, e6⟩ := st.nRl
  exact ⟨SameX.mut st.x st.nD, st.bx.keep e6, by rw [upd_ne e4.symm]; exact st.hl, by rw [upd_ne e5.symm, h1]; exact st.hi, by rw [upd_ne st.nRD]; exact st.hr, by rw [upd_same, h3], st.nR, st.nD, by rw [h2]; exact st.e, fun p hp => (st.ds p hp).monoN (SameN.lst st.hd), st.nRD, st.nRl, st.nlI⟩
theorem LnSt.putR {K : PySem.W.Frag} {H0 H : Hp} {b l I R D : Addr} {g : Nat → Str} {a a' : Nv} {ds ds' : List PR} {xs : List V} (st : LnSt K H0 H b l I R D g a ds) (h1 : a'.many = a.many) (h2 : a'.rl = a.rl) (h3 : xs = ds'.map fun p => .ref p.1) (h4 : ds'.map (·.2) = a'.rows0 g) (h5 : ∀ p, p ∈ ds' → RwD K H p.1 p.2) : LnSt K H0 (upd H R (.lst xs)) b l I R D g a' ds' := by
  obtain ⟨e1, e2, e3, e4, e5, e6⟩ := st.nRl
  exact ⟨SameX.mut st.x st.nR, st.bx.keep e3, by rw [upd_ne e1.symm]; exact st.hl, by rw [upd_ne e2.symm, h1]; exact st.hi, by rw [upd_same, h3], by rw [upd_ne st.nRD.symm, h2]; exact st.hd, st.nR, st.nD, h4, fun p hp => (h5 p hp).monoN (SameN.lst st.hr), st.nRD, st.nRl, st.nlI⟩
def lnσ (b l I R D : Addr) (x : Str) (ah : V) (g : Nat → Str) (m : Nat) (c e : Int) (st : Bool) (more : List (Option V)) : L2.St := [some (.ref b), some (.str x), some ah, some (.ref l), some (.int m), some (.ref I), some (.str (g 2)), some (.str (g 3)), some (.ref R), some (.ref D), some (.int c), some (.int e), some (.bl st)] ++ more
def lnL (b l I R D : Addr) (x : Str) (t0 d0 : Addr) (g : Nat → Str) (mm : Nat) (a : Nv) (m : ND) (c e : Int) (sa : Bool) (n : Nat) (y18 y19 : Option V) : L2.St := lnσ b l I R D x (.ref t0) g mm (lnC a (some (m, c, e, sa))) (lnE a (some (m, c, e, sa))) false [some (.ref d0), some (.int c), some (.int e), some (.bl sa), some (.int (n : Int)), y18, y19]
theorem lnC_succ {x nm : Str} {mm i k : Nat} {v c e : Int} {m : ND} {sa r0 : Bool} {rx : Option Nat} : lnC ⟨x, mm, v, i + 1, nm, k, rx, r0⟩ (some (m, c, e, sa)) = lnC ⟨x, mm, v, i, nm, k, rx, r0⟩ (some (m, c, e, sa)) + c - (k : Int) := by
  show (mm : Int) + 2 + ((i + 1 : Nat) : Int) * (c - (k : Int)) = (mm : Int) + 2 + (i : Int) * (c - (k : Int)) + c - (k : Int)
  rw [Int.natCast_add, Int.add_mul]
  show (mm : Int) + 2 + ((i : Int) * (c - (k : Int)) + 1 * (c - (k : Int))) = _
  rw [Int.one_mul]
  omega
theorem lnE_succ {x nm : Str} {mm i k : Nat} {v c e : Int} {m : ND} {sa r0 : Bool} {rx : Option Nat} : lnE ⟨x, mm, v, i + 1, nm, k, rx, r0⟩ (some (m, c, e, sa)) = lnE ⟨x, mm, v, i, nm, k, rx, r0⟩ (some (m, c, e, sa)) + e := by
  show 1 + ((i + 1 : Nat) : Int) * e = 1 + (i : Int) * e + e
  rw [Int.natCast_add, Int.add_mul]
  show 1 + ((i : Int) * e + 1 * e) = _
  rw [Int.one_mul]
  omega
theorem lnC_zero {x nm : Str} {mm k : Nat} {v : Int} {r0 : Bool} {rx : Option Nat} {ao : Ah} : lnC ⟨x, mm, v, 0, nm, k, rx, r0⟩ ao = (mm : Int) + 2 := by
  unfold lnC
  show (mm : Int) + 2 + ((0 : Nat) : Int) * _ = _
  rw [Int.natCast_zero, Int.zero_mul, Int.add_zero]
theorem lnE_zero {x nm : Str} {mm k : Nat} {v : Int} {r0 : Bool} {rx : Option Nat} {ao : Ah} : lnE ⟨x, mm, v, 0, nm, k, rx, r0⟩ ao = 1 := by
  unfold lnE
  show 1 + ((0 : Nat) : Int) * _ = _
  rw [Int.natCast_zero, Int.zero_mul, Int.add_zero]
theorem flat_rep {α β : Type} {f : α → β} (k : Nat) (y : α) : (List.replicate k [f y]).flatten = (List.replicate k y).map f := by
  induction k with
  | zero => rfl
  | succ k ih =>
    rw [List.replicate_succ, List.replicate_succ, List.flatten_cons, ih]
    rfl
theorem rows0_succ {x nm : Str} {mm i k : Nat} {v : Int} {r0 : Bool} {rx : Option Nat} {g : Nat → Str} : Nv.rows0 ⟨x, mm, v, i + 1, nm, k, rx, r0⟩ g = Nv.rows0 ⟨x, mm, v, i, nm, k, rx, r0⟩ g ++ [.call (g (5 + i)) nm (g 0) k] := by
  unfold Nv.rows0
  dsimp only
  rw [List.range_succ, List.map_append]
  rfl
section
variable {P : Program} {w : World} {K : PySem.W.Frag} {mg : Str → Option Value} {base : Heap}
def spLNode (K : PySem.W.Frag) : Sp := fun vs H Q _ => ∃ (b : Addr) (x : Str) (ah : V) (ao : Ah), vs = [.ref b, .str x, ah] ∧ Box H b ∧ Nm x ∧ AhO K H ah ao ∧
  ∀ r d H' a g, SameX b H H' → Box H' b → Gd g → LnOk a ao → a.name = x → SqT K H' r [.ref d, .int (lnC a ao), .int (lnE a ao), .bl (lnS a ao)] → NdD K H' d (a.nd g) → Q (.ref r) H'
theorem ok__law_node (T : Txt K mg) : FnOk P w K mg base CX0 8 (f__law_node K) (fdAt K (f__law_node K)) P__law_node (spLNode K) := by
  refine FunD.ok T.F__law_node sc__law_node (fun vs H Q E h => ?_) (fun cdv A outer s H vs Q E hr h => ?_)
  · obtain ⟨b, x, ah, ao, rfl, _⟩ := h
    rfl
  · obtain ⟨b, x, ah, ao, rfl, hb, hx, hah, k⟩ := h
    refine ⟨_, PSs.nox (pss_cons (ps_set (i := 3) sc__law_node.nd rfl (by first | exact Or.inl rfl | exact Or.inr rfl) (pe_call (ok__law_pool T) (hr.mono (by first | decide | omega)) (by rfl) T.g__law_pool T.F__law_pool.kp T.b__law_pool .nil pass0 (pa_cons (pv 0) (pa_cons pe_int pa_nil)))) (pss_cons (ps_set (i := 4) sc__law_node.nd rfl (by first | exact Or.inl rfl | exact Or.inr rfl) (pe_op op_add pe_int (pe_call (ok__law_take T) (hr.mono (by first | decide | omega)) (by rfl) T.g__law_take T.F__law_take.kp T.b__law_take .nil pass0 (pa_cons (pv 0) (pa_cons pe_int pa_nil))))) (pss_cons (ps_par3 (i := 5) (j := 6) (l := 7) (by rfl) sc__law_node.nd rfl rfl rfl (by decide) (by decide) (by decide) rfl rfl rfl (pa_cons (pe_slice sl_list (pv 3) po_none (po_some (pv 4))) (pa_cons (pe_ix ix_list (pv 3) pe_int (fun _ _ => rfl)) (pa_cons (pe_ix ix_list (pv 3) pe_int (fun _ _ => rfl)) pa_nil))) (by rfl)) (pss_cons (ps_par (i := 8) (j := 9) (by rfl) sc__law_node.nd rfl rfl (by decide) rfl rfl (pa_cons (pe_lst (pa_cons (pe_tup (pa_cons pe_str (pa_cons (pv 6) (pa_cons (pe_call (ok__law_take T) (hr.mono (by first | decide | omega)) (by rfl) T.g__law_take T.F__law_take.kp T.b__law_take .nil pass0 (pa_cons (pv 0) (pa_cons pe_int pa_nil))) (pa_cons (pe_ix ix_list (pv 5) pe_int (fun _ _ => rfl)) pa_nil))))) pa_nil)) (pa_cons (pe_lst (pa_cons (pv 6) pa_nil)) pa_nil)) (by rfl)) (pss_cons (ps_par (i := 10) (j := 11) (by rfl) sc__law_node.nd rfl rfl (by decide) rfl rfl (pa_cons (pe_op op_add (pv 4) pe_int) (pa_cons pe_int pa_nil)) (by rfl)) (pss_cons (ps_set (i := 12) sc__law_node.nd rfl (by first | exact Or.inl rfl | exact Or.inr rfl) pe_bl) (pss_cons pS (pss_cons pS (pss_cons (ps_expr (pe_bm PySem.F.plainAttrs_list PySem.F.slot_list_append PySem.F.type_list_append mt_append (pv 8) (pa_cons (pe_tup (pa_cons pe_str (pa_cons (pv 7) (pa_cons (pe_call (ok__law_sum_of T) (hr.mono (by first | decide | omega)) (by rfl) T.g__law_sum_of T.F__law_sum_of.kp T.b__law_sum_of .nil pass0 (pa_cons (pv 9) pa_nil)) pa_nil)))) pa_nil))) (pss_one (ps_ret (pe_tup (pa_cons (pe_tup (pa_cons (pv 1) (pa_cons (pe_callTy call_tuple_of (by rfl) T.z_tuple boot_tuple (pa_cons (pv 5) pa_nil)) (pa_cons (pe_tup (pa_cons (pv 7) pa_nil)) (pa_cons (pe_callTy call_tuple_of (by rfl) T.z_tuple boot_tuple (pa_cons (pv 8) pa_nil)) pa_nil))))) (pa_cons (pv 10) (pa_cons (pv 11) (pa_cons (pv 12) pa_nil)))))))))))))))), ?_⟩
    rw [show L2.start N__law_node [V.ref b, V.str x, ah] = [some (.ref b), some (.str x), some ah, none, none, none, none, none, none, none, none, none, none, none, none, none, none, none, none, none] from rfl]
    refine ⟨_, rfl, b, 26, rfl, Nat.le_refl _, hb, fun l bs p f H1 x1 hb1 nl B hp hl => ?_⟩
    have G := gd_pool B hp (f := f)
    generalize hg : plK bs p f = g at hl G
    refine ⟨_, rfl, b, 2, rfl, by decide, by decide, hb1, fun mv H2 x2 hb2 m0 m2 => ?_⟩
    obtain ⟨mm, rfl⟩ := Int.eq_ofNat_of_zero_le m0
    refine ⟨_, _, rfl, rfl, ?_⟩
    have em : (1 : Int) + (mm : Int) = ((1 + mm : Nat) : Int) := by omega
    dsimp only
    rw [em]
    have hl2 : H2 l = some (.lst (((List.range 26).map g).map .str)) := x2 _ _ (hb.ne nl) hl
    refine ⟨_, rfl, _, rfl, _, rfl, l, _, rfl, SqL.of hl2, fun I hI => ?_⟩
    rw [cutV_to, ← List.map_take, ← List.map_take, List.take_range, Nat.min_eq_left (by omega)]
    have s3 : Same H2 (upd H2 I (.lst (((List.range (1 + mm)).map g).map .str))) := Same.new hI
    have gI : upd H2 I (.lst (((List.range (1 + mm)).map g).map .str)) I = some (.lst (((List.range (1 + mm)).map g).map .str)) := upd_same
    generalize upd H2 I (.lst (((List.range (1 + mm)).map g).map .str)) = H3 at s3 gI ⊢
    have hat : ∀ {n i : Nat}, i < n → atI (((List.range n).map g).map V.str) (i : Int) = some (.str (g i)) := fun {n i} h => at_nat (by rw [List.getElem?_map, List.getElem?_map, List.getElem?_range h]; rfl)
    refine ⟨_, rfl, l, _, 2, .str (g 2), rfl, rfl, SqL.of (s3 _ _ hl2), hat (by decide), _, rfl, l, _, 3, .str (g 3), rfl, rfl, SqL.of (s3 _ _ hl2), hat (by decide), ?_⟩
    refine ⟨_, _, _, rfl, ?_⟩
    refine ⟨_, rfl, _, rfl, b, 9, rfl, by decide, by decide, hb2.same s3, fun v0 H4 x4 hb4 v1 v9 => ?_⟩
    have gI4 : H4 I = some (.lst (((List.range (1 + mm)).map g).map .str)) := x4 _ _ (hb2.ne hI) gI
    refine ⟨_, rfl, I, _, 0, .str (g 0), rfl, rfl, SqL.of gI4, hat (i := 0) (by omega), sz (n := 4) (by decide), fun t ht => ?_⟩
    have s5 : Same H4 (upd H4 t (.tup [.str "before", .str (g 2), .int v0, .str (g 0)])) := Same.new ht
    have g5 : RwD K (upd H4 t (.tup [.str "before", .str (g 2), .int v0, .str (g 0)])) t (.bef (g 2) v0 (g 0)) := SqT.of upd_same
    generalize upd H4 t (.tup [.str "before", .str (g 2), .int v0, .str (g 0)]) = H5 at s5 g5 ⊢
    refine ⟨sz (n := 1) (by decide), fun R hR => ?_⟩
    have s6 : Same H5 (upd H5 R (.lst [.ref t])) := Same.new hR
    have g6 : upd H5 R (.lst [.ref t]) R = some (.lst [.ref t]) := upd_same
    generalize upd H5 R (.lst [.ref t]) = H6 at s6 g6 ⊢
    refine ⟨_, rfl, sz (n := 1) (by decide), fun D hD => ?_⟩
    have s7 : Same H6 (upd H6 D (.lst [.str (g 2)])) := Same.new hD
    have g7 : upd H6 D (.lst [.str (g 2)]) D = some (.lst [.str (g 2)]) := upd_same
    generalize upd H6 D (.lst [.str (g 2)]) = H7 at s7 g7 ⊢
    refine ⟨_, _, rfl, ?_⟩
    refine ⟨_, rfl, _, _, rfl, rfl, _, _, rfl, ?_⟩
    have x04 : SameX b H H4 := SameX.trans x1 (SameX.trans x2 (SameX.trans (Same.x s3) x4))
    have x07 : SameX b H H7 := SameX.trans x04 (Same.x (s5.trans (s6.trans s7)))
    have hl7 : H7 l = some (.lst (((List.range 26).map g).map .str)) := (s5.trans (s6.trans s7)) _ _ (x4 _ _ (hb.ne nl) (s3 _ _ hl2))
    have gI7 := (s5.trans (s6.trans s7)) _ _ gI4
    have gR7 := s7 _ _ g6
    have nR4 : H4 R = none := s5.free hR
    have nD4 : H4 D = none := (s5.trans s6).free hD
    have hb7 : Box H7 b := hb4.same (s5.trans (s6.trans s7))
    have nRb : R ≠ b := hb4.ne nR4
    have nDb : D ≠ b := hb4.ne nD4
    have nRD : R ≠ D := fun e => by
      subst e
      rw [g6] at hD
      cases hD
    have hst : LnSt K H H7 b l I R D g ⟨x, 1 + mm, v0, 0, "", 0, none, false⟩ [(t, .bef (g 2) v0 (g 0))] := by
      refine ⟨x07, hb7, hl7, gI7, gR7, g7, x04.free' nRb nR4, x04.free' nDb nD4, rfl, fun p hp => ?_, nRD, ⟨?_, ?_, nRb, ?_, ?_, nDb⟩, hb.ne nl, hb2.ne hI⟩
      · rw [List.mem_singleton.mp hp]
        exact g5.mono (s6.trans s7)
      · exact fun e => by
          subst e
          rw [x4 _ _ (hb.ne nl) (s3 _ _ hl2)] at nR4
          cases nR4
      · exact fun e => by
          subst e
          rw [gI4] at nR4
          cases nR4
      · exact fun e => by
          subst e
          rw [x4 _ _ (hb.ne nl) (s3 _ _ hl2)] at nD4
          cases nD4
      · exact fun e => by
          subst e
          rw [gI4] at nD4
          cases nD4
    refine rS.mid (Pv := fun σ H' => ∃ (a : Nv) (ds : List PR) (more : List (Option V)), a.name = x ∧ a.r0 = false ∧ LnOk a ao ∧ LnSt K H H' b l I R D g a ds ∧ more.length = 7 ∧ σ = lnσ b l I R D x ah g a.many (lnC a ao) (lnE a ao) (lnS a ao) more) ?_ fun σ H8 q => ?_
    · refine rS.go (ps_if (pt_cmp (pc_notN (pv 2))) (pss_cons (ps_asg (pv 2) (pg_tup rfl (pgs_cons (pg_name (i := 13) sc__law_node.nd rfl (by first | exact Or.inl rfl | exact Or.inr rfl)) (pgs_cons (pg_name (i := 14) sc__law_node.nd rfl (by first | exact Or.inl rfl | exact Or.inr rfl)) (pgs_cons (pg_name (i := 15) sc__law_node.nd rfl (by first | exact Or.inl rfl | exact Or.inr rfl)) (pgs_cons (pg_name (i := 16) sc__law_node.nd rfl (by first | exact Or.inl rfl | exact Or.inr rfl)) pgs_nil)))))) (pss_cons (ps_set (i := 17) sc__law_node.nd rfl (by first | exact Or.inl rfl | exact Or.inr rfl) (pe_op op_add pe_int (pe_ix ix_list (pe_lst (pa_cons (pe_call (ok__law_take T) (hr.mono (by first | decide | omega)) (by rfl) T.g__law_take T.F__law_take.kp T.b__law_take .nil pass0 (pa_cons (pv 0) (pa_cons pe_int pa_nil))) (pa_cons pe_int (pa_cons (pe_call (ok__law_take T) (hr.mono (by first | decide | omega)) (by rfl) T.g__law_take T.F__law_take.kp T.b__law_take .nil pass0 (pa_cons (pv 0) (pa_cons pe_int pa_nil))) pa_nil)))) (pe_call (ok__law_take T) (hr.mono (by first | decide | omega)) (by rfl) T.g__law_take T.F__law_take.kp T.b__law_take .nil pass0 (pa_cons (pv 0) (pa_cons pe_int pa_nil))) (fun _ _ => rfl)))) (pss_cons pS (pss_one (ps_if (pt_cmpR op_eq (pe_call (ok__law_take T) (hr.mono (by first | decide | omega)) (by rfl) T.g__law_take T.F__law_take.kp T.b__law_take .nil pass0 (pa_cons (pv 0) (pa_cons pe_int pa_nil))) pe_int (by rfl)) (pss_cons (ps_expr (pe_bm PySem.F.plainAttrs_list PySem.F.slot_list_append PySem.F.type_list_append mt_append (pv 9) (pa_cons (pe_ix ix_list (pv 3) (pe_op op_add pe_int (pe_call (ok__law_take T) (hr.mono (by first | decide | omega)) (by rfl) T.g__law_take T.F__law_take.kp T.b__law_take .nil pass0 (pa_cons (pv 0) (pa_cons (pv 17) pa_nil)))) (fun _ _ => rfl)) pa_nil))) (pss_one (ps_set (i := 12) sc__law_node.nd rfl (by first | exact Or.inl rfl | exact Or.inr rfl) (pv 16)))) pss_nil))))) pss_nil) ?_
      cases ao with
      | none =>
        have hah : ah = .non := hah
        subst hah
        refine ⟨_, rfl, false, rfl, iteF ?_⟩
        refine ⟨⟨x, 1 + mm, v0, 0, "", 0, none, false⟩, _, [none, none, none, none, none, none, none], rfl, rfl, ⟨⟨hx, by show 1 ≤ 1 + mm; omega, by show 1 + mm ≤ 2; omega, v1, v9, Nat.zero_le _, fun h => absurd rfl h, fun j h => by cases h⟩, fun _ => ⟨rfl, rfl⟩, fun _ _ _ _ h => by cases h⟩, hst, rfl, ?_⟩
        have ec : lnC ⟨x, 1 + mm, v0, 0, "", 0, none, false⟩ none = ((1 + mm : Nat) : Int) + 2 := by
          unfold lnC
          simp
        have ee : lnE ⟨x, 1 + mm, v0, 0, "", 0, none, false⟩ none = 1 := by
          unfold lnE
          simp
        rw [ec, ee]
        rfl
      | some q =>
        obtain ⟨m, c, e, sa⟩ := q
        obtain ⟨t0, d0, rfl, t1, t2, t3, t4, t5⟩ := hah
        refine ⟨_, rfl, true, rfl, iteT ?_⟩
        obtain ⟨bx1, bx2, bx3, hbx⟩ := id hb
        have n07 : SameN H H7 := SameX.nL x07 hbx
        refine ⟨_, rfl, t0, _, rfl, SameN.sqt n07 t1, rfl, _, _, rfl, _, _, rfl, _, _, rfl, _, _, rfl, rfl, ?_⟩
        refine ⟨_, rfl, b, 5, rfl, by decide, by decide, hb7, fun q1 H8 x8 hb8 a0 a5 => ?_⟩
        refine ⟨_, rfl, b, 20, rfl, by decide, by decide, hb8, fun q2 H9 x9 hb9 b0 b20 => ?_⟩
        refine ⟨sz (n := 3) (by decide), fun L hL => ?_⟩
        have g10 : upd H9 L (.lst [.int q1, .int 19, .int q2]) L = some (.lst [.int q1, .int 19, .int q2]) := upd_same
        have s10 : Same H9 (upd H9 L (.lst [.int q1, .int 19, .int q2])) := Same.new hL
        have nLb : L ≠ b := hb9.ne hL
        generalize upd H9 L (.lst [.int q1, .int 19, .int q2]) = H10 at g10 s10 ⊢
        refine ⟨_, rfl, b, 3, rfl, by decide, by decide, hb9.same s10, fun q3 H11 x11 hb11 c0 c3 => ?_⟩
        have g11 := x11 _ _ nLb g10
        obtain ⟨cv, hcv, hcv19⟩ : ∃ cv : Nat, atI [V.int q1, .int 19, .int q2] q3 = some (.int (cv : Int)) ∧ cv ≤ 19 := by
          have h3 : q3 = 0 ∨ q3 = 1 ∨ q3 = 2 := by omega
          rcases h3 with rfl | rfl | rfl
          · exact ⟨q1.toNat, by rw [Int.toNat_of_nonneg a0]; rfl, by omega⟩
          · exact ⟨19, rfl, Nat.le_refl _⟩
          · exact ⟨q2.toNat, by rw [Int.toNat_of_nonneg b0]; rfl, by omega⟩
        refine ⟨L, _, q3, _, rfl, rfl, SqL.of g11, hcv, _, _, rfl, rfl, ?_⟩
        have ecv : (1 : Int) + (cv : Int) = ((1 + cv : Nat) : Int) := by omega
        dsimp only
        rw [ecv]
        have st11 : LnSt K H H11 b l I R D g ⟨x, 1 + mm, v0, 0, "", 0, none, false⟩ [(t, .bef (g 2) v0 (g 0))] := (((hst.box x8 hb8).box x9 hb9).same s10).box x11 hb11
        refine rS.mid (Pv := fun σ H' => ∃ (ds : List PR) (y18 y19 : Option V), LnSt K H H' b l I R D g ⟨x, 1 + mm, v0, 1 + cv, m.name, m.ins.length, none, false⟩ ds ∧ σ = lnL b l I R D x t0 d0 g (1 + mm) ⟨x, 1 + mm, v0, 1 + cv, m.name, m.ins.length, none, false⟩ m c e sa (1 + cv) y18 y19) ?_ fun σ H12 q => ?_
        · refine rS.go (ps_for PassesOwn.never rfl (pi_range1 (by rfl) T.z_range (pa_cons (pv 17) pa_nil)) (pg_name (i := 18) sc__law_node.nd rfl (Or.inl rfl)) pB) ?_
          refine ⟨_, rfl, _, rfl, by omega, by omega, ?_⟩
          refine for_map (wm_range (1 + cv)) (fun pre σ H' => ∃ (ds : List PR) (y18 y19 : Option V), LnSt K H H' b l I R D g ⟨x, 1 + mm, v0, pre.length, m.name, m.ins.length, none, false⟩ ds ∧ σ = lnL b l I R D x t0 d0 g (1 + mm) ⟨x, 1 + mm, v0, pre.length, m.name, m.ins.length, none, false⟩ m c e sa (1 + cv) y18 y19) ⟨_, none, none, st11.re rfl rfl rfl, ?_⟩ (fun _ _ _ _ => trivial) (fun pre i post σ H' e2 q => ?_) (fun σ H' q => ?_)
          · unfold lnL
            rw [show ([] : List Nat).length = 0 from rfl, lnC_zero, lnE_zero]
            rfl
          · obtain ⟨ds, y18, y19, st, rfl⟩ := q
            obtain ⟨ei, _, hi⟩ := range_pre e2
            subst ei
            have hat' : ∀ {n i : Nat}, i < n → atI (((List.range n).map g).map V.str) (i : Int) = some (.str (g i)) := hat
            have nH' : SameN H H' := SameX.nL st.x hbx
            obtain ⟨ii, oo, rr, dd, n1, n2, n3, n4, n5, n6⟩ := NdD.monoN nH' t2
            refine rB.go (pss_cons (ps_set (i := 19) sc__law_node.nd rfl (by first | exact Or.inl rfl | exact Or.inr rfl) (pe_callTy call_tuple_of (by rfl) T.z_tuple boot_tuple (pa_cons (pe_op op_rep (pe_lst (pa_cons (pe_ix ix_list (pv 5) pe_int (fun _ _ => rfl)) pa_nil)) (pe_callB call_len_seq (by rfl) T.z_len PySem.boot_len (pa_cons (pe_ix ix_tup (pv 13) pe_int (fun _ _ => rfl)) pa_nil))) pa_nil))) (pss_cons (ps_expr (pe_bm PySem.F.plainAttrs_list PySem.F.slot_list_append PySem.F.type_list_append mt_append (pv 8) (pa_cons (pe_tup (pa_cons pe_str (pa_cons (pe_tup (pa_cons (pe_ix ix_list (pv 3) (pe_op op_add pe_int (pv 18)) (fun _ _ => rfl)) pa_nil)) (pa_cons (pe_ix ix_tup (pv 13) pe_int (fun _ _ => rfl)) (pa_cons (pv 19) pa_nil))))) pa_nil))) (pss_cons (ps_set (i := 10) sc__law_node.nd rfl (by first | exact Or.inl rfl | exact Or.inr rfl) (pe_op op_sub (pe_op op_add (pv 10) (pv 14)) (pe_callB call_len_seq (by rfl) T.z_len PySem.boot_len (pa_cons (pe_ix ix_tup (pv 13) pe_int (fun _ _ => rfl)) pa_nil)))) (pss_one (ps_set (i := 11) sc__law_node.nd rfl (by first | exact Or.inl rfl | exact Or.inr rfl) (pe_op op_add (pv 11) (pv 15))))))) ?_
            refine ⟨_, rfl, I, _, 0, .str (g 0), rfl, rfl, SqL.of st.hi, hat' (i := 0) (by show 0 < 1 + mm; omega), sz (n := 1) (by decide), fun L2 hL2 => ?_⟩
            have s1 : Same H' (upd H' L2 (.lst [.str (g 0)])) := Same.new hL2
            have g1 : upd H' L2 (.lst [.str (g 0)]) L2 = some (.lst [.str (g 0)]) := upd_same
            generalize upd H' L2 (.lst [.str (g 0)]) = H21 at s1 g1 ⊢
            refine ⟨_, rfl, d0, _, 1, .ref ii, rfl, rfl, Same.sqt s1 n1, rfl, ii, _, rfl, .inr (Same.sqt s1 n2), ?_⟩
            rw [List.length_map]
            refine ⟨L2, _, [.str (g 0)], rfl, rfl, g1, by omega, by omega, sz (by rw [Int.toNat_natCast]; show 1 * m.ins.length ≤ 1000000; omega), fun p hp => ?_⟩
            rw [Int.toNat_natCast, flat_rep (f := V.str)]
            have s2 : Same H21 (upd H21 p (.lst ((List.replicate m.ins.length (g 0)).map .str))) := Same.new hp
            have g2 : upd H21 p (.lst ((List.replicate m.ins.length (g 0)).map .str)) p = some (.lst ((List.replicate m.ins.length (g 0)).map .str)) := upd_same
            generalize upd H21 p (.lst ((List.replicate m.ins.length (g 0)).map .str)) = H22 at s2 g2 ⊢
            refine ⟨p, _, rfl, .inl ⟨SqL.of g2, fun ta hta => ?_⟩⟩
            have s3 : Same H22 (upd H22 ta (.tup ((List.replicate m.ins.length (g 0)).map .str))) := Same.new hta
            have g3 : SqT K (upd H22 ta (.tup ((List.replicate m.ins.length (g 0)).map .str))) ta ((List.replicate m.ins.length (g 0)).map .str) := SqT.of upd_same
            generalize upd H22 ta (.tup ((List.replicate m.ins.length (g 0)).map .str)) = H23 at s3 g3 ⊢
            have s03 : Same H' H23 := s1.trans (s2.trans s3)
            have st3 := st.same s03
            have ei : (5 : Int) + (pre.length : Int) = ((5 + pre.length : Nat) : Int) := by omega
            refine ⟨_, rfl, .inl ⟨rfl, _, SqL.of st3.hr⟩, _, rfl, _, rfl, _, _, rfl, rfl, l, _, _, .str (g (5 + pre.length)), rfl, rfl, SqL.of st3.hl, by rw [ei]; exact hat' (by omega), sz (n := 1) (by decide), fun o ho => ?_⟩
            have s4 : Same H23 (upd H23 o (.tup [.str (g (5 + pre.length))])) := Same.new ho
            have g4 : SqT K (upd H23 o (.tup [.str (g (5 + pre.length))])) o [.str (g (5 + pre.length))] := SqT.of upd_same
            generalize upd H23 o (.tup [.str (g (5 + pre.length))]) = H24 at s4 g4 ⊢
            refine ⟨_, rfl, d0, _, 0, .str m.name, rfl, rfl, Same.sqt (s03.trans s4) n1, rfl, _, rfl, sz (n := 4) (by decide), fun tc htc => ?_⟩
            have s5 : Same H24 (upd H24 tc (.tup [.str "call", .ref o, .str m.name, .ref ta])) := Same.new htc
            have g5 : RwD K (upd H24 tc (.tup [.str "call", .ref o, .str m.name, .ref ta])) tc (.call (g (5 + pre.length)) m.name (g 0) m.ins.length) := ⟨o, ta, SqT.of upd_same, Same.sqt s5 g4, Same.sqt (s4.trans s5) g3⟩
            generalize upd H24 tc (.tup [.str "call", .ref o, .str m.name, .ref ta]) = H25 at s5 g5 ⊢
            have st5 := st3.same (s4.trans s5)
            have hdl : ds.length = 1 + pre.length := by
              have := congrArg List.length st5.e
              rw [List.length_map] at this
              rw [this]
              unfold Nv.rows0
              rw [List.length_cons, List.length_map, List.length_range, Nat.add_comm]
            refine ⟨R, _, _, rfl, rfl, st5.hr, by rw [List.length_map]; exact szl (by omega), ?_⟩
            have st6 : LnSt K H (upd H25 R (.lst (ds.map (fun p => V.ref p.1) ++ [.ref tc]))) b l I R D g ⟨x, 1 + mm, v0, pre.length + 1, m.name, m.ins.length, none, false⟩ (ds ++ [(tc, .call (g (5 + pre.length)) m.name (g 0) m.ins.length)]) := by
              refine st5.putR rfl rfl ?_ ?_ fun p hp => ?_
              · rw [List.map_append]
                rfl
              · rw [List.map_append, st5.e, rows0_succ]
                rfl
              · rcases List.mem_append.mp hp with hp | hp
                · exact st5.ds p hp
                · rw [List.mem_singleton.mp hp]
                  exact g5
            have nH6 : SameN H (upd H25 R (.lst (ds.map (fun p => V.ref p.1) ++ [.ref tc]))) := SameX.nL st6.x hbx
            obtain ⟨ii2, oo2, rr2, dd2, n12, n22, _⟩ := NdD.monoN nH6 t2
            generalize upd H25 R (.lst (ds.map (fun p => V.ref p.1) ++ [.ref tc])) = H26 at st6 n12 n22 ⊢
            refine ⟨_, rfl, _, rfl, _, _, rfl, rfl, _, rfl, d0, _, 1, .ref ii2, rfl, rfl, n12, rfl, ii2, _, rfl, .inr n22, _, _, rfl, rfl, ?_⟩
            refine ⟨_, rfl, _, rfl, _, _, rfl, rfl, ?_⟩
            rw [List.length_map]
            refine ⟨ds ++ [(tc, .call (g (5 + pre.length)) m.name (g 0) m.ins.length)], some (.int (pre.length : Int)), some (.ref ta), by rw [List.length_append]; exact st6, ?_⟩
            unfold lnL
            rw [List.length_append, show [pre.length].length = 1 from rfl, lnC_succ, lnE_succ]
            rfl
          · rw [List.length_range] at q
            exact q
        · obtain ⟨ds, y18, y19, st12, rfl⟩ := q
          refine ⟨_, rfl, b, 2, rfl, by decide, by decide, st12.bx, fun v H13 x13 hb13 w0 w2 => ?_⟩
          have st13 := st12.box x13 hb13
          refine ⟨rfl, decide (v = 0), eq_int, ?_⟩
          have hok : ∀ rx : Option Nat, (∀ j, rx = some j → j < 1 + cv) → LnOk ⟨x, 1 + mm, v0, 1 + cv, m.name, m.ins.length, rx, false⟩ (some (m, c, e, sa)) := fun rx h => ⟨⟨hx, by show 1 ≤ 1 + mm; omega, by show 1 + mm ≤ 2; omega, v1, v9, by show 1 + cv ≤ 20; omega, fun _ => ⟨t5, t3, t4⟩, h⟩, fun h => (by cases h), fun m' c' e' st' h => (by
            obtain ⟨rfl, _⟩ := Prod.mk.inj (Option.some.inj h)
            exact ⟨by show 1 ≤ 1 + cv; omega, rfl, rfl⟩)⟩
          by_cases cc : v = 0
          · rw [decide_eq_true cc]
            refine iteT ?_
            refine ⟨_, rfl, .inl ⟨rfl, _, SqL.of st13.hd⟩, _, rfl, _, rfl, _, rfl, b, ((1 + cv : Nat) : Int), rfl, by omega, by omega, st13.bx, fun jv H14 x14 hb14 j0 jn => ?_⟩
            have st14 := st13.box x14 hb14
            obtain ⟨j, rfl⟩ := Int.eq_ofNat_of_zero_le j0
            have ej : (5 : Int) + (j : Int) = ((5 + j : Nat) : Int) := by omega
            refine ⟨_, _, rfl, rfl, l, _, _, .str (g (5 + j)), rfl, rfl, SqL.of st14.hl, by rw [ej]; exact hat (by omega), D, _, _, rfl, rfl, st14.hd, szl (by show 1 ≤ 1000000; decide), ?_⟩
            exact ⟨_, rfl, ⟨x, 1 + mm, v0, 1 + cv, m.name, m.ins.length, some j, false⟩, ds, _, rfl, rfl, hok (some j) (fun j' h => by injection h with h; omega), st14.putD rfl rfl rfl, rfl, rfl⟩
          · rw [decide_eq_false cc]
            refine iteF ?_
            exact ⟨_, ds, _, rfl, rfl, hok none (fun j h => by cases h), st13, rfl, rfl⟩
    · obtain ⟨a, ds, more, ha, hr0, hln, st, hm, rfl⟩ := q
      refine rS.mid (Pv := fun σ H' => ∃ (a : Nv) (ds : List PR) (more : List (Option V)), a.name = x ∧ LnOk a ao ∧ LnSt K H H' b l I R D g a ds ∧ σ = lnσ b l I R D x ah g a.many (lnC a ao) (lnE a ao) (lnS a ao) more) ?_ fun σ H9 q => ?_
      · refine rS.go (ps_if (pt_cmpR op_eq (pe_call (ok__law_take T) (hr.mono (by first | decide | omega)) (by rfl) T.g__law_take T.F__law_take.kp T.b__law_take .nil pass0 (pa_cons (pv 0) (pa_cons pe_int pa_nil))) pe_int (by rfl)) (pss_cons (ps_expr (pe_bm PySem.F.plainAttrs_list PySem.F.slot_list_append PySem.F.type_list_append mt_append (pv 9) (pa_cons (pe_ix ix_list (pv 5) pe_int (fun _ _ => rfl)) pa_nil))) (pss_one (ps_set (i := 12) sc__law_node.nd rfl (by first | exact Or.inl rfl | exact Or.inr rfl) pe_bl))) pss_nil) ?_
        refine ⟨_, rfl, b, 3, rfl, by decide, by decide, st.bx, fun v H9 x9 hb9 v0 v3 => ?_⟩
        have st9 := st.box x9 hb9
        have hat9 : atI (((List.range a.many).map g).map V.str) 0 = some (.str (g 0)) := by
          have := hln.ok.m1
          exact at_nat (i := 0) (by rw [List.getElem?_map, List.getElem?_map, List.getElem?_range (by omega)]; rfl)
        refine ⟨rfl, decide (v = 0), eq_int, ?_⟩
        by_cases c : v = 0
        · rw [decide_eq_true c]
          refine iteT ?_
          have hrl := Nv.rl_len a
          refine ⟨_, rfl, .inl ⟨rfl, _, SqL.of st9.hd⟩, _, rfl, I, _, 0, .str (g 0), rfl, rfl, SqL.of st9.hi, hat9, D, _, _, rfl, rfl, st9.hd, ?_, ?_⟩
          · rw [List.length_map, List.length_map, List.length_cons]
            exact szl (by omega)
          refine ⟨⟨a.name, a.many, a.v, a.calls, a.c, a.k, a.rx, true⟩, ds, more, ha, ⟨⟨hln.ok.nm, hln.ok.m1, hln.ok.m2, hln.ok.v0, hln.ok.v1, hln.ok.cl, hln.ok.cn, hln.ok.rx⟩, hln.no, hln.yes⟩, st9.putD rfl rfl ?_, rfl⟩
          unfold Nv.rl
          rw [hr0]
          cases a.rx <;> rfl
        · rw [decide_eq_false c]
          refine iteF ?_
          exact ⟨a, ds, more, ha, hln, st9, rfl⟩
      · obtain ⟨a, ds, more, ha, hln, st, rfl⟩ := q
        have hrl := Nv.rl_len a
        refine ⟨_, rfl, .inl ⟨rfl, _, SqL.of st.hr⟩, _, rfl, _, rfl, D, g 2, a.rl.map g, rfl, st.hd, by rw [List.length_map]; omega, fun d H10 s10 td => ?_⟩
        have st10 := st.same s10
        refine ⟨sz (n := 3) (by decide), fun t ht => ?_⟩
        have s11 : Same H10 (upd H10 t (.tup [.str "plain", .str (g 3), .ref d])) := Same.new ht
        have g11 : RwD K (upd H10 t (.tup [.str "plain", .str (g 3), .ref d])) t (.pln (g 3) (sumT (g 2) (a.rl.map g))) := ⟨d, SqT.of upd_same, td.mono s11⟩
        have st11 := st10.same s11
        generalize upd H10 t (.tup [.str "plain", .str (g 3), .ref d]) = H11 at s11 g11 st11 ⊢
        have hdl : ds.length = 1 + a.calls := by
          have := congrArg List.length st.e
          rw [List.length_map] at this
          rw [this]
          unfold Nv.rows0
          rw [List.length_cons, List.length_map, List.length_range, Nat.add_comm]
        have hcl := hln.ok.cl
        refine ⟨R, _, _, rfl, rfl, st11.hr, by rw [List.length_map]; exact szl (by omega), ?_⟩
        have n12 : SameN H11 (upd H11 R (.lst (ds.map (fun p => V.ref p.1) ++ [.ref t]))) := SameN.lst st11.hr
        have x12 : SameX b H (upd H11 R (.lst (ds.map (fun p => V.ref p.1) ++ [.ref t]))) := SameX.mut st11.x st11.nR
        have b12 : Box (upd H11 R (.lst (ds.map (fun p => V.ref p.1) ++ [.ref t]))) b := st11.bx.keep st11.nRl.2.2.1
        have i12 : upd H11 R (.lst (ds.map (fun p => V.ref p.1) ++ [.ref t])) I = some (.lst (((List.range a.many).map g).map .str)) := by rw [upd_ne st11.nRl.2.1.symm]; exact st11.hi
        have r12 : upd H11 R (.lst (ds.map (fun p => V.ref p.1) ++ [.ref t])) R = some (.lst ((ds ++ [(t, Rw.pln (g 3) (sumT (g 2) (a.rl.map g)))]).map fun p => V.ref p.1)) := by rw [upd_same, List.map_append]; rfl
        have w12 : ∀ p, p ∈ ds ++ [(t, Rw.pln (g 3) (sumT (g 2) (a.rl.map g)))] → RwD K (upd H11 R (.lst (ds.map (fun p => V.ref p.1) ++ [.ref t]))) p.1 p.2 := fun p hp => by
          rcases List.mem_append.mp hp with hp | hp
          · exact (st11.ds p hp).monoN n12
          · rw [List.mem_singleton.mp hp]
            exact g11.monoN n12
        generalize upd H11 R (.lst (ds.map (fun p => V.ref p.1) ++ [.ref t])) = H12 at x12 b12 i12 r12 w12 ⊢
        refine ⟨_, rfl, _, rfl, I, _, rfl, .inl ⟨SqL.of i12, fun ti hti => ?_⟩⟩
        have s13 : Same H12 (upd H12 ti (.tup (((List.range a.many).map g).map .str))) := Same.new hti
        have g13 : SqT K (upd H12 ti (.tup (((List.range a.many).map g).map .str))) ti (((List.range a.many).map g).map .str) := SqT.of upd_same
        generalize upd H12 ti (.tup (((List.range a.many).map g).map .str)) = H13 at s13 g13 ⊢
        refine ⟨_, rfl, sz (n := 1) (by decide), fun to hto => ?_⟩
        have s14 : Same H13 (upd H13 to (.tup [.str (g 3)])) := Same.new hto
        have g14 : SqT K (upd H13 to (.tup [.str (g 3)])) to [.str (g 3)] := SqT.of upd_same
        generalize upd H13 to (.tup [.str (g 3)]) = H14 at s14 g14 ⊢
        refine ⟨_, rfl, R, _, rfl, .inl ⟨SqL.of (s14 _ _ (s13 _ _ r12)), fun tr htr => ?_⟩⟩
        have s15 : Same H14 (upd H14 tr (.tup ((ds ++ [(t, Rw.pln (g 3) (sumT (g 2) (a.rl.map g)))]).map fun p => V.ref p.1))) := Same.new htr
        have g15 : SqT K (upd H14 tr (.tup ((ds ++ [(t, Rw.pln (g 3) (sumT (g 2) (a.rl.map g)))]).map fun p => V.ref p.1))) tr ((ds ++ [(t, Rw.pln (g 3) (sumT (g 2) (a.rl.map g)))]).map fun p => V.ref p.1) := SqT.of upd_same
        generalize upd H14 tr (.tup ((ds ++ [(t, Rw.pln (g 3) (sumT (g 2) (a.rl.map g)))]).map fun p => V.ref p.1)) = H15 at s15 g15 ⊢
        refine ⟨sz (n := 4) (by decide), fun e he => ?_⟩
        have s16 : Same H15 (upd H15 e (.tup [.str x, .ref ti, .ref to, .ref tr])) := Same.new he
        have g16 : SqT K (upd H15 e (.tup [.str x, .ref ti, .ref to, .ref tr])) e [.str x, .ref ti, .ref to, .ref tr] := SqT.of upd_same
        generalize upd H15 e (.tup [.str x, .ref ti, .ref to, .ref tr]) = H16 at s16 g16 ⊢
        refine ⟨_, rfl, _, rfl, _, rfl, sz (n := 4) (by decide), fun r hr => ?_⟩
        have s17 := Same.new (o := .tup [.ref e, .int (lnC a ao), .int (lnE a ao), .bl (lnS a ao)]) hr
        have s1216 := s13.trans (s14.trans (s15.trans s16))
        refine k r e _ a g (SameX.trans x12 (Same.x (s1216.trans s17))) ((b12.same s1216).same s17) G hln ha (SqT.of upd_same) (NdD.mono s17 ⟨ti, to, tr, ds ++ [(t, .pln (g 3) (sumT (g 2) (a.rl.map g)))], ?_, ?_, ?_, ?_, ?_, fun p hp => (w12 p hp).mono s1216⟩)
        · rw [show (a.nd g).name = x from ha]
          exact g16
        · exact Same.sqt (s14.trans (s15.trans s16)) g13
        · exact Same.sqt (s15.trans s16) g14
        · exact Same.sqt s16 g15
        · rw [List.map_append, st.e]
          rfl
end
end K99
/-! KS -/
namespace K99
open PySem PySem.Spec PyProof.Rows L2
/-! ### xs[::k], k one or minus one -/
def tStepL (K : PySem.W.Frag) (te ts : TE) : TE := fun σ H Q => te σ H fun x H1 => ∃ a, x = .ref a ∧ ts σ H1 fun y H2 => ∃ (f : Bool) (xs : List V), y = .int (if f = true then -1 else 1) ∧ SqL K H2 a xs ∧ ∀ p, H2 p = none → Q (.ref p) (upd H2 p (.lst (if f = true then xs.reverse else xs)))
theorem pick_one (items : Array Value) : slicePick items none none (some 1) = items := by
  show slicePick items none none none = items
  rw [PySem.W.kms_pick_eq]
  unfold PySem.W.kms_pick PySem.W.kms_lo PySem.W.kms_hi
  simp only [List.drop_zero, Nat.sub_zero, List.take_length, Array.toArray_toList]
theorem pe_stepL {X : Cx} {e est : Expr} {te ts : TE} {p3 pos : Pos} (he : PE X e te) (hs : PE X est ts) : PE X (.Subscript e (.Slice none none (some est) p3) pos) (tStepL X.K te ts) := by
  refine ⟨fun pins s σ H Q I h => ?_⟩
  refine Subscript_ (thn (he.run pins s σ H _ I h) fun v s1 ⟨x, H1, I1, r1, q1⟩ => ?_)
  obtain ⟨a, ex, q⟩ := q1
  subst ex
  cases r1
  have hst : PO X (some est) (tPart (rE X est)) := po_some pE
  refine wpAny_Slice (thn (po_none.run pins s1 σ H1 (fun o H2 => o = none ∧ H2 = H1) I1 ⟨rfl, rfl⟩) fun vl s2 ⟨l, H2, I2, pl, el, e2⟩ => ?_)
  subst el e2
  refine thn (po_none.run pins s2 σ H2 (fun o H3 => o = none ∧ H3 = H2) I2 ⟨rfl, rfl⟩) fun vu s3 ⟨u, H3, I3, pu, eu, e3⟩ => ?_
  subst eu e3
  refine thn (hst.run pins s3 σ H3 (fun o H4 => ∃ (f : Bool) (xs : List V), o = some (if f = true then -1 else 1) ∧ SqL X.K H4 a xs ∧ ∀ p, H4 p = none → Q (.ref p) (upd H4 p (.lst (if f = true then xs.reverse else xs)))) I3 ?_) fun vs s4 ⟨o, H4, I4, ps, eo⟩ => ?_
  · refine rE.mono (rE.go hs q) fun y H4 ⟨f, xs, ey, hx, q⟩ => ?_
    exact ⟨_, ey, f, xs, rfl, hx, q⟩
  obtain ⟨f, xs, eo, hx, q⟩ := eo
  subst eo
  have I5 : Inv X pins σ H4 { s4 with heap := s4.heap.push { cls := .type "slice", data := .fields #[vl, vu, vs] } } := I4.kept (t' := s4.toks) fun b ob q => Heap.get?_push_of_some _ q
  obtain ⟨its, r, ht, hz⟩ := I5.list hx
  have hlen := r.length
  show wpAny (model X.prog X.w) X.A (subscriptTail e (.Slice none none (some est) p3) (.ref a) (.ref s4.heap.objs.size)) (EP X pins σ Q) X.xe { s4 with heap := s4.heap.push { cls := .type "slice", data := .fields #[vl, vu, vs] } }
  refine tail_any (ops := [.ref a, .ref s4.heap.objs.size]) ht.isList.typeIs (PySem.slot_list_getitem.lookup) ?_ (by with_unfolding_all rfl)
  refine wpAny_getItem_list_slice ht.isList (Heap.IsSliceOf.new _ vl vu vs) pl pu ps (by cases f <;> decide) ?_ (by rw [List.size_toArray]; omega)
  cases f with
  | true =>
    rw [if_pos rfl, PySem.W.krv_pick]
    refine ⟨.ref _, _, I5.laid (t' := s4.toks) (o := .lst xs.reverse) (fun b ob q => Heap.get?_push_of_some _ q) (Nat.le_refl _) ?_, rfl, q _ (I5.hok.fresh (Nat.le_refl _))⟩
    exact ⟨by rw [List.length_reverse]; exact hz, _, 0, r.reverse, Heap.get?_push_size _ rfl⟩
  | false =>
    rw [if_neg (by decide), pick_one]
    refine ⟨.ref _, _, I5.laid (t' := s4.toks) (o := .lst xs) (fun b ob q => Heap.get?_push_of_some _ q) (Nat.le_refl _) ?_, rfl, q _ (I5.hok.fresh (Nat.le_refl _))⟩
    exact ⟨hz, _, 0, r, Heap.get?_push_size _ rfl⟩
end K99
/-! K51 -/
namespace K99
open PySem PySem.Spec PyProof.Rows L2
/-! ### what a node's tuple reads as -/
section
variable {K : PySem.W.Frag} {H : Hp}
theorem rw_dpd {a : Addr} {r : Rw} (h : RwD K H a r) (ok : r.oks) : ∃ d, Dp K H (.ref a) d ∧ d.canLay0 = true ∧ d.depth ≤ 10 := by
  have hx := ok.tell.sok
  cases r with
  | bef x v b =>
    have hb := (ok.ment b (List.mem_cons_self ..)).sok
    have hx : x.cps.all (· < 0x110000) = true := hx
    refine ⟨_, .tup h (.cons (.str _) (.cons (.str _) (.cons (.int _) (.cons (.str _) .nil)))), ?_, ?_⟩
    · simp only [PyData.canLay0, PyData.canLayAll0, PyData.strOk, hx, hb, Bool.and_true]
      decide +kernel
    · simp only [PyData.depth, PyData.depthAll]
      decide
  | call x c b k =>
    obtain ⟨o, g, h1, h2, h3⟩ := h
    have hx : x.cps.all (· < 0x110000) = true := hx
    have hc := nm_sok ok.more.1
    have hb := reps_can (xs := List.replicate k b) fun z hz => by
      rw [List.eq_of_mem_replicate hz]
      exact ok.ment b (List.mem_cons_self ..)
    refine ⟨_, .tup h1 (.cons (.str _) (.cons (.tup h2 (.cons (.str _) .nil)) (.cons (.str _) (.cons (.tup h3 (rep_dp _)) .nil)))), ?_, ?_⟩
    · simp only [PyData.canLay0, PyData.canLayAll0, PyData.strOk, hx, hb, hc, Bool.and_true]
      decide +kernel
    · simp only [PyData.depth, PyData.depthAll, reps_dep]
      decide
  | pln x t =>
    obtain ⟨d, h1, h2⟩ := h
    have hx : x.cps.all (· < 0x110000) = true := hx
    have ht := Tm.dat_can ok.ment
    have hd := t.dat_dep
    have h5 : t.dep ≤ 5 := ok.more
    refine ⟨_, .tup h1 (.cons (.str _) (.cons (.str _) (.cons (Tm.dp h2) .nil))), ?_, ?_⟩
    · simp only [PyData.canLay0, PyData.canLayAll0, PyData.strOk, hx, ht, Bool.and_true]
      decide +kernel
    · simp only [PyData.depth, PyData.depthAll]
      omega
theorem all_dpd {α : Type} {f : α → V} {n : Nat} : ∀ {as : List α}, (∀ a, a ∈ as → ∃ d, Dp K H (f a) d ∧ d.canLay0 = true ∧ d.depth ≤ n) → ∃ ds, DpAll K H (as.map f) ds ∧ PyData.canLayAll0 ds = true ∧ PyData.depthAll ds ≤ n ∧ ds.length = as.length
  | [], _ => ⟨[], .nil, rfl, Nat.zero_le _, rfl⟩
  | a :: r, h => by
    obtain ⟨d, h1, h2, h3⟩ := h a (List.mem_cons_self ..)
    obtain ⟨ds, g1, g2, g3, g4⟩ := all_dpd (as := r) fun x hx => h x (List.mem_cons_of_mem _ hx)
    refine ⟨d :: ds, .cons h1 g1, ?_, ?_, by rw [List.length_cons, List.length_cons, g4]⟩
    · simp only [PyData.canLayAll0, h2, g2, Bool.and_self]
    · simp only [PyData.depthAll]
      omega
theorem nd_dpd {a : Addr} {n : ND} (h : NdD K H a n) (ok : n.oks) : ∃ d, Dp K H (.ref a) d ∧ d.canLay0 = true ∧ d.depth ≤ 12 := by
  obtain ⟨i, o, r, ds, h1, h2, h3, h4, h5, h6⟩ := h
  obtain ⟨es, g1, g2, g3, g4⟩ := all_dpd (K := K) (H := H) (as := ds) (f := fun p : PR => V.ref p.1) (n := 10) fun p hp => rw_dpd (h6 p hp) (ok.rws p.2 (by rw [← h5]; exact List.mem_map_of_mem hp))
  have hn := nm_sok ok.nm
  have ho := ok.outP.sok
  have hi := reps_can (xs := n.ins) ok.insP
  refine ⟨_, .tup h1 (.cons (.str _) (.cons (.tup h2 (rep_dp _)) (.cons (.tup h3 (.cons (.str _) .nil)) (.cons (.tup h4 g1) .nil)))), ?_, ?_⟩
  · simp only [PyData.canLay0, PyData.canLayAll0, PyData.strOk, hn, ho, hi, g2, Bool.and_true]
  · simp only [PyData.depth, PyData.depthAll, reps_dep]
    omega
end
/-! ### the law's chain -/
structure Lk where
  a : Nv
  g : Nat → Str
  c : Int
  e : Int
  s : Bool
def Lk.nd (k : Lk) : ND := k.a.nd k.g
def Lk.sh (k : Lk) : Sh := k.a.sh k.g
def pvOf (ks : List Lk) : Nat → Ah
  | 0 => none
  | j + 1 => (ks[j]?).map fun k => (k.nd, k.c, k.e, k.s)
structure LkP (k : Lk) (ao : Ah) : Prop where
  gd : Gd k.g
  ok : LnOk k.a ao
  c : k.c = lnC k.a ao
  e : k.e = lnE k.a ao
  s : k.s = lnS k.a ao
def LkOk (ks : List Lk) : Prop := ∀ j k, ks[j]? = some k → LkP k (pvOf ks j)
theorem pvOf_app {ks : List Lk} {k : Lk} : ∀ {j : Nat}, j ≤ ks.length → pvOf (ks ++ [k]) j = pvOf ks j
  | 0, _ => rfl
  | j + 1, h => by
    show ((ks ++ [k])[j]?).map _ = (ks[j]?).map _
    rw [List.getElem?_append_left (by omega)]
theorem LkOk.snoc {ks : List Lk} {k : Lk} (h : LkOk ks) (p : LkP k (pvOf ks ks.length)) : LkOk (ks ++ [k]) := fun j x hx => by
  rcases Nat.lt_trichotomy j ks.length with hj | hj | hj
  · rw [List.getElem?_append_left hj] at hx
    rw [pvOf_app (by omega)]
    exact h j x hx
  · subst hj
    rw [List.getElem?_append_right (Nat.le_refl _), Nat.sub_self] at hx
    obtain rfl : k = x := Option.some.inj hx
    rw [pvOf_app (Nat.le_refl _)]
    exact p
  · rw [List.getElem?_eq_none (by rw [List.length_append, List.length_singleton]; omega)] at hx
    cases hx
theorem LkOk.nil : LkOk [] := fun j k h => by cases h
theorem LkP.nv {k : Lk} {ao : Ah} (p : LkP k ao) : k.a.ok := p.ok.ok
theorem LkP.oks {k : Lk} {ao : Ah} (p : LkP k ao) : k.nd.oks := Nv.nd_oks p.nv p.gd
/-- the calls of a node -/
theorem Nv.calls_map (a : Nv) (g : Nat → Str) : (a.nd g).calls = (List.range a.calls).map fun i => (g (5 + i), a.c) := by
  unfold ND.calls Nv.nd
  rw [List.filterMap_cons_none rfl, List.filterMap_append, List.filterMap_map]
  have h1 : List.filterMap callOf [Rw.pln (g 3) (sumT (g 2) (a.rl.map g))] = [] := rfl
  rw [h1, List.append_nil]
  induction List.range a.calls with
  | nil => rfl
  | cons x r ih =>
    exact congrArg ((g (5 + x), a.c) :: ·) ih
theorem Nv.calls_len (a : Nv) (g : Nat → Str) : (a.nd g).calls.length = a.calls := by rw [Nv.calls_map, List.length_map, List.length_range]
theorem Nv.ins_len (a : Nv) (g : Nat → Str) : (a.nd g).ins.length = a.many := by
  show ((List.range a.many).map g).length = _
  rw [List.length_map, List.length_range]
theorem Nv.names_len (a : Nv) (g : Nat → Str) : (a.nd g).names.length = a.many + 2 + a.calls := by
  rw [Nv.names, List.length_map]
  unfold Nv.idx
  rw [List.length_append, List.length_range, List.length_cons, List.length_append, List.length_map, List.length_range, List.length_singleton]
  omega
theorem Nv.befs_one (a : Nv) (g : Nat → Str) : (a.nd g).befs = 1 := by
  unfold ND.befs Nv.nd
  rw [List.filter_cons_of_pos rfl, List.filter_append, List.length_cons, List.length_append]
  have h1 : List.filter isBef ((List.range a.calls).map fun i => Rw.call (g (5 + i)) a.c (g 0) a.k) = [] := List.filter_eq_nil_iff.mpr fun x hx => by
    obtain ⟨i, _, rfl⟩ := List.mem_map.mp hx
    exact Bool.false_ne_true
  rw [h1]
  rfl
theorem Nv.call_in {a : Nv} {g : Nat → Str} {x c b : Str} {k : Nat} (h : Rw.call x c b k ∈ (a.nd g).rows) : c = a.c ∧ k = a.k ∧ a.calls ≠ 0 := by
  rcases List.mem_cons.mp h with h | h
  · cases h
  · rcases List.mem_append.mp h with h | h
    · obtain ⟨i, hi, e⟩ := List.mem_map.mp h
      have := List.mem_range.mp hi
      injection e with e1 e2 e3 e4
      exact ⟨e2.symm, e4.symm, by omega⟩
    · cases List.mem_singleton.mp h
def ndsOf (ks : List Lk) : List ND := ks.map Lk.nd
def shsOf (ks : List Lk) : List Sh := ks.map Lk.sh
section
variable {ks : List Lk}
theorem nds_at {j : Nat} {n : ND} (h : (ndsOf ks)[j]? = some n) : ∃ k, ks[j]? = some k ∧ n = k.nd := by
  unfold ndsOf at h
  rw [List.getElem?_map] at h
  cases e : ks[j]? with
  | none =>
    rw [e] at h
    cases h
  | some k =>
    rw [e] at h
    exact ⟨k, rfl, (Option.some.inj h).symm⟩
theorem nd_at {j : Nat} {k : Lk} (h : ks[j]? = some k) : (ndsOf ks)[j]? = some k.nd := by
  unfold ndsOf
  rw [List.getElem?_map, h]
  rfl
theorem shAt_at {j : Nat} {k : Lk} (h : ks[j]? = some k) : shAt (shsOf ks) j = k.sh := by
  unfold shAt shsOf
  rw [List.getElem?_map, h]
  rfl
theorem LkOk.shs (h : LkOk ks) : Shs (ndsOf ks) (shsOf ks) := fun j n hn => by
  obtain ⟨k, hk, rfl⟩ := nds_at hn
  rw [shAt_at hk]
  exact Nv.sh_ok (h j k hk).nv k.g
theorem prev_at {j : Nat} {k : Lk} (hk : ks[j + 1]? = some k) : ∃ m, ks[j]? = some m := by
  have := (List.getElem?_eq_some_iff.mp hk).1
  exact ⟨ks[j], List.getElem?_eq_getElem (by omega)⟩
theorem pv_at {j : Nat} {m : Lk} (hm : ks[j]? = some m) : pvOf ks (j + 1) = some (m.nd, m.c, m.e, m.s) := by
  show (ks[j]?).map _ = _
  rw [hm]
  rfl
theorem LkOk.ch (h : LkOk ks) (hl : ks.length ≤ 8) (hn : (ks.map fun k => k.a.name).Nodup) : Ch (ndsOf ks) := by
  have mem : ∀ n, n ∈ ndsOf ks → ∃ (j : Nat) (k : Lk), ks[j]? = some k ∧ n = k.nd := fun n hn => by
    obtain ⟨k, hk, rfl⟩ := List.mem_map.mp hn
    obtain ⟨j, hj⟩ := List.getElem?_of_mem hk
    exact ⟨j, k, hj, rfl⟩
  refine ⟨?_, ?_, fun n hn => ?_, fun n hn x hx => ?_, fun i n hn x c b k hc => ?_, fun j n hn => ?_, fun n hn => ?_⟩
  · unfold ndsOf
    rw [List.length_map]
    exact hl
  · unfold ndsOf
    rw [List.map_map]
    exact hn
  · obtain ⟨j, k, hk, rfl⟩ := mem n hn
    exact (h j k hk).oks
  · obtain ⟨j, k, hk, rfl⟩ := mem n hn
    exact Nv.nm_names (h j k hk).gd hx
  · obtain ⟨q, hq, rfl⟩ := nds_at hn
    obtain ⟨rfl, rfl, h0⟩ := Nv.call_in hc
    cases i with
    | zero => exact absurd ((h 0 q hq).ok.no rfl).1 h0
    | succ i =>
      obtain ⟨m, hm⟩ := prev_at hq
      obtain ⟨_, e1, e2⟩ := (h _ q hq).ok.yes _ _ _ _ (pv_at hm)
      exact ⟨i, m.nd, rfl, nd_at hm, e1, e2⟩
  · obtain ⟨q, hq, rfl⟩ := nds_at hn
    obtain ⟨m, hm⟩ := prev_at hq
    obtain ⟨e0, _⟩ := (h _ q hq).ok.yes _ _ _ _ (pv_at hm)
    intro e
    have := congrArg List.length e
    rw [show q.nd.calls.length = q.a.calls from Nv.calls_len q.a q.g] at this
    have : q.a.calls = 0 := this
    omega
  · obtain ⟨j, k, hk, rfl⟩ := mem n hn
    rw [show k.nd.calls.length = k.a.calls from Nv.calls_len k.a k.g]
    exact (h j k hk).nv.cl
theorem Nv.in0_t {a : Nv} (h : a.ok) {g : Nat → Str} (G : Gd g) : decide ((a.sh g).in0 ∈ (a.sh g).t.nms) = a.r0 := by
  have e : (a.sh g).t.nms = (2 :: a.rl).map g := sumT_nms _ _
  rw [e]
  cases hr : a.r0 with
  | true =>
    refine decide_eq_true (List.mem_map.mpr ⟨0, List.mem_cons_of_mem _ ?_, rfl⟩)
    unfold Nv.rl
    rw [hr]
    exact List.mem_append_right _ (List.mem_singleton.mpr rfl)
  | false =>
    refine decide_eq_false fun hm => ?_
    obtain ⟨i, hi, e2⟩ := List.mem_map.mp hm
    have hi26 := Nv.idx_lt h (Nv.rl_idx h hi)
    have := G.inj i 0 hi26 (by decide) e2
    subst this
    rcases List.mem_cons.mp hi with hi | hi
    · cases hi
    · rcases Nv.rl_mem h hi with ⟨j, _, e3, _⟩ | ⟨e3, _⟩
      · omega
      · rw [hr] at e3
        cases e3
theorem Nv.any_t {a : Nv} (h : a.ok) {g : Nat → Str} (G : Gd g) : ((a.sh g).xs.any fun x => decide (x ∈ (a.sh g).t.nms)) = a.rx.isSome := by
  have e : (a.sh g).t.nms = (2 :: a.rl).map g := sumT_nms _ _
  rw [e]
  have exs : (a.sh g).xs = (List.range a.calls).map fun i => g (5 + i) := rfl
  rw [exs]
  have hcl := h.cl
  cases hr : a.rx with
  | some j =>
    refine List.any_eq_true.mpr ⟨g (5 + j), List.mem_map.mpr ⟨j, List.mem_range.mpr (h.rx j hr), rfl⟩, decide_eq_true (List.mem_map.mpr ⟨5 + j, List.mem_cons_of_mem _ ?_, rfl⟩)⟩
    unfold Nv.rl
    rw [hr]
    exact List.mem_append_left _ (List.mem_singleton.mpr rfl)
  | none =>
    refine List.any_eq_false.mpr fun x hx hd => ?_
    obtain ⟨i, hi, rfl⟩ := List.mem_map.mp hx
    have hi := List.mem_range.mp hi
    obtain ⟨q, hq, e2⟩ := List.mem_map.mp (of_decide_eq_true hd)
    have := G.inj q (5 + i) (Nv.idx_lt h (Nv.rl_idx h hq)) (by omega) e2
    subst this
    rcases List.mem_cons.mp hq with hq | hq
    · omega
    · rcases Nv.rl_mem h hq with ⟨j, e3, _, _⟩ | ⟨_, e3⟩
      · rw [hr] at e3
        cases e3
      · omega
theorem LkOk.law (h : LkOk ks) : ∀ {j : Nat} {k : Lk}, ks[j]? = some k → k.c = cnt (ndsOf ks) j ∧ k.e = cel (ndsOf ks) j ∧ k.s = stAt (shsOf ks) j
  | 0, k, hk => by
    have p := h 0 k hk
    obtain ⟨e0, e1⟩ := p.ok.no rfl
    have en : ndAt (ndsOf ks) 0 = k.nd := ndAt_some (nd_at hk)
    refine ⟨?_, ?_, ?_⟩
    · rw [p.c]
      show _ = ((ndAt (ndsOf ks) 0).names.length : Int)
      rw [en, show k.nd.names.length = _ from Nv.names_len k.a k.g, e0]
      show ((k.a.many : Int) + 2 + (k.a.calls : Int) * _) = _
      rw [e0, Int.natCast_zero, Int.zero_mul]
      omega
    · rw [p.e]
      show _ = ((ndAt (ndsOf ks) 0).befs : Int)
      rw [en, show k.nd.befs = _ from Nv.befs_one k.a k.g]
      show 1 + (k.a.calls : Int) * _ = _
      rw [e0, Int.natCast_zero, Int.zero_mul]
      rfl
    · rw [p.s]
      show _ = decide ((shAt (shsOf ks) 0).in0 ∈ (shAt (shsOf ks) 0).t.nms)
      rw [shAt_at hk, show decide (k.sh.in0 ∈ k.sh.t.nms) = _ from Nv.in0_t p.nv p.gd]
      show (k.a.r0 || (k.a.rx.isSome && _)) = _
      rw [e1]
      simp
  | j + 1, k, hk => by
    have p := h (j + 1) k hk
    obtain ⟨m, hm⟩ := prev_at hk
    obtain ⟨ic, ie, is⟩ := LkOk.law h hm
    obtain ⟨_, e1, e2⟩ := p.ok.yes _ _ _ _ (pv_at hm)
    have en : ndAt (ndsOf ks) (j + 1) = k.nd := ndAt_some (nd_at hk)
    have em : ndAt (ndsOf ks) j = m.nd := ndAt_some (nd_at hm)
    refine ⟨?_, ?_, ?_⟩
    · rw [p.c, pv_at hm]
      show (k.a.many : Int) + 2 + (k.a.calls : Int) * (m.c - (k.a.k : Int)) = ((ndAt (ndsOf ks) (j + 1)).names.length : Int) + ((ndAt (ndsOf ks) (j + 1)).calls.length : Int) * (cnt (ndsOf ks) j - (ndAt (ndsOf ks) j).ins.length - 1)
      rw [en, em, show k.nd.names.length = _ from Nv.names_len k.a k.g, show k.nd.calls.length = _ from Nv.calls_len k.a k.g, ← ic, ← e2, Int.mul_sub, Int.mul_sub, Int.mul_sub, Int.mul_one]
      omega
    · rw [p.e, pv_at hm]
      show 1 + (k.a.calls : Int) * m.e = ((ndAt (ndsOf ks) (j + 1)).befs : Int) + ((ndAt (ndsOf ks) (j + 1)).calls.length : Int) * cel (ndsOf ks) j
      rw [en, show k.nd.befs = _ from Nv.befs_one k.a k.g, show k.nd.calls.length = _ from Nv.calls_len k.a k.g, ← ie]
      rfl
    · rw [p.s, pv_at hm]
      show (k.a.r0 || (k.a.rx.isSome && m.s)) = (decide ((shAt (shsOf ks) (j + 1)).in0 ∈ (shAt (shsOf ks) (j + 1)).t.nms) || (((shAt (shsOf ks) (j + 1)).xs.any fun x => decide (x ∈ (shAt (shsOf ks) (j + 1)).t.nms)) && stAt (shsOf ks) j))
      rw [shAt_at hk, show decide (k.sh.in0 ∈ k.sh.t.nms) = _ from Nv.in0_t p.nv p.gd, show (k.sh.xs.any fun x => decide (x ∈ k.sh.t.nms)) = _ from Nv.any_t p.nv p.gd, ← is]
end
end K99
/-! K52 -/
namespace K99
open PySem PySem.Spec PyProof.Rows L2
abbrev PL := Addr × Addr × Lk
def EnO (K : PySem.W.Frag) (H : Hp) (p : PL) : Prop := SqT K H p.1 [.ref p.2.1, .int p.2.2.c, .int p.2.2.e, .bl p.2.2.s] ∧ NdD K H p.2.1 p.2.2.nd
theorem EnO.monoN {K : PySem.W.Frag} {H H' : Hp} {p : PL} (s : SameN H H') (h : EnO K H p) : EnO K H' p := ⟨SameN.sqt s h.1, h.2.monoN s⟩
theorem plK_len {bs : List Nat} {p f k : Nat} (hp : p ≤ bs.length) : (plK bs p f k).length = bs.length + 1 := by
  rw [TL.len_tl, plK_tl, List.length_append, List.length_take, List.length_cons, List.length_drop]
  omega
theorem en_dp {K : PySem.W.Frag} {H : Hp} {p : PL} (h : EnO K H p) (ok : p.2.2.nd.oks) : ∃ d, Dp K H (.ref p.1) d ∧ d.canLay0 = true ∧ d.depth ≤ 13 := by
  obtain ⟨d, h1, h2, h3⟩ := nd_dpd h.2 ok
  refine ⟨_, .tup h.1 (.cons h1 (.cons (.int _) (.cons (.int _) (.cons (.bl _) .nil)))), ?_, ?_⟩
  · simp only [PyData.canLay0, PyData.canLayAll0, h2, Bool.and_true]
  · simp only [PyData.depth, PyData.depthAll]
    omega
theorem at_neg {α : Type} (xs : List α) (v : α) : atI (xs ++ [v]) (-1) = some v := by
  unfold atI ixN
  rw [if_neg (by decide), List.length_append, List.length_singleton, if_pos (by omega)]
  show (xs ++ [v])[_]? = some v
  rw [show (((-1 : Int) + ((xs.length + 1 : Nat) : Int)).toNat) = xs.length by omega, List.getElem?_append_right (Nat.le_refl _), Nat.sub_self]
  rfl
structure LcOk (ps : List PL) (N : Nat) : Prop where
  ok : LkOk (ps.map (·.2.2))
  nd : (ps.map fun p => p.2.2.a.name).Nodup
  le : ps.length ≤ 8
  ne : ps ≠ []
  ln : ∀ p, p ∈ ps → p.2.2.a.name.length = N
  n7 : N ≤ 7
section
variable {P : Program} {w : World} {K : PySem.W.Frag} {mg : Str → Option Value} {base : Heap}
def spLChain (K : PySem.W.Frag) : Sp := fun vs H Q _ => ∃ (b : Addr), vs = [.ref b] ∧ Box H b ∧ ∀ (l : Addr) (ps : List PL) (N : Nat) H', SameX b H H' → H' l = some (.lst (ps.map fun p => .ref p.1)) → (∀ p, p ∈ ps → EnO K H' p) → LcOk ps N → Q (.ref l) H'
theorem ok__law_chain (T : Txt K mg) : FnOk P w K mg base CX0 9 (f__law_chain K) (fdAt K (f__law_chain K)) P__law_chain (spLChain K) := by
  refine FunD.ok T.F__law_chain sc__law_chain (fun vs H Q E h => ?_) (fun cdv A outer s H vs Q E hr h => ?_)
  · obtain ⟨b, rfl, _⟩ := h
    rfl
  · obtain ⟨b, rfl, hb, k⟩ := h
    refine ⟨_, PSs.nox (pss_cons (ps_set (i := 1) sc__law_chain.nd rfl (by first | exact Or.inl rfl | exact Or.inr rfl) (pe_lst pa_nil)) (pss_cons (ps_for PassesOwn.never rfl (pi_list (pe_call (ok__law_pool T) (hr.mono (by first | decide | omega)) (by rfl) T.g__law_pool T.F__law_pool.kp T.b__law_pool .nil pass0 (pa_cons (pv 0) (pa_cons (pe_op op_add pe_int (pe_call (ok__law_take T) (hr.mono (by first | decide | omega)) (by rfl) T.g__law_take T.F__law_take.kp T.b__law_take .nil pass0 (pa_cons (pv 0) (pa_cons pe_int pa_nil)))) pa_nil)))) (pg_name (i := 2) sc__law_chain.nd rfl (by first | exact Or.inl rfl | exact Or.inr rfl)) (pss_one (ps_expr (pe_bm PySem.F.plainAttrs_list PySem.F.slot_list_append PySem.F.type_list_append mt_append (pv 1) (pa_cons (pe_call (ok__law_node T) (hr.mono (by first | decide | omega)) (by rfl) T.g__law_node T.F__law_node.kp T.b__law_node .nil pass0 (pa_cons (pv 0) (pa_cons (pv 2) (pa_cons (pe_ifExp (pt_cmpR (op_neD hr.units) (pv 1) (pe_lst pa_nil) (by rfl)) (pe_ix ix_list (pv 1) (pe_un un_neg pe_int) (fun _ _ => rfl)) pe_non) pa_nil)))) pa_nil))))) (pss_one (ps_ret (pv 1))))), ?_⟩
    rw [show L2.start N__law_chain [V.ref b] = [some (.ref b), none, none] from rfl]
    refine ⟨Nat.zero_le _, fun F hF => ?_⟩
    have s1 : Same H (upd H F (.lst [])) := Same.new hF
    have g1 : upd H F (.lst []) F = some (.lst []) := upd_same
    have hb1 := hb.same s1
    have nFb : F ≠ b := hb.ne hF
    generalize upd H F (.lst []) = H1 at s1 g1 hb1 ⊢
    refine ⟨_, rfl, _, rfl, b, 4, rfl, by decide, by decide, hb1, fun mv H2 x2 hb2 m0 m4 => ?_⟩
    obtain ⟨mm, rfl⟩ := Int.eq_ofNat_of_zero_le m0
    have em : (5 : Int) + (mm : Int) = ((5 + mm : Nat) : Int) := by omega
    refine ⟨_, _, rfl, rfl, b, 5 + mm, (by show [V.ref b, V.int (5 + (mm : Int))] = _; rw [em]), by omega, hb2, fun l bs p f H3 x3 hb3 nl B hp hl => ?_⟩
    have x13 := SameX.trans x2 x3
    have g3 := x13 _ _ nFb g1
    have nFl : F ≠ l := fun e => by
      subst e
      rw [x2 _ _ nFb g1] at nl
      cases nl
    have nlb : l ≠ b := hb2.ne nl
    refine ⟨l, rfl, ⟨_, SqL.of hl⟩, ?_⟩
    refine for_map (wm_list ((List.range (5 + mm)).map (plK bs p f)) V.str) (fun pre σ H' => ∃ (ps : List PL) (y : Option V), SameX b H H' ∧ Box H' b ∧ H' l = some (.lst (((List.range (5 + mm)).map (plK bs p f)).map .str)) ∧ H' F = some (.lst (ps.map fun p => .ref p.1)) ∧ (∀ p, p ∈ ps → EnO K H' p) ∧ LkOk (ps.map (·.2.2)) ∧ ps.map (fun p => p.2.2.a.name) = pre ∧ σ = [some (.ref b), some (.ref F), y])
      ⟨[], none, SameX.trans (Same.x s1) x13, hb3, hl, g3, (fun p hp => by cases hp), LkOk.nil, rfl, rfl⟩ (fun pre σ H' q => ?_) (fun pre x post σ H' e q => ?_) (fun σ H' q => ?_)
    · obtain ⟨ps, y, _, _, q3, _⟩ := q
      exact SqL.of q3
    · obtain ⟨ps, y, q1, q2, q3, q4, q5, q6, q7, rfl⟩ := q
      have hx : x ∈ (List.range (5 + mm)).map (plK bs p f) := by
        rw [e]
        simp
      have hxN := (pool_all B hp hx).1
      have hpl : pre.length ≤ 8 := by
        have := congrArg List.length e
        simp at this
        omega
      have hps : ps.length = pre.length := by
        rw [← q7, List.length_map]
      have hoks : ∀ p, p ∈ ps → p.2.2.nd.oks := fun p hp => by
        obtain ⟨j, hj⟩ := List.getElem?_of_mem (List.mem_map_of_mem (f := fun p : PL => p.2.2) hp)
        exact (q6 j _ hj).oks
      refine ⟨_, rfl, .inl ⟨rfl, _, SqL.of q4⟩, _, rfl, _, rfl, _, rfl, Nat.zero_le _, fun L hL => ?_⟩
      have s2 : Same H' (upd H' L (.lst [])) := Same.new hL
      have g2 : upd H' L (.lst []) L = some (.lst []) := upd_same
      generalize upd H' L (.lst []) = H5 at s2 g2 ⊢
      obtain ⟨es, d1, d2, d3, d4⟩ := all_dpd (K := K) (H := H5) (as := ps) (f := fun p : PL => V.ref p.1) (n := 13) fun p hp => en_dp ((q5 p hp).monoN (Same.n s2)) (hoks p hp)
      refine ⟨.list es, .list [], .lst (SqL.of (s2 _ _ q4)) d1, .lst (SqL.of g2) .nil, ?_, rfl, !ps.isEmpty, ?_, ?_⟩
      · show ((PyData.list es).canLay0 && decide ((PyData.list es).depth ≤ 64)) = true
        simp only [PyData.canLay0, PyData.depth, d2, Bool.true_and]
        exact decide_eq_true (by omega)
      · show V.bl (!PyData.eqv (.list es) (.list [])) = _
        cases ps with
        | nil =>
          obtain rfl : es = [] := List.eq_nil_of_length_eq_zero d4
          rfl
        | cons p r =>
          cases es with
          | nil => cases d4
          | cons _ _ => rfl
      have hb5 := q2.same s2
      by_cases c : ps = []
      case' pos =>
        rw [c]
        refine iteF ?_
        refine ⟨b, x, _, pvOf (ps.map (·.2.2)) ps.length, rfl, hb5, hxN, by rw [c]; rfl, ?_⟩
      case' neg =>
        obtain ⟨ps', pl, e0⟩ : ∃ ps' pl, ps = ps' ++ [pl] := ⟨ps.dropLast, ps.getLast c, (List.dropLast_concat_getLast c).symm⟩
        have e1 : (!ps.isEmpty) = true := by
          rw [e0]
          simp
        rw [e1]
        have hat : atI (ps.map fun p : PL => V.ref p.1) (-1) = some (.ref pl.1) := by
          rw [e0, List.map_append]
          exact at_neg _ _
        have hpl : pl ∈ ps := by
          rw [e0]
          simp
        have hpv : pvOf (ps.map (·.2.2)) ps.length = some (pl.2.2.nd, pl.2.2.c, pl.2.2.e, pl.2.2.s) := by
          have e2 : ps.length = ps'.length + 1 := by
            rw [e0]
            simp
          rw [e2]
          refine pv_at ?_
          rw [List.getElem?_map, e0, List.getElem?_append_right (Nat.le_refl _), Nat.sub_self]
          rfl
        refine iteT ?_
        refine ⟨_, rfl, _, rfl, F, _, -1, .ref pl.1, rfl, rfl, SqL.of (s2 _ _ q4), hat, ?_⟩
        have pok : pl.2.2.a.ok := by
          obtain ⟨j, hj⟩ := List.getElem?_of_mem (List.mem_map_of_mem (f := fun p : PL => p.2.2) hpl)
          exact (q6 j _ hj).nv
        refine ⟨b, x, _, pvOf (ps.map (·.2.2)) ps.length, rfl, hb5, hxN, ?_, ?_⟩
        · rw [hpv]
          have en := (q5 pl hpl).monoN (Same.n s2)
          exact ⟨pl.1, pl.2.1, rfl, en.1, en.2, by rw [show pl.2.2.nd.ins.length = _ from Nv.ins_len pl.2.2.a pl.2.2.g]; exact pok.m1, by rw [show pl.2.2.nd.ins.length = _ from Nv.ins_len pl.2.2.a pl.2.2.g]; exact pok.m2, pok.nm⟩
      all_goals
        intro r d H6 a g x6 hb6 G hln hnm hsq hnd
        have g6 := x6 _ _ nFb (s2 _ _ q4)
        have hbx5 := hb5
        obtain ⟨u1, u2, u3, hbx⟩ := hbx5
        have n56 : SameN H5 H6 := SameX.nL x6 hbx
        refine ⟨F, _, _, rfl, rfl, g6, by rw [List.length_map]; exact szl (by omega), ?_⟩
        have n67 : SameN H6 (upd H6 F (.lst ((ps.map fun p : PL => V.ref p.1) ++ [.ref r]))) := SameN.lst g6
        refine ⟨ps ++ [(r, d, ⟨a, g, lnC a (pvOf (ps.map (·.2.2)) ps.length), lnE a (pvOf (ps.map (·.2.2)) ps.length), lnS a (pvOf (ps.map (·.2.2)) ps.length)⟩)], _, SameX.mut (SameX.trans (SameX.trans q1 (Same.x s2)) x6) hF, hb6.keep nFb, ?_, ?_, fun p hp => ?_, ?_, ?_, rfl⟩
        · rw [upd_ne nFl.symm]
          exact x6 _ _ nlb (s2 _ _ q3)
        · rw [upd_same, List.map_append]
          rfl
        · rcases List.mem_append.mp hp with hp | hp
          · exact (q5 p hp).monoN (SameN.trans (SameN.trans (Same.n s2) n56) n67)
          · rw [List.mem_singleton.mp hp]
            exact EnO.monoN n67 ⟨hsq, hnd⟩
        · rw [List.map_append]
          refine LkOk.snoc q6 ?_
          rw [List.length_map]
          exact ⟨G, hln, rfl, rfl, rfl⟩
        · rw [List.map_append, q7]
          show pre ++ [a.name] = _
          rw [hnm]
    · obtain ⟨ps, y, q1, q2, q3, q4, q5, q6, q7, rfl⟩ := q
      refine ⟨_, rfl, k F ps (bs.length + 1) H' q1 q4 q5 ⟨q6, ?_, ?_, ?_, fun pp hpp => ?_, ?_⟩⟩
      · rw [q7]
        exact pool_nd (by omega)
      · have := congrArg List.length q7
        simp at this
        omega
      · intro e
        have := congrArg List.length q7
        rw [e] at this
        simp at this
        omega
      · have hm : pp.2.2.a.name ∈ (List.range (5 + mm)).map (plK bs p f) := by
          rw [← q7]
          exact List.mem_map_of_mem (f := fun p : PL => p.2.2.a.name) hpp
        obtain ⟨i, _, e⟩ := List.mem_map.mp hm
        rw [← e]
        exact plK_len hp
      · have := (plK_nm B hp (f := f) (k := 0)).2
        rw [plK_len hp] at this
        exact this
end
end K99
/-! K53 -/
namespace K99
open PySem PySem.Spec PyProof.Rows L2
/-! ### the counts have few figures -/
theorem mul_abs {a : Nat} {x : Int} {M : Nat} (h : a ≤ 20) (hx : x.natAbs ≤ M) : ((a : Int) * x).natAbs ≤ 20 * M := by
  rw [Int.natAbs_mul]
  exact Nat.mul_le_mul h hx
theorem cnt_abs {pd : List ND} (c : Ch pd) : ∀ {j : Nat}, j < pd.length → (cnt pd j).natAbs ≤ 4000 * 30 ^ j
  | 0, h => by
    obtain ⟨h1, h2⟩ := ndAt_mem h
    have o := c.oks _ h2
    have hl : (ndAt pd 0).names.length = (ndAt pd 0).ins.length + (ndAt pd 0).rows.length := by
      unfold ND.names ND.tells
      rw [List.length_append, List.length_map]
    have := o.insL
    have := o.rowL
    show (((ndAt pd 0).names.length : Int)).natAbs ≤ 4000 * 1
    omega
  | j + 1, h => by
    obtain ⟨h1, h2⟩ := ndAt_mem h
    have o := c.oks _ h2
    have hl : (ndAt pd (j + 1)).names.length = (ndAt pd (j + 1)).ins.length + (ndAt pd (j + 1)).rows.length := by
      unfold ND.names ND.tells
      rw [List.length_append, List.length_map]
    have b1 := o.insL
    have b2 := o.rowL
    have b3 := (c.oks _ (ndAt_mem (pd := pd) (j := j) (by omega)).2).insL
    have ih := cnt_abs c (j := j) (by omega)
    have b4 := mul_abs (c.cnt _ h2) (x := cnt pd j - (ndAt pd j).ins.length - 1) (M := 4000 * 30 ^ j + 101) (by omega)
    have p := Nat.pow_le_pow_right (n := 30) (by decide) (Nat.zero_le j)
    have e : 30 ^ (j + 1) = 30 * 30 ^ j := by rw [Nat.pow_succ, Nat.mul_comm]
    show (((ndAt pd (j + 1)).names.length : Int) + ((ndAt pd (j + 1)).calls.length : Int) * (cnt pd j - (ndAt pd j).ins.length - 1)).natAbs ≤ _
    generalize ((ndAt pd (j + 1)).calls.length : Int) * (cnt pd j - (ndAt pd j).ins.length - 1) = z at b4 ⊢
    rw [e]
    generalize 30 ^ j = q at ih b4 p ⊢
    omega
theorem cel_abs {pd : List ND} (c : Ch pd) : ∀ {j : Nat}, j < pd.length → (cel pd j).natAbs ≤ 4000 * 30 ^ j
  | 0, h => by
    obtain ⟨h1, h2⟩ := ndAt_mem h
    have o := c.oks _ h2
    have b1 := o.rowL
    have b2 : (ndAt pd 0).befs ≤ (ndAt pd 0).rows.length := List.length_filter_le _ _
    show (((ndAt pd 0).befs : Int)).natAbs ≤ 4000 * 1
    omega
  | j + 1, h => by
    obtain ⟨h1, h2⟩ := ndAt_mem h
    have o := c.oks _ h2
    have b1 := o.rowL
    have b2 : (ndAt pd (j + 1)).befs ≤ (ndAt pd (j + 1)).rows.length := List.length_filter_le _ _
    have ih := cel_abs c (j := j) (by omega)
    have b4 := mul_abs (c.cnt _ h2) ih
    have p := Nat.pow_le_pow_right (n := 30) (by decide) (Nat.zero_le j)
    have e : 30 ^ (j + 1) = 30 * 30 ^ j := by rw [Nat.pow_succ, Nat.mul_comm]
    show (((ndAt pd (j + 1)).befs : Int) + ((ndAt pd (j + 1)).calls.length : Int) * cel pd j).natAbs ≤ _
    generalize ((ndAt pd (j + 1)).calls.length : Int) * cel pd j = z at b4 ⊢
    rw [e]
    generalize 30 ^ j = q at ih b4 p ⊢
    omega
theorem log_few {i : Int} {j : Nat} (hj : j ≤ 7) (h : i.natAbs ≤ 4000 * 30 ^ j) : i.natAbs.log2 < 1920 := by
  have h1 : 30 ^ j ≤ 30 ^ 7 := Nat.pow_le_pow_right (by decide) hj
  have h2 : i.natAbs < 2 ^ 1920 := Nat.lt_of_le_of_lt (Nat.le_trans h (Nat.mul_le_mul_left _ h1)) (by decide +kernel)
  by_cases h0 : i.natAbs = 0
  · rw [h0]
    decide
  · exact (Nat.log2_lt h0).mpr h2
/-! ### a local name that holds a def, called under try -/
def tCallLS (i : Nat) (f : Addr) (sp : Sp) (E : L2.St → XK) (t : TA) : TE := fun σ H Q => σ[i]? = some (some (.ref f)) ∧ t σ H fun vs H1 => sp vs H1 Q (E σ)
theorem pe_callLS {X : Cx} {CX : CXT} {k i : Nat} {f : Addr} {fd : FuncData} {ps : List Str} {sp : Sp} {E : L2.St → XK} {x : Str} {p pos : Pos} {e : Expr} {es : List Expr} {t : TA} (F : FnOk X.prog X.w X.K X.mg X.base CX k f fd ps sp) (hr : Room k X.A) (hN : X.N[i]? = some x) (hv : Vis X.env.scope x) (hk : PySem.W.keepIn X.K (.ref f) = true) (hb : L2.Binds X.K fd ps []) (hx : ∀ σ, PassesAt CX X σ (E σ)) (ha : PA X (e :: es) t)
    (hdb : (x == ("__debug__" : Str)) = false := by decide) (hcd : (x == ("__classdict__" : Str)) = false := by decide)
    (he : starEach (e :: es) X.env = (false, eval e X.env) :: starEach es X.env := by rfl) (hpl : (backTo pos (starEach es X.env)).any (·.1) = false := by rfl) : PE X (.Call (.Name x p) (e :: es) [] pos) (tCallLS i f sp E t) := by
  refine ⟨fun pins s σ H Q I h => ?_⟩
  obtain ⟨hs, ht⟩ := h
  refine wpAny_Call_Name_kw (thn ((pe_var (pos := p) hN hv hdb hcd).run pins s σ H (fun v H1 => v = .ref f ∧ H1 = H) I ⟨.ref f, hs, rfl, rfl⟩) fun u s1 ⟨v, H1, I1, r1, q1⟩ => ?_)
  obtain ⟨rfl, rfl⟩ := q1
  cases r1
  refine PySem.W.callWith_K (h₀ := X.base) I.ok.mod.kin hk (thn (ha.run pos pins s1 σ _ _ I1 ht) fun us s2 ⟨vs, H2, I2, r, q⟩ => ⟨I2.kIn, ?_⟩) he hpl
  exact run_fnS F hr hb (hx σ) I2 r q
end K99
/-! K54 -/
namespace K99
open PySem PySem.Spec PyProof.Rows L2
def sumD (out in0 : Str) (b : Bool) : PyData := .tuple [.tuple [.str out, .tuple [], .tuple [.str in0], .tuple (if b = true then [.str in0] else [])]]
theorem sumD_dp {K : PySem.W.Frag} {H : Hp} {su : Addr} {out in0 : Str} {b : Bool} (h : SumT K H su out in0 b) : Dp K H (.ref su) (sumD out in0 b) := by
  obtain ⟨t, e, f, g, h1, h2, h3, h4, h5⟩ := h
  refine .tup h1 (.cons (.tup h2 (.cons (.str _) (.cons (.tup h3 .nil) (.cons (.tup h4 (.cons (.str _) .nil)) (.cons (.tup h5 ?_) .nil))))) .nil)
  cases b with
  | true => exact .cons (.str _) .nil
  | false => exact .nil
theorem sumD_sh {out in0 : Str} {b : Bool} (h1 : Ptd out) (h2 : Ptd in0) : SeqAt.shaped (sumD out in0 b) = true := by
  have e1 := h1.sok
  have e2 := h2.sok
  cases b with
  | true =>
    simp only [sumD, SeqAt.shaped, PyData.canLay0, PyData.canLayAll0, PyData.strOk, if_true, e1, e2, PyData.depth, PyData.depthAll, Bool.and_true]
    decide +kernel
  | false =>
    rw [sumD, if_neg Bool.false_ne_true]
    simp only [SeqAt.shaped, PyData.canLay0, PyData.canLayAll0, PyData.strOk, e1, e2, PyData.depth, PyData.depthAll, Bool.and_true]
    rfl
theorem iteY {c : Prop} [Decidable c] {A B : Prop} (h : c) (a : A) : if c then A else B := by
  rw [if_pos h]
  exact a
theorem iteZ {c : Prop} [Decidable c] {A B : Prop} (h : ¬ c) (b : B) : if c then A else B := by
  rw [if_neg h]
  exact b
section
variable {P : Program} {w : World} {K : PySem.W.Frag} {mg : Str → Option Value} {base : Heap}
def spRight (K : PySem.W.Frag) : Sp := fun vs H Q _ => ∃ (a t d : Addr) (pd : List ND) (ss : List Sh) (j : Nat) (n : ND), vs = [V.ref a, .ref t] ∧ PgO K H a pd ∧ Shs pd ss ∧ pd[j]? = some n ∧ SqT K H t [.ref d, .int (cnt pd j), .int (cel pd j), .bl (stAt ss j)] ∧ NdD K H d n ∧ ∀ H', Same H H' → Q (.bl true) H'
theorem ok__law_right (T : Txt K mg) : FnOk P w K mg base CX0 60 (f__law_right K) (fdAt K (f__law_right K)) P__law_right (spRight K) := by
  refine FunD.ok T.F__law_right sc__law_right (fun vs H Q E h => ?_) (fun cdv A outer s H vs Q E hr h => ?_)
  · obtain ⟨a, t, d, pd, ss, j, n, rfl, _⟩ := h
    rfl
  · obtain ⟨a, t, d, pd, ss, j, n, rfl, pg, sh, hn, ht, nd, k⟩ := h
    refine ⟨_, PSs.nox (pss_cons (ps_asg (pv 1) (pg_tup rfl (pgs_cons (pg_name (i := 2) sc__law_right.nd rfl (by first | exact Or.inl rfl | exact Or.inr rfl)) (pgs_cons (pg_name (i := 3) sc__law_right.nd rfl (by first | exact Or.inl rfl | exact Or.inr rfl)) (pgs_cons (pg_name (i := 4) sc__law_right.nd rfl (by first | exact Or.inl rfl | exact Or.inr rfl)) (pgs_cons (pg_name (i := 5) sc__law_right.nd rfl (by first | exact Or.inl rfl | exact Or.inr rfl)) pgs_nil)))))) (pss_cons (ps_par3 (i := 6) (j := 7) (l := 8) (by rfl) sc__law_right.nd rfl rfl rfl (by decide) (by decide) (by decide) rfl rfl rfl (pa_cons (pe_ix ix_tup (pv 2) pe_int (fun _ _ => rfl)) (pa_cons (pe_ix ix_tup (pe_ix ix_tup (pv 2) pe_int (fun _ _ => rfl)) pe_int (fun _ _ => rfl)) (pa_cons (pe_ix ix_tup (pe_ix ix_tup (pv 2) pe_int (fun _ _ => rfl)) pe_int (fun _ _ => rfl)) pa_nil))) (by rfl)) (pss_cons (ps_if (PW.pt (pw_or (pt_cmpR op_ne (pe_callB SkE.call_repr_int (by rfl) T.z_repr boot_repr (pa_cons (pe_call (ok_how_many T) (hr.mono (by first | decide | omega)) (by rfl) T.g_how_many T.F_how_many.kp T.b_how_many .nil pass0 (pa_cons (pv 0) (pa_cons (pv 6) pa_nil))) pa_nil)) (pe_callB SkE.call_repr_int (by rfl) T.z_repr boot_repr (pa_cons (pv 3) pa_nil)) (by rfl)) (pw_or1 (pt_cmpR op_ne (pe_callB SkE.call_repr_int (by rfl) T.z_repr boot_repr (pa_cons (pe_call (ok_cells_in T) (hr.mono (by first | decide | omega)) (by rfl) T.g_cells_in T.F_cells_in.kp T.b_cells_in .nil pass0 (pa_cons (pv 0) (pa_cons (pv 6) pa_nil))) pa_nil)) (pe_callB SkE.call_repr_int (by rfl) T.z_repr boot_repr (pa_cons (pv 4) pa_nil)) (by rfl))))) (pss_one (ps_ret pe_bl)) pss_nil) (pss_cons (ps_if (pt_cmpR (op_neD hr.units) (pe_call (ok_summary_of T) (hr.mono (by first | decide | omega)) (by rfl) T.g_summary_of T.F_summary_of.kp T.b_summary_of .nil pass0 (pa_cons (pv 0) (pa_cons (pv 6) pa_nil))) (pe_tup (pa_cons (pe_tup (pa_cons (pv 8) (pa_cons (pe_tup pa_nil) (pa_cons (pe_tup (pa_cons (pv 7) pa_nil)) (pa_cons (pe_ifExp (pt_val (pv 5)) (pe_tup (pa_cons (pv 7) pa_nil)) (pe_tup pa_nil)) pa_nil))))) pa_nil)) (by rfl)) (pss_one (ps_ret pe_bl)) pss_nil) (pss_one pS))))), ?_⟩
    rw [show L2.start N__law_right [V.ref a, .ref t] = [some (.ref a), some (.ref t), none, none, none, none, none, none, none, none] from rfl]
    obtain ⟨c, pgr⟩ := id pg
    have hj : j < pd.length := (List.getElem?_eq_some_iff.mp hn).1
    have hj7 : j ≤ 7 := by
      have := c.len
      omega
    have ok := sh j n hn
    have no := c.oks n (List.mem_of_getElem? hn)
    obtain ⟨i, o, r, ds, n1, n2, n3, n4, n5, n6⟩ := nd
    rw [ok.ins] at n2
    have hP : Ptd (shAt ss j).in0 := no.insP _ (by rw [ok.ins]; exact List.mem_cons_self ..)
    refine ⟨_, rfl, t, _, rfl, ht, rfl, _, _, rfl, _, _, rfl, _, _, rfl, _, _, rfl, rfl, ?_⟩
    refine ⟨_, rfl, d, _, 0, .str n.name, rfl, rfl, n1, rfl, _, rfl, d, _, 1, .ref i, rfl, rfl, n1, rfl, i, _, 0, .str (shAt ss j).in0, rfl, rfl, n2, at0, _, rfl, d, _, 2, .ref o, rfl, rfl, n1, rfl, o, _, 0, .str n.out, rfl, rfl, n3, at0, _, _, _, rfl, ?_⟩
    refine ⟨_, rfl, _, rfl, a, pd, j, n, rfl, pg, hn, fun H1 s1 => ?_⟩
    refine ⟨_, rfl, log_few hj7 (cnt_abs c hj), _, rfl, _, rfl, log_few hj7 (cnt_abs c hj), rfl, false, ?_, iteF ?_⟩
    · show V.bl (!decide (V.str _ = V.str _)) = _
      rw [decide_eq_true rfl]
      rfl
    refine ⟨_, rfl, _, rfl, a, pd, j, n, rfl, pg.mono s1, hn, fun H2 s2 => ?_⟩
    refine ⟨_, rfl, log_few hj7 (cel_abs c hj), _, rfl, _, rfl, log_few hj7 (cel_abs c hj), rfl, false, ?_, iteF ?_⟩
    · show V.bl (!decide (V.str _ = V.str _)) = _
      rw [decide_eq_true rfl]
      rfl
    have s02 := s1.trans s2
    refine ⟨_, rfl, _, rfl, a, pd, ss, j, n, rfl, pg.mono s02, sh, hn, fun su H3 s3 S3 => ?_⟩
    refine ⟨_, rfl, sz (n := 0) (by decide), fun e1 he1 => ?_⟩
    have s4 : Same H3 (upd H3 e1 (.tup [])) := Same.new he1
    have g4 : SqT K (upd H3 e1 (.tup [])) e1 [] := SqT.of upd_same
    generalize upd H3 e1 (.tup []) = H4 at s4 g4 ⊢
    refine ⟨_, rfl, sz (n := 1) (by decide), fun e2 he2 => ?_⟩
    have s5 : Same H4 (upd H4 e2 (.tup [.str (shAt ss j).in0])) := Same.new he2
    have g5 : SqT K (upd H4 e2 (.tup [.str (shAt ss j).in0])) e2 [.str (shAt ss j).in0] := SqT.of upd_same
    generalize upd H4 e2 (.tup [.str (shAt ss j).in0]) = H5 at s5 g5 ⊢
    refine ⟨_, rfl, stAt ss j, rfl, ?_⟩
    by_cases cs : stAt ss j = true
    case' pos =>
      refine iteY cs ?_
      refine ⟨_, rfl, sz (n := 1) (by decide), fun e3 he3 => ?_⟩
      have s6 : Same H5 (upd H5 e3 (.tup [.str (shAt ss j).in0])) := Same.new he3
      have g6 : SqT K (upd H5 e3 (.tup [.str (shAt ss j).in0])) e3 ((if stAt ss j = true then [(shAt ss j).in0] else []).map .str) := by
        rw [if_pos cs]
        exact SqT.of upd_same
      generalize upd H5 e3 (.tup [.str (shAt ss j).in0]) = H6 at s6 g6 ⊢
    case' neg =>
      refine iteZ cs ?_
      refine ⟨sz (n := 0) (by decide), fun e3 he3 => ?_⟩
      have s6 : Same H5 (upd H5 e3 (.tup [])) := Same.new he3
      have g6 : SqT K (upd H5 e3 (.tup [])) e3 ((if stAt ss j = true then [(shAt ss j).in0] else []).map .str) := by
        rw [if_neg cs]
        exact SqT.of upd_same
      generalize upd H5 e3 (.tup []) = H6 at s6 g6 ⊢
    all_goals
      refine ⟨sz (n := 4) (by decide), fun e4 he4 => ?_⟩
      have s7 : Same H6 (upd H6 e4 (.tup [.str n.out, .ref e1, .ref e2, .ref e3])) := Same.new he4
      have g7 : SqT K (upd H6 e4 (.tup [.str n.out, .ref e1, .ref e2, .ref e3])) e4 [.str n.out, .ref e1, .ref e2, .ref e3] := SqT.of upd_same
      generalize upd H6 e4 (.tup [.str n.out, .ref e1, .ref e2, .ref e3]) = H7 at s7 g7 ⊢
      refine ⟨sz (n := 1) (by decide), fun e5 he5 => ?_⟩
      have s8 : Same H7 (upd H7 e5 (.tup [.ref e4])) := Same.new he5
      have g8 : SqT K (upd H7 e5 (.tup [.ref e4])) e5 [.ref e4] := SqT.of upd_same
      generalize upd H7 e5 (.tup [.ref e4]) = H8 at s8 g8 ⊢
      have S8 : SumT K H8 e5 n.out (shAt ss j).in0 (stAt ss j) := ⟨e4, e1, e2, e3, g8, Same.sqt s8 g7, Same.sqt (s5.trans (s6.trans (s7.trans s8))) g4, Same.sqt (s6.trans (s7.trans s8)) g5, Same.sqt (s7.trans s8) g6⟩
      have s38 : Same H3 H8 := s4.trans (s5.trans (s6.trans (s7.trans s8)))
      have s08 : Same H H8 := s02.trans (s3.trans s38)
      refine ⟨_, _, sumD_dp (S3.mono s38), sumD_dp S8, sumD_sh no.outP hP, sumD_sh no.outP hP, false, ?_, iteF ?_⟩
      · show V.bl (!PyData.eqv _ _) = _
        rw [SeqAt.eqv_refl _ (Bool.and_eq_true_iff.mp (sumD_sh no.outP hP)).1]
        rfl
      clear s4 s5 s6 s7 s8 g4 g5 g6 g7 g8 S8 S3 he1 he2 he3 he4 he5 cs
      have pg8 := pg.mono s08
      by_cases hc : cnt pd j ≤ 200
      · refine rS.go (ps_try_as (i := 9) (c := .ref (A_TooMany K)) (Wout := fun _ _ _ _ => False) rfl rfl sc__law_right.nd rfl rfl ⟨rfl, by decide, .inl T.g_TooMany⟩ takes0 (fun W pn xe tk _ => pss_one (ps_ret (pe_and (pe_cmpR op_eq (pe_callB (call_len_seqK (K := K)) (by rfl) T.z_len PySem.boot_len (pa_cons (pe_meth0 (pe_call (ok_written_out T) (hr.mono (by first | decide | omega)) (by rfl) T.g_written_out T.F_written_out.kp T.b_written_out .nil pass0 (pa_cons (pv 0) (pa_cons (pv 6) pa_nil))) T.c_Node T.m_Node_names (ok_Node_names T) (hr.mono (by first | decide | omega)) T.b_Node_names .nil pass0) pa_nil)) (pv 3) (by rfl)) (pe_one (pe_cmpR op_le (pv 3) pe_int (by rfl)))))) (fun a oe cls d pn hz hf => pss_one (ps_ret (pe_and (pe_cmpR op_eq (pe_xf T.oexT.2.2.2.2 T.n_TooMany_many hz hf (pv 9)) (pv 3) (by rfl)) (pe_one (pe_cmpR op_gt (pv 3) pe_int (by rfl))))))) ?_
        refine ⟨_, rfl, _, rfl, a, pd, ss, j, n, rfl, pg8, sh, hn, hc, fun w1 H9 s9 nd9 => ?_⟩
        obtain ⟨dx, ki, ko, kr, te, rs, v1, v2⟩ := id nd9
        refine ⟨w1, dx, _, rfl, v1, rfl, w1, outN pd j, rfl, nd9, fun l H10 s10 hl => ?_⟩
        refine ⟨l, _, rfl, .inl (SqL.of hl), _, rfl, rfl, true, ?_, iteT ?_⟩
        · show V.bl (decide (V.int (((outN pd j).names.map V.str).length : Nat) = V.int (cnt pd j))) = .bl true
          rw [List.length_map, outN_len c sh hn, decide_eq_true rfl]
        · refine ⟨_, rfl, _, _, rfl, rfl, ?_⟩
          show Q (.bl (decide (cnt pd j ≤ 200))) H10
          rw [decide_eq_true hc]
          exact k H10 (s08.trans (s9.trans s10))
      · refine rS.go (ps_try_as (i := 9) (c := .ref (A_TooMany K)) (Wout := fun _ _ _ _ => False) rfl rfl sc__law_right.nd rfl rfl ⟨rfl, by decide, .inl T.g_TooMany⟩ takes0 (fun W pn xe tk _ => pss_one (ps_ret (pe_and (pe_cmpR op_eq (pe_callB (call_len_seqK (K := K)) (by rfl) T.z_len PySem.boot_len (pa_cons (pe_meth0 (pe_callS (ok_written_outX T) (hr.mono (by first | decide | omega)) (by rfl) T.g_written_out T.F_written_out.kp T.b_written_out (fun σ => passAt tk σ) (pa_cons (pv 0) (pa_cons (pv 6) pa_nil))) T.c_Node T.m_Node_names (ok_Node_names T) (hr.mono (by first | decide | omega)) T.b_Node_names .nil pass0) pa_nil)) (pv 3) (by rfl)) (pe_one (pe_cmpR op_le (pv 3) pe_int (by rfl)))))) (fun a oe cls d pn hz hf => pss_one (ps_ret (pe_and (pe_cmpR op_eq (pe_xf T.oexT.2.2.2.2 T.n_TooMany_many hz hf (pv 9)) (pv 3) (by rfl)) (pe_one (pe_cmpR op_gt (pv 3) pe_int (by rfl))))))) ?_
        refine ⟨_, rfl, _, rfl, a, pd, j, n, rfl, pg8, hn, by omega, fun dx H9 s9 hdx h9 => ?_⟩
        refine ⟨true, T.oexT.2.2.2.1, fun _ ax hax => ?_, fun h => absurd h (by decide)⟩
        refine ⟨_, rfl, rfl, rfl, dx, _, .int (cnt pd j), rfl, h9, rfl, _, rfl, rfl, true, ?_, iteT ?_⟩
        · show V.bl (decide (V.int _ = V.int _)) = _
          rw [decide_eq_true rfl]
        · refine ⟨_, rfl, _, _, rfl, rfl, ?_⟩
          show Q (.bl (decide ((200 : Int) < cnt pd j))) H9
          rw [decide_eq_true (show (200 : Int) < cnt pd j by omega)]
          exact k H9 (s08.trans s9)
end
end K99
/-! K55 -/
namespace K99
open PySem PySem.Spec PyProof.Rows L2
section
variable {P : Program} {w : World} {K : PySem.W.Frag} {mg : Str → Option Value} {base : Heap}
theorem strange_fns (T : Txt K mg) {x : Addr} (h : x ∈ [f_how_many K, f_cells_in K, f_summary_of K]) : ∃ fd ps, FnOk P w K mg base (L2.CX P w) 7 x fd ps (spStrange K) ∧ PySem.W.keepIn K (.ref x) = true ∧ L2.Binds K fd ps [] := by
  rcases List.mem_cons.mp h with rfl | h
  · exact ⟨_, _, (ok_how_manyX T).mono (by decide), T.F_how_many.kp, T.b_how_many⟩
  · rcases List.mem_cons.mp h with rfl | h
    · exact ⟨_, _, (ok_cells_inX T).mono (by decide), T.F_cells_in.kp, T.b_cells_in⟩
    · rw [List.mem_singleton.mp h]
      exact ⟨_, _, ok_summary_ofX T, T.F_summary_of.kp, T.b_summary_of⟩
def spStr (K : PySem.W.Frag) : Sp := fun vs H Q _ => ∃ a z pd, vs = [V.ref a, .str z] ∧ PgO K H a pd ∧ z ∉ pd.map ND.name ∧ ∀ H', Same H H' → Q (.bl true) H'
theorem ok__law_strange (T : Txt K mg) : FnOk P w K mg base CX0 10 (f__law_strange K) (fdAt K (f__law_strange K)) P__law_strange (spStr K) := by
  refine FunD.ok T.F__law_strange sc__law_strange (fun vs H Q E h => ?_) (fun cdv A outer s H vs Q E hr h => ?_)
  · obtain ⟨a, z, pd, rfl, _⟩ := h
    rfl
  · obtain ⟨a, z, pd, rfl, pg, hz, k⟩ := h
    refine ⟨_, PSs.nox (pss_cons (ps_set (i := 2) sc__law_strange.nd rfl (by first | exact Or.inl rfl | exact Or.inr rfl) pe_int) (pss_cons (ps_for PassesOwn.never rfl (pi_list (pe_lst (pa_cons (pe_glob (v := .ref (He.ga K "how_many")) rfl T.g_how_many rfl) (pa_cons (pe_glob (v := .ref (He.ga K "cells_in")) rfl T.g_cells_in rfl) (pa_cons (pe_glob (v := .ref (He.ga K "summary_of")) rfl T.g_summary_of rfl) pa_nil))))) (pg_name (i := 3) sc__law_strange.nd rfl (by first | exact Or.inl rfl | exact Or.inr rfl)) (pss_one pS)) (pss_one (ps_ret (pe_cmpR op_eq (pv 2) pe_int (by rfl)))))), ?_⟩
    rw [show L2.start N__law_strange [V.ref a, .str z] = [some (.ref a), some (.str z), none, none, none] from rfl]
    refine ⟨sz (n := 3) (by decide), fun L hL => ?_⟩
    have s1 : Same H (upd H L (.lst [.ref (f_how_many K), .ref (f_cells_in K), .ref (f_summary_of K)])) := Same.new hL
    have g1 : upd H L (.lst [.ref (f_how_many K), .ref (f_cells_in K), .ref (f_summary_of K)]) L = some (.lst ([f_how_many K, f_cells_in K, f_summary_of K].map .ref)) := upd_same
    generalize upd H L (.lst [.ref (f_how_many K), .ref (f_cells_in K), .ref (f_summary_of K)]) = H1 at s1 g1 ⊢
    refine ⟨L, rfl, ⟨_, SqL.of g1⟩, ?_⟩
    refine for_map (wm_list [f_how_many K, f_cells_in K, f_summary_of K] V.ref) (fun pre σ H' => Same H1 H' ∧ ∃ y3 y4, σ = [some (.ref a), some (.str z), some (.int (pre.length : Int)), y3, y4]) ⟨Same.refl _, _, _, rfl⟩ (fun pre σ H' q => SqL.of (q.1 _ _ g1)) (fun pre x post σ H' e q => ?_) (fun σ H' q => ?_)
    · obtain ⟨s2, y3, y4, rfl⟩ := q
      have hx : x ∈ [f_how_many K, f_cells_in K, f_summary_of K] := by
        rw [e]
        simp
      obtain ⟨fd, ps, F, hk, hb⟩ := strange_fns (P := P) (w := w) (base := base) T hx
      refine rS.go (ps_try_as (i := 4) (c := .ref (A_Unknown K)) (Wout := fun _ _ _ _ => False) rfl rfl sc__law_strange.nd rfl rfl ⟨rfl, by decide, .inl T.g_Unknown⟩ takes0
        (fun W pn xe tk _ => pss_one (ps_expr (pe_callLS (i := 3) F (hr.mono (by decide)) rfl (.inl rfl) hk hb (fun σ => passAt tk σ) (pa_cons (pv 0) (pa_cons (pv 1) pa_nil)))))
        (fun a oe cls d pn hz hf => pss_one (ps_set (i := 2) sc__law_strange.nd rfl (Or.inl rfl) (pe_op op_add (pv 2) (pe_callTy call_int1 (by rfl) T.z_int boot_int (pa_cons (pe_cmpR op_eq (pe_xf T.oexU.2.2.2.2 T.n_Unknown_name hz hf (pv 4)) (pv 1) (by rfl)) pa_nil)))))) ?_
      refine ⟨rfl, _, rfl, _, rfl, a, z, pd, rfl, pg.mono (s1.trans s2), hz, fun dx H9 s9 hdx h9 => ?_⟩
      refine ⟨true, T.oexU.2.2.2.1, fun _ ax hax => ?_, fun h => absurd h (by decide)⟩
      refine ⟨_, rfl, _, rfl, rfl, rfl, dx, _, .str z, rfl, h9, rfl, _, rfl, rfl, .inr ⟨true, ?_, _, _, rfl, rfl, ?_⟩⟩
      · show [V.bl (decide (V.str z = V.str z))] = _
        rw [decide_eq_true rfl]
      · refine ⟨s2.trans s9, some (.ref x), none, ?_⟩
        rw [List.length_append]
        rfl
    · obtain ⟨s2, y3, y4, rfl⟩ := q
      refine ⟨_, rfl, rfl, ?_⟩
      exact k H' (s1.trans s2)
end
end K99
/-! K56 -/
namespace K99
open PySem PySem.Spec PyProof.Rows L2
section
variable {P : Program} {w : World} {K : PySem.W.Frag} {mg : Str → Option Value} {base : Heap}
theorem NdO.keepL (T : Txt K mg) {H : Hp} {b D : Addr} {n : ND} {acc xs : List V} (ok : n.oks) (hD : H D = some (.lst acc)) (hacc : ∀ v, v ∈ acc → ∃ c dx fs, v = .ref c ∧ H c = some (.ins (A_Node K) dx fs)) (h : NdO K H b n) : NdO K (upd H D (.lst xs)) b n := by
  obtain ⟨dx, ki, ko, kr, te, rs, h1, h2, h3⟩ := h
  have nl : ∀ {a : Addr} {ys : List V}, H a = some (.lst ys) → (∃ y, y ∈ ys ∧ ∀ c dx fs, y = .ref c → H c ≠ some (.ins (A_Node K) dx fs)) → a ≠ D := fun {a ys} e ⟨y, hy, hn⟩ q => by
    subst q
    rw [hD] at e
    obtain rfl : acc = ys := by injection e with e; injection e
    obtain ⟨c, dx, fs, e1, e2⟩ := hacc y hy
    exact hn c dx fs e1 e2
  have n1 : ki ≠ D := nl h2.i (by
    cases hi : n.ins with
    | nil => exact absurd hi ok.ins0
    | cons x r => exact ⟨.str x, List.mem_cons_self .., fun c dx fs e => by cases e⟩)
  have n2 : ko ≠ D := nl h2.o ⟨.str n.out, List.mem_cons_self .., fun c dx fs e => by cases e⟩
  have n3 : kr ≠ D := nl h2.r (by
    cases hr : rs with
    | nil =>
      have he := h2.e
      rw [hr] at he
      have ho := ok.outT
      unfold ND.tells at ho
      rw [← he] at ho
      cases ho
    | cons p r =>
      refine ⟨.ref p.1, List.mem_cons_self .., fun c dx fs e => ?_⟩
      injection e with e
      subst e
      obtain ⟨d, _, q⟩ := h2.eq p (by rw [hr]; exact List.mem_cons_self ..)
      intro hc
      cases hp : p.2 with
      | bef x v y =>
        rw [hp] at q
        obtain ⟨dy, q⟩ := q
        rw [hc] at q
        injection q with q
        injection q with q
        exact T.ne_Node_Before q
      | call x c y k =>
        rw [hp] at q
        obtain ⟨dy, q⟩ := q
        rw [hc] at q
        injection q with q
        injection q with q
        exact T.ne_Node_Call q
      | pln x t =>
        rw [hp] at q
        obtain ⟨dy, k, q, _⟩ := q
        rw [hc] at q
        injection q with q
        injection q with q
        exact T.ne_Node_Plain q)
  have n4 : te ≠ D := fun e => by
    subst e
    rw [hD] at h3
    cases h3
  have n5 : b ≠ D := fun e => by
    subst e
    rw [hD] at h1
    cases h1
  refine ⟨dx, ki, ko, kr, te, rs, by rw [upd_ne n5]; exact h1, ⟨by rw [upd_ne n1]; exact h2.i, by rw [upd_ne n2]; exact h2.o, by rw [upd_ne n3]; exact h2.r, h2.e, fun p hp => (h2.eq p hp).monoN (SameN.lst hD)⟩, by rw [upd_ne n4]; exact h3⟩
def spLaw (K : PySem.W.Frag) : Sp := fun vs H Q _ => ∃ (a : Addr) (xs : List Int), vs = [.ref a] ∧ SqL K H a (xs.map .int) ∧ xs.length ≤ 63 ∧ ∀ H', Q (.bl true) H'
theorem ok_law (T : Txt K mg) : FnOk P w K mg base CX0 62 (f_law K) (fdAt K (f_law K)) P_law (spLaw K) := by
  refine FunD.ok T.F_law sc_law (fun vs H Q E h => ?_) (fun cdv A outer s H vs Q E hr h => ?_)
  · obtain ⟨a, xs, rfl, _⟩ := h
    rfl
  · obtain ⟨a, xs, rfl, ha, hx, k⟩ := h
    refine ⟨_, PSs.nox (pss_cons (ps_for PassesOwn.never rfl (pi_range1 (by rfl) T.z_range (pa_cons (pe_callB (call_max2 (by rfl)) (by rfl) T.z_max (by decide +kernel) (pa_cons pe_int (pa_cons (pe_callB (call_min2 (by rfl)) (by rfl) T.z_min (by decide +kernel) (pa_cons pe_int (pa_cons (pe_callB call_len_seq (by rfl) T.z_len PySem.boot_len (pa_cons (pv 0) pa_nil)) pa_nil))) pa_nil))) pa_nil)) (pg_name (i := 1) sc_law.nd rfl (Or.inl rfl)) pB) (pss_one (ps_ret pe_bl))), ?_⟩
    rw [show L2.start N_law [V.ref a] = [some (.ref a), none, none, none, none, none, none] from rfl]
    refine ⟨_, rfl, a, _, rfl, .inl ha, _, _, rfl, _, _, rfl, _, rfl, ?_, ?_, ?_⟩
    · split <;> split <;> omega
    · split <;> split <;> omega
    refine for_map (wm_range _) (fun pre σ H' => Same H H' ∧ ∃ y1 y2 y3 y4 y5 y6, σ = [some (.ref a), y1, y2, y3, y4, y5, y6]) ⟨Same.refl _, _, _, _, _, _, _, rfl⟩ (fun _ _ _ _ => trivial) (fun pre i post σ H0 e q => ?_) (fun σ H0 q => ?_)
    · obtain ⟨s0, y1, y2, y3, y4, y5, y6, rfl⟩ := q
      have hi : i ≤ 1000 := by
        have h1 := (range_pre e).2.2
        revert h1
        split <;> split <;> omega
      refine rB.go (pss_cons (ps_set (i := 2) sc_law.nd rfl (by first | exact Or.inl rfl | exact Or.inr rfl) (pe_call (ok__law_box T) (hr.mono (by first | decide | omega)) (by rfl) T.g__law_box T.F__law_box.kp T.b__law_box .nil pass0 (pa_cons (pe_call (ok__law_cell_at T) (hr.mono (by first | decide | omega)) (by rfl) T.g__law_cell_at T.F__law_cell_at.kp T.b__law_cell_at .nil pass0 (pa_cons (pv 0) (pa_cons (pv 1) pa_nil))) pa_nil))) (pss_cons (ps_set (i := 3) sc_law.nd rfl (by first | exact Or.inl rfl | exact Or.inr rfl) (pe_call (ok__law_chain T) (hr.mono (by first | decide | omega)) (by rfl) T.g__law_chain T.F__law_chain.kp T.b__law_chain .nil pass0 (pa_cons (pv 2) pa_nil))) (pss_cons (ps_set (i := 4) sc_law.nd rfl (by first | exact Or.inl rfl | exact Or.inr rfl) (pe_make T.mk_Program (FnOk.ex (p := fun _ : List ND => True) (spd := spProgInit K) fun pd _ => ok_Program_init T pd) (hr.mono (by first | decide | omega)) rfl T.g_Program T.b_Program_init .nil pass0 (pa_cons (pe_lc (own := [("_law_row", 6)]) (by rfl) sc_law.nd (pi_list (pv 3)) (blkOk_by (N := N_law) (sc := defScope s_law) (by decide +kernel)) (fun _ _ _ _ _ => (pg_name (i := 6) sc_law.nd rfl (by first | exact Or.inl rfl | exact Or.inr rfl))) (fun _ _ _ _ _ => pts_nil) (fun _ _ _ _ _ => (pe_call (FnOk.ex (p := fun _ : ND => True) (spd := spNodeOf K) fun n _ => ok_node_of T n) (hr.mono (by first | decide | omega)) (by rfl) T.g_node_of T.F_node_of.kp T.b_node_of .nil pass0 (pa_cons (pe_ix (r := rIxT K) ix_tup (pv 6) pe_int (fun _ _ => rfl)) pa_nil)))) pa_nil))) (pss_cons (ps_for PassesOwn.never rfl (pi_range1 (by rfl) T.z_range (pa_cons pe_int pa_nil)) (pg_name (i := 5) sc_law.nd rfl (by first | exact Or.inl rfl | exact Or.inr rfl)) (pss_one (ps_for PassesOwn.never rfl (pi_list (pe_stepL (pv 3) (pe_ix ix_list (pe_lst (pa_cons pe_int (pa_cons (pe_un un_neg pe_int) pa_nil))) (pv 5) (fun _ _ => rfl)))) (pg_name (i := 6) sc_law.nd rfl (by first | exact Or.inl rfl | exact Or.inr rfl)) (pss_one (ps_if (pt_not (pt_val (pe_call (ok__law_right T) (hr.mono (by first | decide | omega)) (by rfl) T.g__law_right T.F__law_right.kp T.b__law_right .nil pass0 (pa_cons (pv 4) (pa_cons (pv 6) pa_nil))))) (pss_one (ps_ret pe_bl)) pss_nil))))) (pss_one (ps_if (pt_not (pt_val (pe_call (ok__law_strange T) (hr.mono (by first | decide | omega)) (by rfl) T.g__law_strange T.F__law_strange.kp T.b__law_strange .nil pass0 (pa_cons (pv 4) (pa_cons (pe_ifExp (pt_cmpR op_lt (pe_callB call_len_str (by rfl) T.z_len PySem.boot_len (pa_cons (pe_ix ix_tup (pe_ix ix_tup (pe_ix ix_list (pv 3) (pe_un un_neg pe_int) (fun _ _ => rfl)) pe_int (fun _ _ => rfl)) pe_int (fun _ _ => rfl)) pa_nil)) pe_int (by rfl)) (pe_op op_add_str (pe_ix ix_tup (pe_ix ix_tup (pe_ix ix_list (pv 3) (pe_un un_neg pe_int) (fun _ _ => rfl)) pe_int (fun _ _ => rfl)) pe_int (fun _ _ => rfl)) pe_str) pe_str) pa_nil))))) (pss_one (ps_ret pe_bl)) pss_nil)))))) ?_
      refine ⟨_, rfl, _, rfl, a, xs, i, rfl, Same.sql s0 ha, hi, fun c => ⟨c, rfl, fun b hb H1 s1 b1 => ?_⟩⟩
      refine ⟨_, rfl, b, rfl, b1, fun l ps N H2 x2 hl hen hok => ?_⟩
      have pk : ∀ {j : Nat} {p : PL}, ps[j]? = some p → (ps.map (·.2.2))[j]? = some p.2.2 := fun {j p} h => by
        rw [List.getElem?_map, h]
        rfl
      have s2 : Same H0 H2 := SameX.of (SameX.trans (Same.x s1) x2) hb
      have hoks : ∀ p, p ∈ ps → p.2.2.nd.oks := fun p hp => by
        obtain ⟨j, hj⟩ := List.getElem?_of_mem hp
        exact (hok.ok j _ (pk hj)).oks
      have hlen := hok.le
      have ch : Ch (ndsOf (ps.map (·.2.2))) := hok.ok.ch (by rw [List.length_map]; exact hlen) (by rw [List.map_map]; exact hok.nd)
      have shs := hok.ok.shs
      refine ⟨_, rfl, l, rfl, ⟨_, SqL.of hl⟩, fun D hD => ?_⟩
      refine lc_map (wm_list ps fun p : PL => V.ref p.1) (fun pre H' => Same H2 H' ∧ ∃ bs : List PN, H' D = some (.lst (bs.map fun p => .ref p.1)) ∧ bs.map (·.2) = pre.map (fun p => p.2.2.nd) ∧ ∀ p, p ∈ bs → NdO K H' p.1 p.2) ⟨Same.new hD, [], upd_same, rfl, fun p hp => by cases hp⟩ (fun pre H' q => SqL.of (q.1 _ _ hl)) (fun pre p post H' e q => ?_) (fun H3 q => ?_)
      · obtain ⟨s3, bs, d1, d2, d3⟩ := q
        have hp : p ∈ ps := by
          rw [e]
          simp
        have hbl : bs.length ≤ 8 := by
          have h1 := congrArg List.length d2
          have h2 := congrArg List.length e
          simp at h1 h2
          omega
        have ep := (hen p hp).monoN (Same.n s3)
        refine ⟨rfl, ?_⟩
        unfold tYes
        refine iteT ?_
        refine ⟨_, rfl, p.1, _, 0, .ref p.2.1, rfl, rfl, ep.1, rfl, p.2.2.nd, trivial, p.2.1, rfl, ep.2, hoks p hp, fun nb H4 s4 n4 => ?_⟩
        have d14 := s4 _ _ d1
        have d34 : ∀ p, p ∈ bs → NdO K H4 p.1 p.2 := fun p hp => (d3 p hp).mono s4
        have hcc : ∀ v, v ∈ bs.map (fun p : PN => V.ref p.1) → ∃ c dx fs, v = .ref c ∧ H4 c = some (.ins (A_Node K) dx fs) := fun v hv => by
          obtain ⟨q, hq, rfl⟩ := List.mem_map.mp hv
          obtain ⟨dx, ki, ko, kr, te, rs, h1, _⟩ := d34 q hq
          exact ⟨q.1, dx, _, rfl, h1⟩
        have boks : ∀ q, q ∈ bs → q.2.oks := fun q hq => by
          have : q.2 ∈ pre.map (fun p : PL => p.2.2.nd) := by
            rw [← d2]
            exact List.mem_map_of_mem hq
          obtain ⟨p', hp', e'⟩ := List.mem_map.mp this
          rw [← e']
          exact hoks p' (by rw [e]; exact List.mem_append_left _ hp')
        refine ⟨_, d14, by rw [List.length_map]; exact szl (by omega), Same.mut (s3.trans s4) hD, bs ++ [(nb, p.2.2.nd)], ?_, ?_, fun q hq => ?_⟩
        · rw [upd_same, List.map_append]
          rfl
        · rw [List.map_append, List.map_append, d2]
          rfl
        · rcases List.mem_append.mp hq with hq | hq
          · exact (d34 q hq).keepL T (boks q hq) d14 hcc
          · rw [List.mem_singleton.mp hq]
            exact n4.keepL T (hoks p hp) d14 hcc
      · obtain ⟨s3, bs, d1, d2, d3⟩ := q
        intro pa dy hpa hdy hne
        refine ⟨ndsOf (ps.map (·.2.2)), trivial, pa, D, dy, bs, H3, rfl, hpa, (Same.new hdy).trans (Same.new (by rw [upd_ne hne.symm]; exact hpa)), upd_same, d1, ?_, ?_, ch, d3, fun H4 x4 pg => ⟨rfl, ?_⟩⟩
        · rw [d2]
          unfold ndsOf
          rw [List.map_map]
          rfl
        · intro h0
          have := congrArg List.length h0
          unfold ndsOf at this
          rw [List.length_map, List.length_map] at this
          exact hok.ne (List.eq_nil_of_length_eq_zero this)
        have s24 : Same H2 H4 := s3.trans (new_same hpa hdy x4)
        have hl4 := s24 _ _ hl
        have hen4 : ∀ p, p ∈ ps → EnO K H4 p := fun p hp => (hen p hp).monoN (Same.n s24)
        have s04 : Same H H4 := s0.trans (s2.trans s24)
        clear x4 s24 s3 d1 d3 hl hen x2 s2 s1 b1 hb hD hpa hdy hne
        obtain ⟨ps', pl, e0⟩ : ∃ ps' pl, ps = ps' ++ [pl] := ⟨ps.dropLast, ps.getLast hok.ne, (List.dropLast_concat_getLast hok.ne).symm⟩
        have hpl : pl ∈ ps := by
          rw [e0]
          simp
        have hat : atI (ps.map fun p : PL => V.ref p.1) (-1) = some (.ref pl.1) := by
          rw [e0, List.map_append]
          exact at_neg _ _
        refine ⟨2, rfl, by decide, by decide, ?_⟩
        refine for_map (wm_range 2) (fun pre σ H' => Same H4 H' ∧ ∃ y5 y6, σ = [some (.ref a), some (.int (i : Int)), some (.ref b), some (.ref l), some (.ref pa), y5, y6]) ⟨Same.refl _, y5, y6, rfl⟩ (fun _ _ _ _ => trivial) (fun pre2 j post2 σ H5 e2 q => ?_) (fun σ H5 q => ?_)
        · obtain ⟨s5, z5, z6, rfl⟩ := q
          have hj : j < 2 := (range_pre e2).2.2
          refine ⟨_, rfl, l, rfl, 1, rfl, sz (n := 2) (by decide), fun L hL => ?_⟩
          have s6 : Same H5 (upd H5 L (.lst [.int 1, .int (-1)])) := Same.new hL
          have g6 : upd H5 L (.lst [.int 1, .int (-1)]) L = some (.lst [.int 1, .int (-1)]) := upd_same
          show tVar 5 _ (upd H5 L (.lst [.int 1, .int (-1)])) _
          generalize upd H5 L (.lst [.int 1, .int (-1)]) = H6 at s6 g6 ⊢
          have hv : atI [V.int 1, .int (-1)] (j : Int) = some (.int (if decide (j = 1) = true then -1 else 1)) := by
            have h2 : j = 0 ∨ j = 1 := by omega
            rcases h2 with rfl | rfl <;> rfl
          refine ⟨_, rfl, L, _, _, _, rfl, rfl, SqL.of g6, hv, decide (j = 1), _, rfl, SqL.of ((s5.trans s6) _ _ hl4), fun p hp => ?_⟩
          obtain ⟨qs, hqs, hqm⟩ : ∃ qs : List PL, (if decide (j = 1) = true then (ps.map fun p : PL => V.ref p.1).reverse else ps.map fun p : PL => V.ref p.1) = qs.map (fun p : PL => V.ref p.1) ∧ ∀ q, q ∈ qs → q ∈ ps := by
            by_cases c : decide (j = 1) = true
            · exact ⟨ps.reverse, by rw [if_pos c, List.map_reverse], fun q hq => List.mem_reverse.mp hq⟩
            · exact ⟨ps, by rw [if_neg c], fun q hq => hq⟩
          rw [hqs]
          have s7 : Same H6 (upd H6 p (.lst (qs.map fun p : PL => V.ref p.1))) := Same.new hp
          have g7 : upd H6 p (.lst (qs.map fun p : PL => V.ref p.1)) p = some (.lst (qs.map fun p : PL => V.ref p.1)) := upd_same
          generalize upd H6 p (.lst (qs.map fun p : PL => V.ref p.1)) = H7 at s7 g7 ⊢
          refine ⟨p, rfl, ⟨_, SqL.of g7⟩, ?_⟩
          have s47 : Same H4 H7 := s5.trans (s6.trans s7)
          refine for_map (wm_list qs fun p : PL => V.ref p.1) (fun pre σ H' => Same H7 H' ∧ ∃ y6, σ = [some (.ref a), some (.int (i : Int)), some (.ref b), some (.ref l), some (.ref pa), some (.int (j : Int)), y6]) ⟨Same.refl _, z6, rfl⟩ (fun pre H' H8 q => SqL.of (q.1 _ _ g7)) (fun pre3 r post3 σ H8 e3 q => ?_) (fun σ H8 q => ?_)
          · obtain ⟨s8, x6, rfl⟩ := q
            have hr : r ∈ ps := hqm r (by
              rw [e3]
              simp)
            obtain ⟨t, ht⟩ := List.getElem?_of_mem hr
            have ht2 := pk ht
            obtain ⟨l1, l2, l3⟩ := hok.ok.law ht2
            have er := (hen4 r hr).monoN (Same.n (s47.trans s8))
            refine ⟨_, rfl, _, rfl, pa, r.1, r.2.1, _, _, t, r.2.2.nd, rfl, pg.mono (s47.trans s8), shs, nd_at ht2, ?_, er.2, fun H9 s9 => ⟨true, rfl, iteF ⟨s8.trans s9, _, rfl⟩⟩⟩
            rw [← l1, ← l2, ← l3]
            exact er.1
          · obtain ⟨s8, x6, rfl⟩ := q
            exact ⟨s47.trans s8, _, _, rfl⟩
        · obtain ⟨s5, z5, z6, rfl⟩ := q
          have el := (hen4 pl hpl).monoN (Same.n s5)
          obtain ⟨ii, oo, rr, ds, n1, _⟩ := id el.2
          have hnl : pl.2.2.a.name.length ≤ 7 := by
            rw [hok.ln pl hpl]
            exact hok.n7
          have hl5 := s5 _ _ hl4
          refine ⟨_, rfl, _, rfl, _, rfl, l, _, -1, .ref pl.1, rfl, rfl, SqL.of hl5, hat, pl.1, _, 0, .ref pl.2.1, rfl, rfl, el.1, rfl, pl.2.1, _, 0, .str pl.2.2.a.name, rfl, rfl, n1, rfl, ?_⟩
          refine ⟨pl.2.2.a.name, rfl, sz (Nat.le_trans hnl (by decide)), _, _, rfl, rfl, true, ?_, iteT ?_⟩
          · show V.bl (decide (((pl.2.2.a.name.length : Nat) : Int) < 8)) = _
            rw [decide_eq_true (by omega)]
          refine ⟨_, rfl, _, rfl, l, _, -1, .ref pl.1, rfl, rfl, SqL.of hl5, hat, pl.1, _, 0, .ref pl.2.1, rfl, rfl, el.1, rfl, pl.2.1, _, 0, .str pl.2.2.a.name, rfl, rfl, n1, rfl, _, _, rfl, rfl, sz ?_, ?_⟩
          · show pl.2.2.a.name.length + 1 ≤ 1000000
            omega
          refine ⟨pa, _, ndsOf (ps.map fun p : PL => p.2.2), rfl, pg.mono s5, fun hm => ?_, fun H6 s6 => ⟨true, rfl, iteF ⟨s04.trans (s5.trans s6), _, _, _, _, _, _, rfl⟩⟩⟩
          unfold ndsOf at hm
          rw [List.map_map, List.map_map] at hm
          obtain ⟨r, hr, er⟩ := List.mem_map.mp hm
          have er : r.2.2.a.name = pl.2.2.a.name ++ "q" := er
          have h1 := congrArg Str.length er
          rw [hok.ln r hr, Str.length_append, hok.ln pl hpl] at h1
          have h2 : ("q" : Str).length = 1 := rfl
          omega
    · exact k H0
end
end K99
/-! KEnd -/
namespace K99
open PySem PySem.Spec PyProof.Rows L2
theorem facts {P : Program} {w : World} {K : PySem.W.Frag} {h : Heap} {mg : Str → Option Value} {f : Addr} (X : K.In h) (G : h.Ns mainGlobals mg) (hfa : mg ("law" : Str) = some (.ref f)) (c : He.SaysD fa fn K) (ex : exF K = true) :
    ∃ fd : FuncData, (∀ (s : Shared) (v : Value), BindsTo s fd ⟨[v], []⟩ [("_law_script", v)]) ∧ ∀ base : Heap, K.In base → base.Ns mainGlobals mg → FnOk P w K mg base CX0 62 f fd ["_law_script"] (spLaw K) := by
  have T : Txt K mg := txt_of X G c ex
  have e := hfa.symm.trans T.g_law
  cases e
  have b := FunD.bindsA (ps := ["_law_script"]) T.F_law fun _ _ _ _ _ _ us hl => match us, hl with | [_], _ => rfl
  exact ⟨_, fun s v => b s [v] rfl, fun base _ _ => ok_law T⟩
end K99
open PySem PySem.W PySem.Calls PyProof.Rows
namespace K99
abbrev QV : Program := view R.prog [106]
theorem o_call : WalkO QV tnames (XL QV []) hk.says R.toRowW (HandSHeadRun.topDef R.prog 106) [] (fun f vs => PySem.call f vs) := by
    refine L2.walk_ofE (l := PySem.Challenge.rw_beatrows_k99_whole_chains_of_many_calls) (n := 63) (k := 62) (x := "_law_script") (CX := L2.CX0) rfl (by decide) (by kernel_rfl) ⟨rfl, by decide, by decide⟩ ?F (fun _ _ _ _ z => z)
    intro w mg f h Y G hmg0
    obtain ⟨K, KX, c, ex⟩ := Y
    have hmg : mg ("law" : PySem.Str) = some (.ref f) := by
      have e : (HandSHeadRun.topDef R.prog 106).name = ("law" : PySem.Str) := by kernel_rfl
      rw [← e]
      exact hmg0
    obtain ⟨fd, hb, hF⟩ := facts (P := (PySem.Challenge.rw_beatrows_k99_whole_chains_of_many_calls).prog) (w := w) KX G hmg c ex
    exact ⟨K, fd, spLaw K, KX, hb, fun H a ns hl _ hS => ⟨a, ns, rfl, hS, hl, fun _ => rfl⟩, hF⟩
theorem o_e : opening R.prog = plainProg R.prog.main.scope.names := by kernel_rfl
theorem o_f (s : Shared) : fenceModules? R.prog s = some s := by kernel_rfl
theorem o_def : defOf QV R.name = some (HandSHeadRun.topDef R.prog 106, []) := by kernel_rfl
theorem o_p : R.prog.theDef R.name = some ((HandSHeadRun.topDef R.prog 106).params, (HandSHeadRun.topDef R.prog 106).body, (HandSHeadRun.topDef R.prog 106).scope) := by kernel_rfl
theorem o_k : kwWritten? (HandSHeadRun.topDef R.prog 106).params.kwonlyargs (HandSHeadRun.topDef R.prog 106).params.kw_defaults = some [] := by kernel_rfl
theorem o_ok : (chainsOk QV && opensWell R.prog && (frees R.toRowW && R.within.isEmpty)) = true := by decide +kernel
theorem o_hw : R.toRowW.promised := by w_witness2
theorem o_last (hb : R.prog.bare) (said : R.wellSaid = true) : R.Holds :=
  HandSHeadRun.head_any (r := R) (q := QV) (H := hk) (ob := ob) (M := 60000) (loose := tnames) (d := HandSHeadRun.topDef R.prog 106) (kwd := []) ob_eq o_e o_f run o_def o_p o_k rfl said o_ok hb o_hw o_call
theorem o_b : R.prog.bare := ⟨rfl, rfl, rfl, rfl, rfl, by decide +kernel⟩
end K99
theorem PySem.Challenge.cw_beatrows_k99_whole_chains_of_many_calls_holds : PySem.Challenge.rw_beatrows_k99_whole_chains_of_many_calls.Holds := by
  w_on
  o_law
  refine K99.o_last K99.o_b ?_
  assumption
